import PyProof.Rows.All
import Wide.All
import OpenK.AllK
import Wide.FinOn
import HandS.ForMost
import HandS.Flow
import HandS.Style
import HandS.Wide
import HandS.TupAny
import HandS.TupMul
import HandS.Deep
import HandS.Conv
import HandS.More
import HandS.IsInst
import HandS.Walk
import HandS.MakeKwOnly
import HandS.CallLocal
import HandS.NoneIn
import KE.KUnpackStar
import PyProof.DictUpdate
import HandS.Text
import HandS.ExcInit
import HandS.ExcOwn
import HandS.ExcField
import HandS.ExcIs
import HandS.ExcBuiltin
import HandS.WordsExc
import HandS.CallSlots
import KE.KExcInit
import HandS.TryOnly
import PyProof.ExcBaseAll.LookupError
import PyProof.ExcBaseAll.IndexError
import PyProof.ExcBaseAll.RuntimeError
import PyProof.ExcBaseAll.ArithmeticError
import PyProof.ExcBaseAll.OverflowError
import PyProof.RulesRaise
import PyProof.FactsTree
import HandS.ExcInitHot
import HandS.SuiteRaise
import HandS.RaiseFrom
import HandS.Ends
import PyProof.ReprRoads
import HandS.HeadEnd
import PyProof.FitsInt
import PyProof.StrLawsRepr
import HandS.DeepEq
import HandS.Finally
import HandS.WrittenGet
import PyProof.Rows.StrStep
import PyProof.Rows.StrRev
import PyProof.Rows.StrFit
import PyProof.Rows.StrMul
import PyProof.StrBlock2
import KE.IntTextText
import KE.KIntText
import HandS.Codes
import HandS.ExcValue
import HandS.Zip
import KE.GoesNew
import HandS.Rev
import HandS.RevTup
import HandS.SortKw
import KE.KDictKeyed
import HandS.Small
import PyProof.ListRange
import HandS.Sort
import HandS.Head0
import HandS.Head1
import HandS.Head2
import HandS.HeadHook1
import HandS.HeadHook2
import HandS.HeadHook3
import HandS.HeadHook4
import HandS.FStr
import PySem.Challenge.RW_threereckons_k18_trees_written_and_read
set_option Elab.async false
set_option linter.all false
set_option maxRecDepth 100000
set_option maxHeartbeats 4000000
namespace Fw
open PySem PySem.Spec PyProof.Rows L2

/-! ### callees -/
structure Fn (P : Program) (w : World) (K : PySem.W.Frag) (mg : Str → Option Value) (base : Heap) (CX : CXT) (k : Nat) (x : Str) (ps : List Str) (sp : Sp) : Prop where
  ex : ∃ (f : Addr) (fd : FuncData), mg x = some (.ref f) ∧ PySem.W.keepIn K (.ref f) = true ∧ Binds K fd ps [] ∧ FnOk P w K mg base CX k f fd ps sp
section
variable {X : Cx} {CX : CXT} {k j : Nat} {ps : List Str} {sp : Sp} {E : XK} {x : Str} {p pos : Pos} {e : Expr} {es : List Expr} {t : TA}
theorem pe_fn (F : Fn X.prog X.w X.K X.mg X.base CX k x ps sp) (hr : Room j X.A) (hk : k ≤ j) (hg : Gl X x) (hx : Passes CX X E) (ha : PA X (e :: es) t) (hdb : (x == ("__debug__" : Str)) = false := by decide)
    (he : starEach (e :: es) X.env = (false, eval e X.env) :: starEach es X.env := by rfl) (hpl : (backTo pos (starEach es X.env)).any (·.1) = false := by rfl) : PE X (.Call (.Name x p) (e :: es) [] pos) (tCall sp [] E t) := by
  obtain ⟨f, fd, hm, hkp, hb, F⟩ := F.ex
  exact pe_call F (hr.mono hk) hg hm hkp hb .nil hx ha hdb he hpl
theorem pe_fn0 (F : Fn X.prog X.w X.K X.mg X.base CX k x ps sp) (hr : Room j X.A) (hk : k ≤ j) (hg : Gl X x) (hx : Passes CX X E) (hdb : (x == ("__debug__" : Str)) = false := by decide) : PE X (.Call (.Name x p) [] [] pos) (tCall sp [] E tNil) := by
  obtain ⟨f, fd, hm, hkp, hb, F⟩ := F.ex
  exact pe_call0 F (hr.mono hk) hg hm hkp hb .nil hx hdb
end
theorem Fn.mono {P : Program} {w : World} {K : PySem.W.Frag} {mg : Str → Option Value} {base : Heap} {CX : CXT} {j k : Nat} {x : Str} {ps : List Str} {sp : Sp} (F : Fn P w K mg base CX j x ps sp) (h : j ≤ k) : Fn P w K mg base CX k x ps sp := by
  obtain ⟨f, fd, hm, hkp, hb, F⟩ := F.ex
  exact ⟨f, fd, hm, hkp, hb, F.mono h⟩

/-! ### universal operators -/
section
variable {X : Cx}
def uAdd (K : PySem.W.Frag) : R2 := fun x y H Q => (∃ i j, x = .int i ∧ y = .int j ∧ Q (.int (i + j)) H) ∨ (∃ i j, x = .str i ∧ y = .str j ∧ i.length + j.length ≤ sizeLine ∧ Q (.str (i ++ j)) H) ∨ rCat x y H Q ∨ rCatA K x y H Q
theorem op_addU {K : PySem.W.Frag} (hK : X.K = K := by rfl) : OpR X (binaryOp .Add) (uAdd K) := hK ▸ OpR.or op_add (OpR.or op_add_str (OpR.or op_cat op_catA))
def uMul (K : PySem.W.Frag) : R2 := fun x y H Q => (rI CMul fun i j => .int (i * j)) x y H Q ∨ rRep x y H Q ∨ rRepT K x y H Q
theorem op_mulU {K : PySem.W.Frag} (hK : X.K = K := by rfl) : OpR X (binaryOp .Mult) (uMul K) := hK ▸ OpR.or op_mul (OpR.or op_rep op_repT)
def uEq (K : PySem.W.Frag) : R2 := fun x y H Q => rEq x y H Q ∨ rEqD K x y H Q
def uNe (K : PySem.W.Frag) : R2 := fun x y H Q => rNe x y H Q ∨ rNeD K x y H Q
theorem op_eqU {K : PySem.W.Frag} {k : Nat} (hr : Room k X.A) (hK : X.K = K := by rfl) : OpR X (compareOp .Eq) (uEq K) := hK ▸ OpR.or op_eq (op_eqD hr.units)
theorem op_neU {K : PySem.W.Frag} {k : Nat} (hr : Room k X.A) (hK : X.K = K := by rfl) : OpR X (compareOp .NotEq) (uNe K) := hK ▸ OpR.or op_ne (op_neD hr.units)
def uIs : R2 := fun x y H Q => (y = .non ∧ Q (.bl (decide (x = .non))) H) ∨ rIsB x y H Q
def uIsNot : R2 := fun x y H Q => (y = .non ∧ Q (.bl (!decide (x = .non))) H) ∨ rNotB x y H Q
theorem op_isU : OpR X (compareOp .Is) uIs := OpR.or op_isN op_isBl
theorem op_isNotU : OpR X (compareOp .IsNot) uIsNot := OpR.or op_notN op_notBl
end
section
variable {X : Cx}
theorem pe_powc {i j z : Int} {k1 k2 : Nat} {p1 p2 pos : Pos} (h : CPow i j) (e : i ^ j.toNat = z) : PE X (.BinOp (.Constant (.int i) k1 p1) .Pow (.Constant (.int j) k2 p2) pos) (tC (.int z)) := by
  refine ⟨fun pins s σ H Q I q => (pe_op op_pow pe_int pe_int).run pins s σ H Q I ⟨i, j, rfl, rfl, h, ?_⟩⟩
  show Q (.int (i ^ j.toNat)) H
  rw [e]
  exact q
end
/-! ### a def's body, its slots written out -/
section
variable {P : Program} {w : World} {K : PySem.W.Frag} {mg : Str → Option Value} {base : Heap}
theorem okS {x qual : Str} {st : Stmt} {f : Addr} {fd : FuncData} {N ps : List Str} {k : Nat} {sp : Sp} (F : Fun K x qual st f fd) (S : FnScope N ps (defScope st)) (len : ∀ vs H Q E, sp vs H Q E → vs.length = ps.length)
    (hbody : ∀ (cdv : Value) (A : Around) (outer : List Env) (s : Shared) (H : Hp) (vs : List V) (Q : VK) (E : XK), Room k (A.deeper (envOfC qual (defScope st) s.heap.objs.size f cdv)) → sp vs H Q E →
      ∃ t σ, PSs (cxOf CX0 P w K mg base N qual (defScope st) f cdv A outer s H E).nox (defBody st) t ∧ L2.start N vs = σ ∧ t { nx := fun _ H' => Q .non H', rt := Q } σ H) : FnOk P w K mg base CX0 (k + 1) f fd ps sp := by
  refine F.ok S len fun cdv A outer s H vs Q E hr h => ?_
  obtain ⟨t, σ, h1, rfl, h2⟩ := hbody cdv A outer s H vs Q E hr h
  exact ⟨t, h1, h2⟩
end
end Fw
namespace Fw
open PySem PySem.Spec PyProof.Rows L2

/-! ### heaps: what is seen without some addresses -/
def del (H : Hp) (M : List Addr) : Hp := fun a => if a ∈ M then none else H a
theorem del_in {H : Hp} {M : List Addr} {a : Addr} (h : a ∈ M) : del H M a = none := by unfold del; rw [if_pos h]
theorem del_out {H : Hp} {M : List Addr} {a : Addr} (h : a ∉ M) : del H M a = H a := by unfold del; rw [if_neg h]
theorem del_some {H : Hp} {M : List Addr} {a : Addr} {o : HO} (h : del H M a = some o) : a ∉ M ∧ H a = some o := by
  unfold del at h
  split at h
  · cases h
  · rename_i q; exact ⟨q, h⟩
def Ext (H H' : Hp) : Prop := ∀ a o, H a = some o → H' a = some o
def Ex (M : List Addr) (H H' : Hp) : Prop := ∀ a o, a ∉ M → H a = some o → H' a = some o
theorem Ex.refl {M : List Addr} {H : Hp} : Ex M H H := fun _ _ _ h => h
theorem Ex.trans {M : List Addr} {H H1 H2 : Hp} (a : Ex M H H1) (b : Ex M H1 H2) : Ex M H H2 := fun c o n h => b c o n (a c o n h)
theorem Ex.sub {M M' : List Addr} {H H1 : Hp} (a : Ex M H H1) (s : ∀ x ∈ M, x ∈ M') : Ex M' H H1 := fun c o n h => a c o (fun z => n (s c z)) h
theorem Ex.new {M : List Addr} {H : Hp} {p : Addr} {o : HO} (h : H p = none) : Ex M H (upd H p o) := fun a u _ e => by rw [upd_ne (ne_of_none e h)]; exact e
theorem Ex.upd {M : List Addr} {H : Hp} {p : Addr} {o : HO} (h : p ∈ M) : Ex M H (upd H p o) := fun a u n e => by
  rw [upd_ne (fun z => n (by rw [z]; exact h))]; exact e
theorem Ex.ext {H H' : Hp} (h : Ex [] H H') : Ext H H' := fun a o e => h a o (fun z => nomatch z) e
theorem Ext.sqL {K : PySem.W.Frag} {H H' : Hp} {a : Addr} {xs : List V} (e : Ext H H') (h : SqL K H a xs) : SqL K H' a xs := by
  rcases h with (h | ⟨o, h⟩) | h
  · exact .inl (.inl (e _ _ h))
  · exact .inl (.inr ⟨o, e _ _ h⟩)
  · exact .inr h
theorem Ext.sqT {K : PySem.W.Frag} {H H' : Hp} {a : Addr} {xs : List V} (e : Ext H H') (h : SqT K H a xs) : SqT K H' a xs := by
  rcases h with (h | ⟨o, h⟩) | h
  · exact .inl (.inl (e _ _ h))
  · exact .inl (.inr ⟨o, e _ _ h⟩)
  · exact .inr h
/-! ### data as a whole: lists are tracked, tuples tracked or written -/
mutual
inductive Dd (K : PySem.W.Frag) (H : Hp) : V → PyData → Prop
  | non : Dd K H .non .none
  | bl (b : Bool) : Dd K H (.bl b) (.bool b)
  | int (i : Int) : Dd K H (.int i) (.int i)
  | str (x : Str) : Dd K H (.str x) (.str x)
  | lst {a : Addr} {xs : List V} {ds : List PyData} : H a = some (.lst xs) → DdAll K H xs ds → Dd K H (.ref a) (.list ds)
  | tup {a : Addr} {xs : List V} {ds : List PyData} : SqT K H a xs → DdAll K H xs ds → Dd K H (.ref a) (.tuple ds)
inductive DdAll (K : PySem.W.Frag) (H : Hp) : List V → List PyData → Prop
  | nil : DdAll K H [] []
  | cons {v : V} {vs : List V} {d : PyData} {ds : List PyData} : Dd K H v d → DdAll K H vs ds → DdAll K H (v :: vs) (d :: ds)
end
mutual
theorem Dd.ext {K : PySem.W.Frag} {H H' : Hp} (e : Ext H H') : ∀ {d : PyData} {v : V}, Dd K H v d → Dd K H' v d
  | _, _, .non => .non
  | _, _, .bl b => .bl b
  | _, _, .int i => .int i
  | _, _, .str x => .str x
  | _, _, .lst q r => .lst (e _ _ q) (DdAll.ext e r)
  | _, _, .tup q r => .tup (e.sqT q) (DdAll.ext e r)
theorem DdAll.ext {K : PySem.W.Frag} {H H' : Hp} (e : Ext H H') : ∀ {ds : List PyData} {vs : List V}, DdAll K H vs ds → DdAll K H' vs ds
  | _, _, .nil => .nil
  | _, _, .cons a b => .cons (Dd.ext e a) (DdAll.ext e b)
end
mutual
theorem Dd.dp {K : PySem.W.Frag} {H : Hp} : ∀ {d : PyData} {v : V}, Dd K H v d → Dp K H v d
  | _, _, .non => .non
  | _, _, .bl b => .bl b
  | _, _, .int i => .int i
  | _, _, .str x => .str x
  | _, _, .lst q r => .lst (SqL.of q) (DdAll.dp r)
  | _, _, .tup q r => .tup q (DdAll.dp r)
theorem DdAll.dp {K : PySem.W.Frag} {H : Hp} : ∀ {ds : List PyData} {vs : List V}, DdAll K H vs ds → DpAll K H vs ds
  | _, _, .nil => .nil
  | _, _, .cons a b => .cons (Dd.dp a) (DdAll.dp b)
end
theorem DdAll.length {K : PySem.W.Frag} {H : Hp} : ∀ {vs : List V} {ds : List PyData}, DdAll K H vs ds → vs.length = ds.length
  | _, _, .nil => rfl
  | _, _, .cons _ b => congrArg Nat.succ (DdAll.length b)
theorem DdAll.get {K : PySem.W.Frag} {H : Hp} : ∀ {vs : List V} {ds : List PyData} {i : Nat} {d : PyData}, DdAll K H vs ds → ds[i]? = some d → ∃ v, vs[i]? = some v ∧ Dd K H v d
  | _, _, _, _, .nil, e => by simp at e
  | _, _, 0, _, .cons a _, e => by simp at e; subst e; exact ⟨_, rfl, a⟩
  | _, _, i + 1, _, .cons _ b, e => by
    obtain ⟨v, h1, h2⟩ := DdAll.get (i := i) b (by simpa using e)
    exact ⟨v, by simpa using h1, h2⟩
theorem DdAll.append {K : PySem.W.Frag} {H : Hp} : ∀ {vs : List V} {ds : List PyData} {ws : List V} {es : List PyData}, DdAll K H vs ds → DdAll K H ws es → DdAll K H (vs ++ ws) (ds ++ es)
  | _, _, _, _, .nil, q => q
  | _, _, _, _, .cons a b, q => .cons a (DdAll.append b q)
theorem DdAll.drop {K : PySem.W.Frag} {H : Hp} : ∀ (n : Nat) {vs : List V} {ds : List PyData}, DdAll K H vs ds → DdAll K H (vs.drop n) (ds.drop n)
  | 0, _, _, q => q
  | _ + 1, _, _, .nil => .nil
  | n + 1, _, _, .cons _ b => DdAll.drop n b
theorem DdAll.take {K : PySem.W.Frag} {H : Hp} : ∀ (n : Nat) {vs : List V} {ds : List PyData}, DdAll K H vs ds → DdAll K H (vs.take n) (ds.take n)
  | 0, _, _, _ => .nil
  | _ + 1, _, _, .nil => .nil
  | n + 1, _, _, .cons a b => .cons a (DdAll.take n b)
theorem DdAll.ints {K : PySem.W.Frag} {H : Hp} : ∀ (ns : List Int), DdAll K H (ns.map V.int) (ns.map PyData.int)
  | [] => .nil
  | i :: r => .cons (.int i) (DdAll.ints r)

abbrev Rp (K : PySem.W.Frag) (M : List Addr) (H : Hp) (v : V) (d : PyData) : Prop := Dd K (del H M) v d
abbrev RpAll (K : PySem.W.Frag) (M : List Addr) (H : Hp) (v : List V) (d : List PyData) : Prop := DdAll K (del H M) v d
theorem del_ext {M M' Mc : List Addr} {H H' : Hp} (e : Ex Mc H H') (h1 : ∀ x ∈ Mc, x ∈ M) (h2 : ∀ x ∈ M', x ∉ M → H x = none) : Ext (del H M) (del H' M') := fun a o h => by
  obtain ⟨n, q⟩ := del_some h
  have n' : a ∉ M' := fun z => by have := h2 a z n; rw [q] at this; cases this
  rw [del_out n']
  exact e a o (fun z => n (h1 a z)) q
theorem del_sub {M M' : List Addr} {H : Hp} (h : ∀ x ∈ M', x ∈ M) : Ext (del H M) (del H M') := fun a o q => by
  obtain ⟨n, q⟩ := del_some q
  rw [del_out (fun z => n (h a z))]
  exact q
theorem del_all {M : List Addr} {H : Hp} : Ext (del H M) H := fun a o q => (del_some q).2
theorem Rp.dd {K : PySem.W.Frag} {M : List Addr} {H : Hp} {v : V} {d : PyData} (h : Rp K M H v d) : Dd K H v d := Dd.ext del_all h
theorem Rp.dp {K : PySem.W.Frag} {M : List Addr} {H : Hp} {v : V} {d : PyData} (h : Rp K M H v d) : Dp K H v d := (Dd.ext del_all h).dp
theorem Rp.less {K : PySem.W.Frag} {M M' : List Addr} {H : Hp} {v : V} {d : PyData} (h : Rp K M H v d) (s : ∀ x ∈ M', x ∈ M) : Rp K M' H v d := Dd.ext (del_sub s) h
theorem Rp.call {K : PySem.W.Frag} {M : List Addr} {H H' : Hp} {v : V} {d : PyData} {Mc : List Addr} (h : Rp K M H v d) (e : Ex Mc H H') (h1 : ∀ x ∈ Mc, x ∈ M) : Rp K M H' v d := Dd.ext (del_ext e h1 fun _ a b => absurd a b) h

theorem Rp.unL {K : PySem.W.Frag} {M : List Addr} {H : Hp} {a : Addr} {ds : List PyData} (h : Rp K M H (.ref a) (.list ds)) : ∃ xs, H a = some (.lst xs) ∧ RpAll K M H xs ds := by
  cases h with
  | lst q r => exact ⟨_, del_all _ _ q, r⟩
theorem Rp.unT {K : PySem.W.Frag} {M : List Addr} {H : Hp} {a : Addr} {ds : List PyData} (h : Rp K M H (.ref a) (.tuple ds)) : ∃ xs, SqT K H a xs ∧ RpAll K M H xs ds := by
  cases h with
  | tup q r => exact ⟨_, del_all.sqT q, r⟩
theorem DdAll.ints_inv {K : PySem.W.Frag} {H : Hp} : ∀ {ns : List Int} {xs : List V}, DdAll K H xs (ns.map PyData.int) → xs = ns.map V.int
  | [], _, .nil => rfl
  | _ :: _, _, .cons a b => by
    cases a
    rw [DdAll.ints_inv b]; rfl
theorem DdAll.strs_inv {K : PySem.W.Frag} {H : Hp} : ∀ {ns : List Str} {xs : List V}, DdAll K H xs (ns.map PyData.str) → xs = ns.map V.str
  | [], _, .nil => rfl
  | _ :: _, _, .cons a b => by
    cases a
    rw [DdAll.strs_inv b]; rfl
theorem DdAll.strs {K : PySem.W.Frag} {H : Hp} : ∀ (ns : List Str), DdAll K H (ns.map V.str) (ns.map PyData.str)
  | [] => .nil
  | i :: r => .cons (.str i) (DdAll.strs r)
theorem Rp.ints {K : PySem.W.Frag} {M : List Addr} {H : Hp} {a : Addr} {ns : List Int} (h : Rp K M H (.ref a) (.list (ns.map PyData.int))) : H a = some (.lst (ns.map V.int)) := by
  obtain ⟨xs, q, r⟩ := Rp.unL h
  rw [DdAll.ints_inv r] at q
  exact q
theorem Rp.strs {K : PySem.W.Frag} {M : List Addr} {H : Hp} {a : Addr} {ns : List Str} (h : Rp K M H (.ref a) (.list (ns.map PyData.str))) : H a = some (.lst (ns.map V.str)) := by
  obtain ⟨xs, q, r⟩ := Rp.unL h
  rw [DdAll.strs_inv r] at q
  exact q
theorem Rp.ints_of {K : PySem.W.Frag} {M : List Addr} {H : Hp} {a : Addr} {ns : List Int} (h : del H M a = some (.lst (ns.map V.int))) : Rp K M H (.ref a) (.list (ns.map PyData.int)) := .lst h (DdAll.ints ns)
theorem del_nil {H : Hp} : del H [] = H := by funext a; exact del_out (fun z => nomatch z)
abbrev Al (M : List Addr) (H : Hp) : Prop := ∀ a ∈ M, H a ≠ none
/-! ### facts that stand: data, a thing's content, a tuple's -/
inductive Fa where
  | rp (v : V) (d : PyData)
  | kn (p : Addr) (o : HO)
  | tp (p : Addr) (xs : List V)
  | al (vs : List V) (ds : List PyData)
  | px (p : Hp → Prop) (m : ∀ {H H' : Hp}, Ext H H' → p H → p H')
def Fa.ok (K : PySem.W.Frag) (H : Hp) : Fa → Prop
  | .rp v d => Dd K H v d
  | .kn p o => H p = some o
  | .tp p xs => SqT K H p xs
  | .al vs ds => DdAll K H vs ds
  | .px p _ => p H
theorem Fa.ext {K : PySem.W.Frag} {H H' : Hp} (e : Ext H H') : ∀ {r : Fa}, r.ok K H → r.ok K H'
  | .rp _ _, h => Dd.ext e h
  | .kn _ _, h => e _ _ h
  | .tp _ _, h => e.sqT h
  | .al _ _, h => DdAll.ext e h
  | .px _ m, h => m e h
/-! ### the state: owned cells L, facts R -/
abbrev av (L : List (Addr × HO)) (M0 : List Addr) : List Addr := L.map (·.1) ++ M0
structure W (K : PySem.W.Frag) (H0 : Hp) (Ms M0 : List Addr) (H : Hp) (L : List (Addr × HO)) (R : List Fa) : Prop where
  ex : Ex Ms H0 H
  al : ∀ a ∈ M0, H a ≠ none
  nd : (L.map (·.1)).Nodup
  cell : ∀ p ∈ L, H p.1 = some p.2
  own : ∀ p ∈ L, p.1 ∈ Ms ∨ (H0 p.1 = none ∧ p.1 ∉ M0)
  rep : ∀ r ∈ R, r.ok K (del H (av L M0))
section
variable {K : PySem.W.Frag} {H0 H H' : Hp} {Ms M0 : List Addr} {L : List (Addr × HO)} {R : List Fa} {p b : Addr} {o o' : HO} {i : Nat} {v : V} {d : PyData}
theorem W.at (w : W K H0 Ms M0 H L R) (i : Nat) (h : L[i]? = some (p, o)) : H p = some o := w.cell _ (List.mem_of_getElem? h)
theorem W.rp (w : W K H0 Ms M0 H L R) (i : Nat) (h : R[i]? = some (.rp v d)) : Rp K (av L M0) H v d := w.rep _ (List.mem_of_getElem? h)
theorem W.kn (w : W K H0 Ms M0 H L R) (i : Nat) (h : R[i]? = some (.kn p o)) : H p = some o := del_all _ _ (w.rep _ (List.mem_of_getElem? h))
theorem W.tp {xs : List V} (w : W K H0 Ms M0 H L R) (i : Nat) (h : R[i]? = some (.tp p xs)) : SqT K H p xs := del_all.sqT (w.rep _ (List.mem_of_getElem? h))
theorem W.all {vs : List V} {ds : List PyData} (w : W K H0 Ms M0 H L R) (i : Nat) (h : R[i]? = some (.al vs ds)) : RpAll K (av L M0) H vs ds := w.rep _ (List.mem_of_getElem? h)
theorem W.px {q : Hp → Prop} {m : ∀ {H H' : Hp}, Ext H H' → q H → q H'} (w : W K H0 Ms M0 H L R) (i : Nat) (h : R[i]? = some (.px q m)) : q (del H (av L M0)) := w.rep _ (List.mem_of_getElem? h)
theorem W.alloc' (w : W K H0 Ms M0 H L R) : ∀ a ∈ av L M0, H a ≠ none := fun a ha => by
  rcases List.mem_append.mp ha with h | h
  · obtain ⟨q, hq, e⟩ := List.mem_map.mp h
    rw [← e, w.cell q hq]; exact fun z => nomatch z
  · exact w.al a h
theorem W.new (w : W K H0 Ms M0 H L R) (h : H p = none) (o : HO) : W K H0 Ms M0 (upd H p o) ((p, o) :: L) R where
  ex := w.ex.trans (Ex.new h)
  al := fun a ha => by
    have := w.al a ha
    cases q : H a with
    | none => exact absurd q this
    | some u => rw [upd_ne (ne_of_none q h), q]; exact fun z => nomatch z
  nd := by
    refine List.nodup_cons.mpr ⟨fun z => ?_, w.nd⟩
    obtain ⟨q, hq, e⟩ := List.mem_map.mp z
    have := w.cell q hq
    rw [e, h] at this; cases this
  cell := fun q hq => by
    rcases List.mem_cons.mp hq with rfl | hq
    · exact upd_same
    · have := w.cell q hq
      rw [upd_ne (ne_of_none this h)]; exact this
  own := fun q hq => by
    rcases List.mem_cons.mp hq with rfl | hq
    · by_cases hm : p ∈ Ms
      · exact .inl hm
      · refine .inr ⟨?_, fun z => w.al p z h⟩
        cases e : H0 p with
        | none => rfl
        | some u =>
          have := w.ex _ _ hm e
          rw [h] at this; cases this
    · exact w.own q hq
  rep := fun r hr => Fa.ext (del_ext (Mc := []) (Ex.new h) (fun x z => nomatch z) fun x hx hn => by
    rcases List.mem_cons.mp hx with rfl | hx
    · exact h
    · exact absurd hx hn) (w.rep r hr)
theorem W.set (w : W K H0 Ms M0 H L R) (i : Nat) (hi : L[i]? = some (p, o)) (o' : HO) : W K H0 Ms M0 (upd H p o') (L.set i (p, o')) R := by
  have hm : (L.set i (p, o')).map (·.1) = L.map (·.1) := by
    rw [List.map_set]
    apply List.ext_getElem?
    intro n
    rw [List.getElem?_set]
    split
    · rename_i e; subst e
      rw [List.getElem?_map, hi]
      split
      · rfl
      · rename_i h; exact absurd (by rw [List.length_map]; exact (List.getElem?_eq_some_iff.mp hi).1) h
    · rfl
  have hpL : (p, o) ∈ L := List.mem_of_getElem? hi
  have hpa : p ∈ L.map (·.1) := List.mem_map.mpr ⟨_, hpL, rfl⟩
  have uniq : ∀ q ∈ L.set i (p, o'), q = (p, o') ∨ (q ∈ L ∧ q.1 ≠ p) := fun q hq => by
    obtain ⟨n, hn⟩ := List.mem_iff_getElem?.mp hq
    rw [List.getElem?_set] at hn
    split at hn
    · split at hn
      · left; exact (Option.some.inj hn).symm
      · cases hn
    · rename_i hne
      right
      refine ⟨List.mem_of_getElem? hn, fun e => hne ?_⟩
      have h1 : (L.map (·.1))[i]? = some p := by rw [List.getElem?_map, hi]; rfl
      have h2 : (L.map (·.1))[n]? = some p := by rw [List.getElem?_map, hn]; exact congrArg some e
      exact nd_ix w.nd h1 h2
  refine ⟨fun a u n e => ?_, fun a ha => ?_, by rw [hm]; exact w.nd, fun q hq => ?_, fun q hq => ?_, fun r hr => ?_⟩
  · by_cases ea : a = p
    · subst ea
      rcases w.own _ hpL with h | h
      · exact absurd h n
      · have h := h.1; rw [e] at h; cases h
    · rw [upd_ne ea]; exact w.ex a u n e
  · by_cases ea : a = p
    · subst ea; rw [upd_same]; exact fun z => nomatch z
    · rw [upd_ne ea]; exact w.al a ha
  · rcases uniq q hq with rfl | ⟨h1, h2⟩
    · exact upd_same
    · rw [upd_ne h2]; exact w.cell q h1
  · rcases uniq q hq with rfl | ⟨h1, _⟩
    · exact w.own (p, o) hpL
    · exact w.own q h1
  · show Fa.ok K (del _ ((L.set i (p, o')).map (·.1) ++ M0)) _
    rw [hm]
    exact Fa.ext (del_ext (Mc := [p]) (Ex.upd (List.mem_singleton.mpr rfl)) (fun x z => by rw [List.mem_singleton.mp z]; exact List.mem_append_left _ hpa) fun x a b => absurd a b) (w.rep r hr)
/-- a call that changes one cell -/
theorem W.call (w : W K H0 Ms M0 H L R) (i : Nat) (hi : L[i]? = some (p, o)) (e : Ex [p] H H') (h' : H' p = some o') : W K H0 Ms M0 H' (L.set i (p, o')) R := by
  have hm : (L.set i (p, o')).map (·.1) = L.map (·.1) := by
    rw [List.map_set]
    apply List.ext_getElem?
    intro n
    rw [List.getElem?_set]
    split
    · rename_i e; subst e
      rw [List.getElem?_map, hi]
      split
      · rfl
      · rename_i h; exact absurd (by rw [List.length_map]; exact (List.getElem?_eq_some_iff.mp hi).1) h
    · rfl
  have hpL : (p, o) ∈ L := List.mem_of_getElem? hi
  have hpa : p ∈ L.map (·.1) := List.mem_map.mpr ⟨_, hpL, rfl⟩
  have kp : ∀ a u, a ≠ p → H a = some u → H' a = some u := fun a u n q => e a u (fun z => n (List.mem_singleton.mp z)) q
  have uniq : ∀ q ∈ L.set i (p, o'), q = (p, o') ∨ (q ∈ L ∧ q.1 ≠ p) := fun q hq => by
    obtain ⟨n, hn⟩ := List.mem_iff_getElem?.mp hq
    rw [List.getElem?_set] at hn
    split at hn
    · split at hn
      · left; exact (Option.some.inj hn).symm
      · cases hn
    · rename_i hne
      right
      refine ⟨List.mem_of_getElem? hn, fun e => hne ?_⟩
      have h1 : (L.map (·.1))[i]? = some p := by rw [List.getElem?_map, hi]; rfl
      have h2 : (L.map (·.1))[n]? = some p := by rw [List.getElem?_map, hn]; exact congrArg some e
      exact nd_ix w.nd h1 h2
  refine ⟨fun a u n e0 => ?_, fun a ha => ?_, by rw [hm]; exact w.nd, fun q hq => ?_, fun q hq => ?_, fun r hr => ?_⟩
  · by_cases ea : a = p
    · subst ea
      rcases w.own _ hpL with h | h
      · exact absurd h n
      · have h := h.1; rw [show H0 a = some u from e0] at h; cases h
    · exact kp a u ea (w.ex a u n e0)
  · by_cases ea : a = p
    · subst ea; rw [h']; exact fun z => nomatch z
    · have := w.al a ha
      cases q : H a with
      | none => exact absurd q this
      | some u => rw [kp a u ea q]; exact fun z => nomatch z
  · rcases uniq q hq with rfl | ⟨h1, h2⟩
    · exact h'
    · exact kp _ _ h2 (w.cell q h1)
  · rcases uniq q hq with rfl | ⟨h1, _⟩
    · exact w.own (p, o) hpL
    · exact w.own q h1
  · show Fa.ok K (del _ ((L.set i (p, o')).map (·.1) ++ M0)) _
    rw [hm]
    exact Fa.ext (del_ext (Mc := [p]) e (fun x z => by rw [List.mem_singleton.mp z]; exact List.mem_append_left _ hpa) fun x a b => absurd a b) (w.rep r hr)
/-- a call that changes nothing -/
theorem W.pure (w : W K H0 Ms M0 H L R) (e : Ex [] H H') : W K H0 Ms M0 H' L R where
  ex := w.ex.trans (e.sub fun x z => nomatch z)
  al := fun a ha => by
    have := w.al a ha
    cases q : H a with
    | none => exact absurd q this
    | some u => rw [e.ext a u q]; exact fun z => nomatch z
  nd := w.nd
  cell := fun q hq => e.ext _ _ (w.cell q hq)
  own := w.own
  rep := fun r hr => Fa.ext (del_ext e (fun x z => nomatch z) fun x a b => absurd a b) (w.rep r hr)
theorem W.addF {r : Fa} (w : W K H0 Ms M0 H L R) (h : r.ok K (del H (av L M0))) : W K H0 Ms M0 H L (r :: R) :=
  ⟨w.ex, w.al, w.nd, w.cell, w.own, fun r hr => by
    rcases List.mem_cons.mp hr with rfl | hr
    · exact h
    · exact w.rep r hr⟩
theorem W.add (w : W K H0 Ms M0 H L R) (h : Rp K (av L M0) H v d) : W K H0 Ms M0 H L (.rp v d :: R) := w.addF h
theorem W.newTup (w : W K H0 Ms M0 H L R) (h : H p = none) {xs : List V} {ds : List PyData} (hd : RpAll K (av L M0) H xs ds) : W K H0 Ms M0 (upd H p (.tup xs)) L (.rp (.ref p) (.tuple ds) :: R) := by
  have w1 := w.pure (Ex.new (o := .tup xs) h)
  refine w1.add (Dd.tup ?_ (DdAll.ext (del_ext (Mc := []) (Ex.new h) (fun x z => nomatch z) fun x a b => absurd a b) hd))
  refine .inl (.inl ?_)
  rw [del_out (fun z => w.alloc' p z h)]
  exact upd_same
theorem W.newLst (w : W K H0 Ms M0 H L R) (h : H p = none) {xs : List V} {ds : List PyData} (hd : RpAll K (av L M0) H xs ds) : W K H0 Ms M0 (upd H p (.lst xs)) L (.rp (.ref p) (.list ds) :: R) := by
  have w1 := w.pure (Ex.new (o := .lst xs) h)
  refine w1.add (Dd.lst ?_ (DdAll.ext (del_ext (Mc := []) (Ex.new h) (fun x z => nomatch z) fun x a b => absurd a b) hd))
  rw [del_out (fun z => w.alloc' p z h)]
  exact upd_same
/-- the first cell, a list of data, becomes data -/
theorem W.freeze {xs : List V} {ds : List PyData} (w : W K H0 Ms M0 H ((p, .lst xs) :: L) R) (hp : p ∉ M0) (hd : RpAll K (av ((p, .lst xs) :: L) M0) H xs ds) : W K H0 Ms M0 H L (.rp (.ref p) (.list ds) :: R) := by
  have nd := List.nodup_cons.mp w.nd
  have s : ∀ x ∈ av L M0, x ∈ av ((p, HO.lst xs) :: L) M0 := fun x hx => List.mem_cons_of_mem _ hx
  refine ⟨w.ex, w.al, nd.2, fun q hq => w.cell q (List.mem_cons_of_mem _ hq), fun q hq => w.own q (List.mem_cons_of_mem _ hq), fun r hr => ?_⟩
  rcases List.mem_cons.mp hr with rfl | hr
  · refine Dd.lst ?_ (DdAll.ext (del_sub s) hd)
    rw [del_out (fun z => (List.mem_append.mp z).elim nd.1 hp)]
    exact w.cell _ (List.mem_cons_self ..)
  · exact Fa.ext (del_sub s) (w.rep r hr)
theorem W.ne (w : W K H0 Ms M0 H L R) {i j : Nat} {p q : Addr} {o u : HO} (hi : L[i]? = some (p, o)) (hj : L[j]? = some (q, u)) (h : i ≠ j) : p ≠ q := fun e => h (by
  have h1 : (L.map (·.1))[i]? = some p := by rw [List.getElem?_map, hi]; rfl
  have h2 : (L.map (·.1))[j]? = some p := by rw [List.getElem?_map, hj, e]; rfl
  exact nd_ix w.nd h1 h2)
theorem W.freeze0 {xs : List V} {ds : List PyData} (w : W K H0 [] M0 H ((p, .lst xs) :: L) R) (hd : RpAll K (av ((p, .lst xs) :: L) M0) H xs ds) : W K H0 [] M0 H L (.rp (.ref p) (.list ds) :: R) :=
  w.freeze ((w.own _ (List.mem_cons_self ..)).elim (fun z => nomatch z) fun z => z.2) hd
theorem W.freeze1 {xs : List V} {ds : List PyData} (w : W K H0 [b] M0 H ((p, .lst xs) :: L) R) (j : Nat) (hj : L[j]? = some (b, o)) (hd : RpAll K (av ((p, .lst xs) :: L) M0) H xs ds) : W K H0 [b] M0 H L (.rp (.ref p) (.list ds) :: R) :=
  w.freeze ((w.own _ (List.mem_cons_self ..)).elim (fun z => absurd (List.mem_singleton.mp z) (w.ne (i := 0) (j := j + 1) rfl hj (Nat.succ_ne_zero j).symm)) fun z => z.2) hd
theorem W.freezeT {xs : List V} {ds : List PyData} (w : W K H0 Ms M0 H ((p, .tup xs) :: L) R) (hp : p ∉ M0) (hd : RpAll K (av ((p, .tup xs) :: L) M0) H xs ds) : W K H0 Ms M0 H L (.rp (.ref p) (.tuple ds) :: R) := by
  have nd := List.nodup_cons.mp w.nd
  have s : ∀ x ∈ av L M0, x ∈ av ((p, HO.tup xs) :: L) M0 := fun x hx => List.mem_cons_of_mem _ hx
  refine ⟨w.ex, w.al, nd.2, fun q hq => w.cell q (List.mem_cons_of_mem _ hq), fun q hq => w.own q (List.mem_cons_of_mem _ hq), fun r hr => ?_⟩
  rcases List.mem_cons.mp hr with rfl | hr
  · refine Dd.tup (SqT.of ?_) (DdAll.ext (del_sub s) hd)
    rw [del_out (fun z => (List.mem_append.mp z).elim nd.1 hp)]
    exact w.cell _ (List.mem_cons_self ..)
  · exact Fa.ext (del_sub s) (w.rep r hr)
theorem W.freezeT0 {xs : List V} {ds : List PyData} (w : W K H0 [] M0 H ((p, .tup xs) :: L) R) (hd : RpAll K (av ((p, .tup xs) :: L) M0) H xs ds) : W K H0 [] M0 H L (.rp (.ref p) (.tuple ds) :: R) :=
  w.freezeT ((w.own _ (List.mem_cons_self ..)).elim (fun z => nomatch z) fun z => z.2) hd
theorem W.freezeT1 {xs : List V} {ds : List PyData} (w : W K H0 [b] M0 H ((p, .tup xs) :: L) R) (j : Nat) (hj : L[j]? = some (b, o)) (hd : RpAll K (av ((p, .tup xs) :: L) M0) H xs ds) : W K H0 [b] M0 H L (.rp (.ref p) (.tuple ds) :: R) :=
  w.freezeT ((w.own _ (List.mem_cons_self ..)).elim (fun z => absurd (List.mem_singleton.mp z) (w.ne (i := 0) (j := j + 1) rfl hj (Nat.succ_ne_zero j).symm)) fun z => z.2) hd
/-- forget cells, data -/
theorem W.drop1 {c : Addr × HO} (w : W K H0 Ms M0 H (c :: L) R) : W K H0 Ms M0 H L R :=
  ⟨w.ex, w.al, (List.nodup_cons.mp w.nd).2, fun q hq => w.cell q (List.mem_cons_of_mem _ hq), fun q hq => w.own q (List.mem_cons_of_mem _ hq), fun r hr => Fa.ext (del_sub fun x hx => List.mem_cons_of_mem _ hx) (w.rep r hr)⟩
theorem W.sub {R' : List Fa} (w : W K H0 Ms M0 H L R) (h : ∀ r ∈ R', r ∈ R) : W K H0 Ms M0 H L R' := ⟨w.ex, w.al, w.nd, w.cell, w.own, fun r hr => w.rep r (h r hr)⟩
/-- a list of data: its items, and that it stays so -/
theorem W.open {ds : List PyData} (w : W K H0 Ms M0 H L R) (h : Rp K (av L M0) H (.ref p) (.list ds)) : ∃ xs, RpAll K (av L M0) H xs ds ∧ W K H0 Ms M0 H L (.kn p (.lst xs) :: R) := by
  cases h with
  | lst q r => exact ⟨_, r, w.addF q⟩
theorem W.openT {ds : List PyData} (w : W K H0 Ms M0 H L R) (h : Rp K (av L M0) H (.ref p) (.tuple ds)) : ∃ xs, RpAll K (av L M0) H xs ds ∧ W K H0 Ms M0 H L (.tp p xs :: R) := by
  cases h with
  | tup q r => exact ⟨_, r, w.addF (r := .tp p _) q⟩
/-- a cell that is changed no more: its content is a fact -/
theorem W.keep (w : W K H0 Ms M0 H ((p, o) :: L) R) (hp : p ∉ M0) : W K H0 Ms M0 H L (.kn p o :: R) := by
  have nd := List.nodup_cons.mp w.nd
  have s : ∀ x ∈ av L M0, x ∈ av ((p, o) :: L) M0 := fun x hx => List.mem_cons_of_mem _ hx
  refine ⟨w.ex, w.al, nd.2, fun q hq => w.cell q (List.mem_cons_of_mem _ hq), fun q hq => w.own q (List.mem_cons_of_mem _ hq), fun r hr => ?_⟩
  rcases List.mem_cons.mp hr with rfl | hr
  · show del H (av L M0) p = some o
    rw [del_out (fun z => (List.mem_append.mp z).elim nd.1 hp)]
    exact w.cell _ (List.mem_cons_self ..)
  · exact Fa.ext (del_sub s) (w.rep r hr)
theorem W.keep0 (w : W K H0 [] M0 H ((p, o) :: L) R) : W K H0 [] M0 H L (.kn p o :: R) := w.keep ((w.own _ (List.mem_cons_self ..)).elim (fun z => nomatch z) fun z => z.2)
theorem W.keep1 (w : W K H0 [b] M0 H ((p, o) :: L) R) (j : Nat) (hj : L[j]? = some (b, o')) : W K H0 [b] M0 H L (.kn p o :: R) :=
  w.keep ((w.own _ (List.mem_cons_self ..)).elim (fun z => absurd (List.mem_singleton.mp z) (w.ne (i := 0) (j := j + 1) rfl hj (Nat.succ_ne_zero j).symm)) fun z => z.2)
theorem W.fresh (w : W K H0 Ms M0 H L R) (h : H p = none) (hM : p ∉ Ms) : H0 p = none := by
  cases e : H0 p with
  | none => rfl
  | some u =>
    have := w.ex _ _ hM e
    rw [h] at this; cases this
theorem W.fresh0 (w : W K H0 [] M0 H L R) (i : Nat) (h : L[i]? = some (p, o)) : H0 p = none := (w.own _ (List.mem_of_getElem? h)).elim (fun z => nomatch z) fun z => z.1
theorem W.fresh1 (w : W K H0 [b] M0 H L R) (i j : Nat) (h : L[i]? = some (p, o)) (hj : L[j]? = some (b, o')) (hij : i ≠ j) : H0 p = none := (w.own _ (List.mem_of_getElem? h)).elim (fun z => absurd (List.mem_singleton.mp z) (w.ne h hj hij)) fun z => z.1
theorem W.sq0 {a : Addr} {xs : List V} (w : W K H0 [] M0 H L R) (h : SqL K H0 a xs) : SqL K H a xs := w.ex.ext.sqL h
/-- the start -/
theorem W.start1 (hb : H b = some o) (hM : ∀ a ∈ M0, H a ≠ none) (hR : ∀ r ∈ R, r.ok K (del H (b :: M0))) : W K H [b] M0 H [(b, o)] R :=
  ⟨Ex.refl, hM, by simp, fun p hp => by rw [List.mem_singleton.mp hp]; exact hb, fun p hp => .inl (by rw [List.mem_singleton.mp hp]; exact List.mem_singleton.mpr rfl), hR⟩
theorem W.start0 (hM : ∀ a ∈ M0, H a ≠ none) (hR : ∀ r ∈ R, r.ok K (del H M0)) : W K H [] M0 H [] R :=
  ⟨Ex.refl, hM, by simp, fun p hp => (nomatch hp), fun p hp => (nomatch hp), hR⟩
end
end Fw
namespace Fw
open PySem PySem.Spec PyProof.Rows L2

/-! ### further universal rules -/
section
variable {X : Cx}
theorem CallR.or {f : Value} {r r' : List V → Hp → VK → Prop} (h : CallR X f r) (h' : CallR X f r') : CallR X f (fun xs H Q => r xs H Q ∨ r' xs H Q) := by
  intro pins s σ H xs us Q I rx q
  rcases q with q | q
  · exact h pins s σ H xs us Q I rx q
  · exact h' pins s σ H xs us Q I rx q
theorem SlR.or {r r' : V → Option Int → Option Int → Hp → VK → Prop} (h : L2.SlR X r) (h' : L2.SlR X r') : L2.SlR X (fun x lo hi H Q => r x lo hi H Q ∨ r' x lo hi H Q) := by
  intro pins s σ H x v vl vu lo hi sl Q I rx hs pl pu q
  rcases q with q | q
  · exact h pins s σ H x v vl vu lo hi sl Q I rx hs pl pu q
  · exact h' pins s σ H x v vl vu lo hi sl Q I rx hs pl pu q
def uSl (K : PySem.W.Frag) : V → Option Int → Option Int → Hp → VK → Prop := fun x lo hi H Q => rSlL K x lo hi H Q ∨ rSlS x lo hi H Q ∨ rSlA K x lo hi H Q
theorem sl_U {K : PySem.W.Frag} (hK : X.K = K := by rfl) : L2.SlR X (uSl K) := hK ▸ SlR.or sl_list (SlR.or sl_str sl_tupA)
def uIx (K : PySem.W.Frag) : R2 := rIx K
theorem ix_U {K : PySem.W.Frag} (hK : X.K = K := by rfl) : IxR X (uIx K) := hK ▸ ix_seq
def uLen (K : PySem.W.Frag) : List V → Hp → VK → Prop := fun xs H Q => ∃ x n, xs = [x] ∧ LenV K x H n ∧ Q (.int n) H
theorem call_lenU {K : PySem.W.Frag} (hK : X.K = K := by rfl) : CallR X (.builtin "len") (uLen K) := hK ▸ call_len
def uAbs : List V → Hp → VK → Prop := fun xs H Q => ∃ i, xs = [.int i] ∧ Q (.int (if i < 0 then -i else i)) H
theorem call_absU : CallR X (.builtin "abs") uAbs := call_abs
def uInt : List V → Hp → VK → Prop := fun xs H Q => (∃ i, xs = [.int i] ∧ Q (.int i) H) ∨ ∃ k, xs = [.bl k] ∧ Q (.int (if k then 1 else 0)) H
theorem call_intU : CallR X (.type "int") uInt := call_int1
def uList (K : PySem.W.Frag) : List V → Hp → VK → Prop := fun xs H Q => ∃ p ys, xs = [.ref p] ∧ (SqL K H p ys ∨ SqT K H p ys) ∧ ∀ l, H l = none → Q (.ref l) (upd H l (.lst ys))
theorem call_listU {K : PySem.W.Frag} (hK : X.K = K := by rfl) : CallR X (.type "list") (uList K) := hK ▸ call_list_of
def uTuple (K : PySem.W.Frag) : List V → Hp → VK → Prop := fun xs H Q => ∃ p ys, xs = [.ref p] ∧ ((SqL K H p ys ∧ ∀ l, H l = none → Q (.ref l) (upd H l (.tup ys))) ∨ (SqT K H p ys ∧ Q (.ref p) H))
theorem call_tupleU {K : PySem.W.Frag} (hK : X.K = K := by rfl) : CallR X (.type "tuple") (uTuple K) := hK ▸ call_tuple_of
theorem call_sumU {K : PySem.W.Frag} (hc : X.calm = true) (hK : X.K = K := by rfl) : CallR X (.builtin "sum") (rSum K) := hK ▸ cr_sum hc
theorem call_allU {K : PySem.W.Frag} (hc : X.calm = true) (hK : X.K = K := by rfl) : CallR X (.builtin "all") (rAll K) := hK ▸ cr_all hc
theorem call_sortedU {K : PySem.W.Frag} (hK : X.K = K := by rfl) : CallR X (.builtin "sorted") (rSorted K) := hK ▸ cr_sorted
def uMin (K : PySem.W.Frag) : List V → Hp → VK → Prop := fun xs H Q => (∃ i j, xs = [.int i, .int j] ∧ Q (.int (if j < i then j else i)) H) ∨ rMin K xs H Q
def uMax (K : PySem.W.Frag) : List V → Hp → VK → Prop := fun xs H Q => (∃ i j, xs = [.int i, .int j] ∧ Q (.int (if j > i then j else i)) H) ∨ rMax K xs H Q
theorem call_minU {K : PySem.W.Frag} (hc : X.calm = true) (hK : X.K = K := by rfl) : CallR X (.builtin "min") (uMin K) := hK ▸ CallR.or (call_min2 hc) (cr_min hc)
theorem call_maxU {K : PySem.W.Frag} (hc : X.calm = true) (hK : X.K = K := by rfl) : CallR X (.builtin "max") (uMax K) := hK ▸ CallR.or (call_max2 hc) (cr_max hc)
end

section
variable {X : Cx} {tg : Expr}
theorem pi_L {K : PySem.W.Frag} {l : Expr} {tl : TE} (hl : PE X l tl) (hK : X.K = K := by rfl) : PI X tg l (iList K tl) := hK ▸ pi_list hl
theorem pi_T {K : PySem.W.Frag} {l : Expr} {tl : TE} (hl : PE X l tl) (hK : X.K = K := by rfl) : PI X tg l (iTup K tl) := hK ▸ pi_tup hl
theorem pi_En {K : PySem.W.Frag} {e : Expr} {ta : TA} {p pos tpos : Pos} {elts : List Expr} {kk : Nat} (hg : Gl X "enumerate") (hm : X.mg "enumerate" = none) (ha : PA X [e] ta) (hs : starEach [e] X.env = [(false, eval e X.env)] := by rfl) (hK : X.K = K := by rfl) :
    PI X (.Tuple elts kk tpos) (.Call (.Name "enumerate" p) [e] [] pos) (iEnum K ta) := hK ▸ pi_enum hg hm ha hs
theorem pg_T {K : PySem.W.Frag} {es : List Expr} {k : Nat} {t : TGs} {n : Nat} {pos : Pos} (hc : X.calm = true) (h : PGs X es t)
    (hn : (assignEach es X.env).length = n := by rfl) (hst : (assignEach es X.env).findIdx? (·.1) = none := by rfl) (hK : X.K = K := by rfl) : PG X (.Tuple es k pos) (gTup K n t) := hK ▸ pg_tup hc h hn hst
end
/-! ### steps -/
theorem szl {n : Nat} (h : Nat.ble n 100000 = true) : n ≤ sizeLine := Nat.le_trans (Nat.le_of_ble_eq_true h) (by decide)
theorem sz_of {n : Nat} (h : n ≤ 100000) : n ≤ sizeLine := Nat.le_trans h (by decide)
theorem sz_lt {n : Nat} (h : n < 100000) : n < sizeLine := Nat.lt_of_lt_of_le h (by decide)
section
variable {σ : L2.St} {H H' H0 : Hp} {i j : Nat} {v x y z : V} {ta tb te tv : TE} {tr t' : TA} {Q : VK} {QA : List V → Hp → Prop} {QB : Bool → Hp → Prop} {b : Bool} {K : PySem.W.Frag} {p q a : Addr} {c tc tu : TT} {D : Ends} {t1 t2 : TS} {xs ys vs : List V} {m n : Int} {r : R2} {A B : Prop}
theorem x_var (h : σ[i]? = some (some v)) (q : Q v H) : tVar i σ H Q := ⟨v, h, q⟩
theorem x_c (q : Q v H) : tC v σ H Q := q
theorem x_op (q : ta σ H fun x H1 => tb σ H1 fun y H2 => r x y H2 Q) : tOp r ta tb σ H Q := q
theorem x_un {r : V → Hp → VK → Prop} (q : ta σ H fun x H1 => r x H1 Q) : tUn r ta σ H Q := q
theorem x_cb {r : List V → Hp → VK → Prop} (q : t' σ H fun vs H1 => r vs H1 Q) : tCB r t' σ H Q := q
theorem x_call {sp : Sp} {dvs : List V} {E : XK} (q : t' σ H fun vs H1 => sp (vs ++ dvs) H1 Q E) : tCall sp dvs E t' σ H Q := q
theorem x_nil (q : QA [] H) : tNil σ H QA := q
theorem x_cons (q : ta σ H fun x H1 => tr σ H1 fun xs H2 => QA (x :: xs) H2) : tCons ta tr σ H QA := q
theorem x_sl {r : V → Option Int → Option Int → Hp → VK → Prop} {tl th : TO} (q : te σ H fun x H1 => tl σ H1 fun l H2 => th σ H2 fun u H3 => r x l u H3 Q) : tSl r te tl th σ H Q := q
theorem x_nopart {QO : Option Int → Hp → Prop} (q : QO none H) : tNoPart σ H QO := q
theorem x_part {QO : Option Int → Hp → Prop} (q : te σ H fun x H1 => ∃ i, x = .int i ∧ QO (some i) H1) : tPart te σ H QO := q
theorem x_isint {F : Int → Prop} (q : F n) : ∃ i, V.int n = .int i ∧ F i := ⟨n, rfl, q⟩
theorem x_isbl {F : Bool → Prop} (q : F b) : ∃ k, V.bl b = .bl k ∧ F k := ⟨b, rfl, q⟩
theorem x_test (q : te σ H fun x H' => ∃ k, x = .bl k ∧ QB k H') : tTest te σ H QB := q
theorem x_B (q : te σ H fun x H' => ∃ k, x = .bl k ∧ QB k H') : tB te σ H QB := q
theorem x_and (q : c σ H fun b H1 => if b = true then tu σ H1 QB else QB false H1) : tAnd c tu σ H QB := q
theorem x_or (q : c σ H fun b H1 => if b = true then QB true H1 else tu σ H1 QB) : tOr c tu σ H QB := q
theorem x_not (q : c σ H fun b H1 => QB (!b) H1) : tNot c σ H QB := q
theorem x_andV (q : ta σ H fun x H1 => ∃ c, x = .bl c ∧ if c = true then tb σ H1 Q else Q (.bl false) H1) : tAndV ta tb σ H Q := q
theorem x_orV (q : ta σ H fun x H1 => ∃ c, x = .bl c ∧ if c = true then Q (.bl true) H1 else tb σ H1 Q) : tOrV ta tb σ H Q := q
theorem x_notV (q : ta σ H fun x H1 => ∃ c, x = .bl c ∧ Q (.bl (!c)) H1) : tNotV ta σ H Q := q
theorem x_if (q : c σ H fun b H1 => if b = true then ta σ H1 Q else tb σ H1 Q) : tIf c ta tb σ H Q := q
theorem x_seq (q : t1 { D with nx := t2 D } σ H) : tSeq t1 t2 D σ H := q
theorem x_next (q : D.nx σ H) : tNext D σ H := q
theorem x_set (q : te σ H fun x H1 => D.nx (σ.set i (some x)) H1) : tAsg te (gName i) D σ H := q
theorem x_asgS {to ti : TE} {t : TSet} (q : te σ H fun x H1 => to σ H1 fun o H2 => ti σ H2 fun k H3 => t o k x H3 fun H4 => D.nx σ H4) : tAsg te (gSub to ti t) D σ H := q
theorem x_asgT {n : Nat} {g : TGs} (q : te σ H fun x H1 => gTup K n g x σ H1 D.nx) : tAsg te (gTup K n g) D σ H := q
theorem x_ret (q : te σ H D.rt) : tRet te D σ H := q
theorem x_drop (q : te σ H fun _ H1 => D.nx σ H1) : tDrop te D σ H := q
theorem x_ifS (q : c σ H fun b H1 => if b = true then t1 D σ H1 else t2 D σ H1) : tIfS c t1 t2 D σ H := q
theorem x_par (q : t' σ H fun vs H1 => ∃ v w, vs = [v, w] ∧ D.nx ((σ.set i (some v)).set j (some w)) H1) : tPar i j t' D σ H := q
theorem x_par3 {l : Nat} (q : t' σ H fun vs H1 => ∃ u v w, vs = [u, v, w] ∧ D.nx (((σ.set i (some u)).set j (some v)).set l (some w)) H1) : tPar3 i j l t' D σ H := q
theorem x_is2 {F : V → V → Prop} (q : F x y) : ∃ v w, [x, y] = [v, w] ∧ F v w := ⟨x, y, rfl, q⟩
theorem x_is3 {F : V → V → V → Prop} (q : F x y z) : ∃ u v w, [x, y, z] = [u, v, w] ∧ F u v w := ⟨x, y, z, rfl, q⟩
/-! values -/
theorem x_rI0 {g : Int → Int → V} (q : Q (g m n) H) : rI0 g (.int m) (.int n) H Q := ⟨m, n, rfl, rfl, q⟩
theorem x_rI {C : Int → Int → Prop} {g : Int → Int → V} (h : C m n) (q : Q (g m n) H) : rI C g (.int m) (.int n) H Q := ⟨m, n, rfl, rfl, h, q⟩
theorem x_rU {g : Int → V} (q : Q (g m) H) : rU g (.int m) H Q := ⟨m, rfl, q⟩
theorem x_addI (q : Q (.int (m + n)) H) : uAdd K (.int m) (.int n) H Q := .inl ⟨m, n, rfl, rfl, q⟩
theorem x_addS {u w : Str} (h : u.length + w.length ≤ sizeLine) (q : Q (.str (u ++ w)) H) : uAdd K (.str u) (.str w) H Q := .inr (.inl ⟨u, w, rfl, rfl, h, q⟩)
theorem x_mulI (h : CMul m n) (q : Q (.int (m * n)) H) : uMul K (.int m) (.int n) H Q := .inl ⟨m, n, rfl, rfl, h, q⟩
theorem x_eqS (h : scal x y = true) (q : Q (.bl (decide (x = y))) H) : uEq K x y H Q := .inl ⟨h, q⟩
theorem x_neS (h : scal x y = true) (q : Q (.bl (!decide (x = y))) H) : uNe K x y H Q := .inl ⟨h, q⟩
theorem dI : decide (V.int m = V.int n) = decide (m = n) := by simp
theorem dS {u w : Str} : decide (V.str u = V.str w) = decide (u = w) := by simp
theorem dB {u w : Bool} : decide (V.bl u = V.bl w) = decide (u = w) := by simp
theorem x_eqI (q : Q (.bl (decide (m = n))) H) : uEq K (.int m) (.int n) H Q := .inl ⟨rfl, by rw [dI]; exact q⟩
theorem x_neI (q : Q (.bl (!decide (m = n))) H) : uNe K (.int m) (.int n) H Q := .inl ⟨rfl, by rw [dI]; exact q⟩
theorem x_eqStr {u w : Str} (q : Q (.bl (decide (u = w))) H) : uEq K (.str u) (.str w) H Q := .inl ⟨rfl, by rw [dS]; exact q⟩
theorem x_neStr {u w : Str} (q : Q (.bl (!decide (u = w))) H) : uNe K (.str u) (.str w) H Q := .inl ⟨rfl, by rw [dS]; exact q⟩
theorem x_eqB {u w : Bool} (q : Q (.bl (decide (u = w))) H) : uEq K (.bl u) (.bl w) H Q := .inl ⟨rfl, by rw [dB]; exact q⟩
theorem x_neB {u w : Bool} (q : Q (.bl (!decide (u = w))) H) : uNe K (.bl u) (.bl w) H Q := .inl ⟨rfl, by rw [dB]; exact q⟩
theorem x_isNI (q : Q (.bl false) H) : uIs (.int m) .non H Q := .inl ⟨rfl, by rw [decide_eq_false (fun z => nomatch z)]; exact q⟩
theorem x_isNotNI (q : Q (.bl true) H) : uIsNot (.int m) .non H Q := .inl ⟨rfl, by rw [decide_eq_false (fun z => nomatch z)]; exact q⟩
theorem x_isNS {u : Str} (q : Q (.bl false) H) : uIs (.str u) .non H Q := .inl ⟨rfl, by rw [decide_eq_false (fun z => nomatch z)]; exact q⟩
theorem x_isNotNS {u : Str} (q : Q (.bl true) H) : uIsNot (.str u) .non H Q := .inl ⟨rfl, by rw [decide_eq_false (fun z => nomatch z)]; exact q⟩
theorem x_isNB (q : Q (.bl false) H) : uIs (.bl b) .non H Q := .inl ⟨rfl, by rw [decide_eq_false (fun z => nomatch z)]; exact q⟩
theorem x_isNotNB (q : Q (.bl true) H) : uIsNot (.bl b) .non H Q := .inl ⟨rfl, by rw [decide_eq_false (fun z => nomatch z)]; exact q⟩
theorem x_isNR (q : Q (.bl false) H) : uIs (.ref p) .non H Q := .inl ⟨rfl, by rw [decide_eq_false (fun z => nomatch z)]; exact q⟩
theorem x_isNotNR (q : Q (.bl true) H) : uIsNot (.ref p) .non H Q := .inl ⟨rfl, by rw [decide_eq_false (fun z => nomatch z)]; exact q⟩
theorem x_isNN (q : Q (.bl true) H) : uIs .non .non H Q := .inl ⟨rfl, by rw [decide_eq_true rfl]; exact q⟩
theorem x_isNotNN (q : Q (.bl false) H) : uIsNot .non .non H Q := .inl ⟨rfl, by rw [decide_eq_true rfl]; exact q⟩
theorem x_eqR (h : scal x x = true) (q : Q (.bl true) H) : uEq K x x H Q := .inl ⟨h, by rw [decide_eq_true rfl]; exact q⟩
theorem x_neR (h : scal x x = true) (q : Q (.bl false) H) : uNe K x x H Q := .inl ⟨h, by rw [decide_eq_true rfl]; exact q⟩
theorem x_isN (q : Q (.bl (decide (x = .non))) H) : uIs x .non H Q := .inl ⟨rfl, q⟩
theorem x_isNotN (q : Q (.bl (!decide (x = .non))) H) : uIsNot x .non H Q := .inl ⟨rfl, q⟩
theorem x_isB {a b : Bool} (q : Q (.bl (decide (a = b))) H) : uIs (.bl a) (.bl b) H Q := .inr ⟨a, b, rfl, rfl, q⟩
theorem x_isNotB {a b : Bool} (q : Q (.bl (!decide (a = b))) H) : uIsNot (.bl a) (.bl b) H Q := .inr ⟨a, b, rfl, rfl, q⟩
theorem x_ixL (h : SqL K H p xs) (e : atI xs m = some v) (q : Q v H) : uIx K (.ref p) (.int m) H Q := .inl ⟨p, xs, m, v, rfl, rfl, h, e, q⟩
theorem x_ixT (h : SqT K H p xs) (e : atI xs m = some v) (q : Q v H) : uIx K (.ref p) (.int m) H Q := .inr (.inl ⟨p, xs, m, v, rfl, rfl, h, e, q⟩)
theorem x_ixS {u : Str} {c : Nat} (h : u.length ≤ sizeLine) (e : atI u.cps.toList m = some c) (q : Q (.str ⟨#[c]⟩) H) : uIx K (.str u) (.int m) H Q := .inr (.inr ⟨u, m, c, rfl, rfl, h, e, q⟩)
theorem x_setL {QH : Hp → Prop} (h : H p = some (.lst xs)) (e : ixN xs.length m = some j) (q : QH (upd H p (.lst (xs.set j v)))) : rSetL (.ref p) (.int m) v H QH := ⟨p, xs, m, j, rfl, rfl, h, e, q⟩
theorem x_lenL (h : SqL K H p xs) (q : Q (.int xs.length) H) : uLen K [.ref p] H Q := ⟨_, xs.length, rfl, .inl ⟨xs, h, rfl⟩, q⟩
theorem x_lenT (h : SqT K H p xs) (q : Q (.int xs.length) H) : uLen K [.ref p] H Q := ⟨_, xs.length, rfl, .inr ⟨xs, h, rfl⟩, q⟩
theorem x_lenS {u : Str} (h : u.length ≤ sizeLine) (q : Q (.int u.length) H) : uLen K [.str u] H Q := ⟨_, u.length, rfl, ⟨h, rfl⟩, q⟩
theorem x_abs (q : Q (.int (if m < 0 then -m else m)) H) : uAbs [.int m] H Q := ⟨m, rfl, q⟩
theorem x_intI (q : Q (.int m) H) : uInt [.int m] H Q := .inl ⟨m, rfl, q⟩
theorem x_intB (q : Q (.int (if b then 1 else 0)) H) : uInt [.bl b] H Q := .inr ⟨b, rfl, q⟩
theorem x_sum {ns : List Int} (h : SqL K H p (ns.map V.int)) (q : Q (.int ns.sum) H) : rSum K [.ref p] H Q := ⟨p, ns, rfl, h, q⟩
theorem x_all {bs : List Bool} (h : SqL K H p (bs.map V.bl)) (q : Q (.bl (bs.all id)) H) : rAll K [.ref p] H Q := ⟨p, bs, rfl, h, q⟩
theorem x_min2 (q : Q (.int (if n < m then n else m)) H) : uMin K [.int m, .int n] H Q := .inl ⟨m, n, rfl, q⟩
theorem x_max2 (q : Q (.int (if n > m then n else m)) H) : uMax K [.int m, .int n] H Q := .inl ⟨m, n, rfl, q⟩
/-! targets -/
theorem x_gName {QS : L2.St → Hp → Prop} (q : QS (σ.set i (some v)) H) : gName i v σ H QS := q
theorem x_gTup {QS : L2.St → Hp → Prop} {n : Nat} {t : TGs} (h : SqT K H p xs) (e : xs.length = n) (q : t xs σ H QS) : gTup K n t (.ref p) σ H QS := ⟨p, xs, rfl, h, e, q⟩
theorem x_gCons {QS : L2.St → Hp → Prop} {t : TG} {u : TGs} (q : t v σ H fun σ' H' => u xs σ' H' QS) : gCons t u (v :: xs) σ H QS := ⟨v, xs, rfl, q⟩
theorem x_gNil {QS : L2.St → Hp → Prop} (q : QS σ H) : gNil [] σ H QS := ⟨rfl, q⟩
theorem x_for {wi : TI} {g : TG} {tb : TS} (q : wi σ H fun J H1 => ∃ W : Nat → Nat → L2.St → Hp → Prop, (∃ m, W 0 m σ H1) ∧ ∀ i m σ H, W i m σ H →
      (J.stop i H ∧ D.nx σ H) ∨ (J.go i H ∧ ∃ N : L2.St → Hp → Prop, (∀ σ' H', N σ' H' → ∃ m', m' < m ∧ W (i + 1) m' σ' H') ∧ ∀ x H', J.yld i H x H' → g x σ H' fun σ2 H2 => tb { D with nx := N, ct := N, bk := D.nx } σ2 H2)) : tFor wi g tb D σ H := q
theorem x_iList {R : It → Hp → Prop} (q : te σ H fun x H1 => ∃ a, x = .ref a ∧ (∃ xs, SqL K H1 a xs) ∧ R (Itl K a) H1) : iList K te σ H R := q
theorem x_iTup {R : It → Hp → Prop} (q : te σ H fun x H1 => ∃ a, x = .ref a ∧ (∃ xs, SqT K H1 a xs) ∧ R (Itt K a) H1) : iTup K te σ H R := q
theorem x_iL {R : Addr → Prop} (h : SqL K H p xs) (q : R p) : ∃ a, V.ref p = .ref a ∧ (∃ xs, SqL K H a xs) ∧ R a := ⟨p, rfl, ⟨xs, h⟩, q⟩
theorem x_iT {R : Addr → Prop} (h : SqT K H p xs) (q : R p) : ∃ a, V.ref p = .ref a ∧ (∃ xs, SqT K H a xs) ∧ R a := ⟨p, rfl, ⟨xs, h⟩, q⟩
theorem x_iRng1 {R : It → Hp → Prop} (q : t' σ H fun vs H1 => ∃ j : Int, vs = [.int j] ∧ -(2 ^ 62) ≤ j ∧ j < 2 ^ 62 ∧ R (Itr 0 j.toNat) H1) : iRng1 t' σ H R := q
theorem x_rng1 {R : Int → Prop} (h1 : -(2 ^ 62) ≤ m) (h2 : m < 2 ^ 62) (q : R m) : ∃ j : Int, [V.int m] = [.int j] ∧ -(2 ^ 62) ≤ j ∧ j < 2 ^ 62 ∧ R j := ⟨m, rfl, h1, h2, q⟩
theorem x_iRng2 {R : It → Hp → Prop} (q : t' σ H fun vs H1 => ∃ i j : Int, vs = [.int i, .int j] ∧ (-(2 ^ 62) ≤ i ∧ i < 2 ^ 62 ∧ -(2 ^ 62) ≤ j ∧ j < 2 ^ 62) ∧ R (Itr i (j - i).toNat) H1) : iRng2 t' σ H R := q
theorem x_rng2 {R : Int → Int → Prop} (h1 : -(2 ^ 62) ≤ m ∧ m < 2 ^ 62 ∧ -(2 ^ 62) ≤ n ∧ n < 2 ^ 62) (q : R m n) : ∃ i j : Int, [V.int m, V.int n] = [.int i, .int j] ∧ (-(2 ^ 62) ≤ i ∧ i < 2 ^ 62 ∧ -(2 ^ 62) ≤ j ∧ j < 2 ^ 62) ∧ R i j := ⟨m, n, rfl, h1, q⟩
theorem x_iEnum {R : It → Hp → Prop} (q : t' σ H fun vs H1 => ∃ a xs, vs = [.ref a] ∧ SqL K H1 a xs ∧ R (Ite K a) H1) : iEnum K t' σ H R := q
theorem x_en {R : Addr → Prop} (h : SqL K H p xs) (q : R p) : ∃ a xs, [V.ref p] = [.ref a] ∧ SqL K H a xs ∧ R a := ⟨p, xs, rfl, h, q⟩
theorem x_iZip {R : It → Hp → Prop} (q : t' σ H fun vs H1 => ∃ a b xs ys, vs = [.ref a, .ref b] ∧ SqL K H1 a xs ∧ SqL K H1 b ys ∧ R (Itz K a b) H1) : iZip K t' σ H R := q
def LstK (xs : List V) (H : Hp) (Q : VK) : Prop := xs.length ≤ sizeLine ∧ ∀ p, H p = none → Q (.ref p) (upd H p (.lst xs))
def TupK (xs : List V) (H : Hp) (Q : VK) : Prop := xs.length ≤ sizeLine ∧ ∀ p, H p = none → Q (.ref p) (upd H p (.tup xs))
/-! with the state -/
section
variable {Ms M0 : List Addr} {L : List (Addr × HO)} {R : List Fa} {QH : Hp → Prop} {u : V}
theorem w_setL (hw : W K H0 Ms M0 H L R) (k : Nat) (hL : L[k]? = some (p, .lst xs)) (e : ixN xs.length m = some j) (q : ∀ H', W K H0 Ms M0 H' (L.set k (p, .lst (xs.set j v))) R → QH H') : rSetL (.ref p) (.int m) v H QH :=
  x_setL (hw.at k hL) e (q _ (hw.set k hL _))
theorem w_lst (hw : W K H0 Ms M0 H L R) (h : xs.length ≤ sizeLine) (q : ∀ p H', H p = none → W K H0 Ms M0 H' ((p, .lst xs) :: L) R → Q (.ref p) H') : LstK xs H Q :=
  ⟨h, fun p hp => q p _ hp (hw.new hp _)⟩
theorem x_lst (q : t' σ H fun xs H1 => LstK xs H1 Q) : tLst t' σ H Q := q
theorem x_tup (q : t' σ H fun xs H1 => TupK xs H1 Q) : tTup t' σ H Q := q
theorem w_tup {ds : List PyData} (hw : W K H0 Ms M0 H L R) (hd : RpAll K (av L M0) H xs ds) (h : xs.length ≤ sizeLine) (q : ∀ p H', H p = none → W K H0 Ms M0 H' L (.rp (.ref p) (.tuple ds) :: R) → Q (.ref p) H') : TupK xs H Q :=
  ⟨h, fun p hp => q p _ hp (hw.newTup hp hd)⟩
theorem w_tupC (hw : W K H0 Ms M0 H L R) (h : xs.length ≤ sizeLine) (q : ∀ p H', H p = none → W K H0 Ms M0 H' ((p, .tup xs) :: L) R → Q (.ref p) H') : TupK xs H Q :=
  ⟨h, fun p hp => q p _ hp (hw.new hp _)⟩
theorem w_slL (hw : W K H0 Ms M0 H L R) {lo hi : Option Int} (h : SqL K H p xs) (q : ∀ p H', H p = none → W K H0 Ms M0 H' ((p, .lst (cutV xs lo hi)) :: L) R → Q (.ref p) H') : uSl K (.ref p) lo hi H Q :=
  .inl ⟨p, xs, rfl, h, fun p hp => q p _ hp (hw.new hp _)⟩
theorem w_listL (hw : W K H0 Ms M0 H L R) (h : SqL K H p xs) (q : ∀ p H', H p = none → W K H0 Ms M0 H' ((p, .lst xs) :: L) R → Q (.ref p) H') : uList K [V.ref p] H Q := ⟨p, xs, rfl, .inl h, fun l hl => q l _ hl (hw.new hl _)⟩
theorem w_listT (hw : W K H0 Ms M0 H L R) (h : SqT K H p xs) (q : ∀ p H', H p = none → W K H0 Ms M0 H' ((p, .lst xs) :: L) R → Q (.ref p) H') : uList K [V.ref p] H Q := ⟨p, xs, rfl, .inr h, fun l hl => q l _ hl (hw.new hl _)⟩
end
/-! branches -/
theorem x_ifT (h : A) : if true = true then A else B := iteT h
theorem x_ifF (h : B) : if false = true then A else B := iteF h
theorem x_ifd {P : Prop} [Decidable P] (h1 : P → A) (h2 : ¬ P → B) : if decide P = true then A else B := by
  by_cases h : P
  · rw [decide_eq_true h]; exact iteT (h1 h)
  · rw [decide_eq_false h]; exact iteF (h2 h)
theorem x_ifn {P : Prop} [Decidable P] (h1 : ¬ P → A) (h2 : P → B) : if (!decide P) = true then A else B := by
  by_cases h : P
  · rw [decide_eq_true h]; exact iteF (h2 h)
  · rw [decide_eq_false h]; exact iteT (h1 h)
theorem x_ifP {P : Prop} [Decidable P] (h : P) (q : A) : if decide P = true then A else B := by rw [decide_eq_true h]; exact iteT q
theorem x_ifN {P : Prop} [Decidable P] (h : ¬ P) (q : B) : if decide P = true then A else B := by rw [decide_eq_false h]; exact iteF q
theorem x_ifnP {P : Prop} [Decidable P] (h : P) (q : B) : if (!decide P) = true then A else B := by rw [decide_eq_true h]; exact iteF q
theorem x_ifnN {P : Prop} [Decidable P] (h : ¬ P) (q : A) : if (!decide P) = true then A else B := by rw [decide_eq_false h]; exact iteT q
theorem x_ifnT (h : B) : if (!true) = true then A else B := iteF h
theorem x_ifnF (h : A) : if (!false) = true then A else B := iteT h
theorem x_nx {n bk ct : L2.St → Hp → Prop} {r : VK} (q : n σ H) : Ends.nx (Ends.mk n r bk ct) σ H := q
theorem x_rt {n bk ct : L2.St → Hp → Prop} {r : VK} (q : r v H) : Ends.rt (Ends.mk n r bk ct) v H := q
theorem x_bk {n bk ct : L2.St → Hp → Prop} {r : VK} (q : bk σ H) : Ends.bk (Ends.mk n r bk ct) σ H := q
theorem x_ct {n bk ct : L2.St → Hp → Prop} {r : VK} (q : ct σ H) : Ends.ct (Ends.mk n r bk ct) σ H := q
theorem x_brk (q : D.bk σ H) : tBreak D σ H := q
theorem x_cont (q : D.ct σ H) : tCont D σ H := q
theorem x_ifbT (h : b = true) (q : A) : if b = true then A else B := by rw [h]; exact iteT q
theorem x_ifbF (h : b = false) (q : B) : if b = true then A else B := by rw [h]; exact iteF q
theorem x_ifb (h1 : b = true → A) (h2 : b = false → B) : if b = true then A else B := by
  cases b
  · exact iteF (h2 rfl)
  · exact iteT (h1 rfl)
end
end Fw
namespace Fw
open PySem PySem.Spec PyProof.Rows L2
/-! ### calls with keywords, defaults -/
structure FnN (P : Program) (w : World) (K : PySem.W.Frag) (mg : Str → Option Value) (base : Heap) (CX : CXT) (k : Nat) (x : Str) (n : Nat) (ks : List Str) (gV : List V → List V → List V) (sp : Sp) : Prop where
  ex : ∃ (f : Addr) (fd : FuncData) (ps : List Str) (g : List Value → List Value → List Value), mg x = some (.ref f) ∧ PySem.W.keepIn K (.ref f) = true ∧ KBn K fd ps n ks g gV ∧ FnOk P w K mg base CX k f fd ps sp
section
variable {X : Cx} {CX : CXT} {k j n : Nat} {ks : List Str} {gV : List V → List V → List V} {sp : Sp} {E : XK} {x : Str} {p pos : Pos} {e : Expr} {es : List Expr} {kws : List Keyword} {t tk : TA}
theorem pe_fnN (F : FnN X.prog X.w X.K X.mg X.base CX k x n ks gV sp) (hr : Room j X.A) (hk : k ≤ j) (hg : Gl X x) (hx : Passes CX X E) (ha : PA X (e :: es) t) (hkw : PK X kws tk) (hall : (backToKw pos (keywordEach kws X.env)).all (·.1.isSome) = true := by rfl) (hks : (backToKw pos (keywordEach kws X.env)).filterMap (·.1) = ks := by rfl)
    (hdb : (x == ("__debug__" : Str)) = false := by decide) (he : starEach (e :: es) X.env = (false, eval e X.env) :: starEach es X.env := by rfl)
    (hpl : ((backTo pos (starEach (e :: es) X.env)).any (·.1) || (backToKw pos (keywordEach kws X.env)).any (·.1.isNone)) = false := by rfl) :
    PE X (.Call (.Name x p) (e :: es) kws pos) (tCallN n ks.length sp gV E t tk) := by
  obtain ⟨f, fd, ps, g, hm, hkp, hb, F⟩ := F.ex
  exact pe_callN F (hr.mono hk) hg hm hkp hb hx ha hkw hall hks hdb he hpl
theorem pe_fnN0 (F : FnN X.prog X.w X.K X.mg X.base CX k x n ks gV sp) (hr : Room j X.A) (hk : k ≤ j) (hg : Gl X x) (hx : Passes CX X E) (hkw : PK X kws tk) (hall : (backToKw pos (keywordEach kws X.env)).all (·.1.isSome) = true := by rfl) (hks : (backToKw pos (keywordEach kws X.env)).filterMap (·.1) = ks := by rfl)
    (hdb : (x == ("__debug__" : Str)) = false := by decide)
    (hpl : ((backTo pos (starEach [] X.env)).any (·.1) || (backToKw pos (keywordEach kws X.env)).any (·.1.isNone)) = false := by rfl) :
    PE X (.Call (.Name x p) [] kws pos) (tCallN n ks.length sp gV E tNil tk) := by
  obtain ⟨f, fd, ps, g, hm, hkp, hb, F⟩ := F.ex
  refine ⟨fun pins s σ H Q I h => ?_⟩
  refine wpAny_Call_Name_kw (ld_glob I hg hm ?_ hdb)
  refine PySem.W.callWith_KW0 (h₀ := X.base) I.ok.mod.kin hkp hall ?_ hpl
  refine thn (hkw.run pos pins s σ H _ I h) fun ws s2 ⟨zs, H2, I2, rz, l1, l2, q2⟩ => ⟨I2.kIn, ?_⟩
  rw [hks]
  exact run_fnN F (hr.mono hk) hb hx I2 .nil rz l1 l2 q2
theorem x_callN {m : Nat} {σ : L2.St} {H : Hp} {Q : VK} (q : t σ H fun vs H1 => tk σ H1 fun zs H2 => vs.length = n ∧ zs.length = m ∧ sp (gV vs zs) H2 Q E) : tCallN n m sp gV E t tk σ H Q := q
theorem x_lens {n m n' m' : Nat} {P : Prop} (h1 : n = n') (h2 : m = m') (q : P) : n = n' ∧ m = m' ∧ P := ⟨h1, h2, q⟩
end
/-- all parameters are written -/
theorem kbn_all {K : PySem.W.Frag} {x qual : Str} {params : Arguments} {body : List Stmt} {scope : Scope} {kws : List (Str × V)} {f : Addr} {fd : FuncData} {ps : List Str} (F : FunD K x qual params body scope [] kws f fd) (n : Nat) (ks : List Str) (g : {α : Type} → List α → List α → List α)
    (hrel : ∀ {vs zs : List V} {us ws : List Value}, Vals vs us → Vals zs ws → Vals (g vs zs) (g us ws))
    (h : ∀ (kV doc pm : Value) (an : Option Addr) (cdv ct : Value) (us ws : List Value), us.length = n → ws.length = ks.length → bindArgs (PySem.W.fnOf x qual params body scope .none kV doc pm an cdv ct) ⟨us, ks.zip ws⟩ = pure (ps.zip (g us ws))) : KBn K fd ps n ks (fun us ws => g us ws) (fun vs zs => g vs zs) := by
  obtain ⟨oc, od, dV, kV, doc, pm, an, cdv, ct, osl, rfl, lk, hcd, hD, hK⟩ := F.ex
  rcases hD with ⟨_, rfl⟩ | ⟨e, _⟩
  · exact ⟨fun s us ws X l1 l2 => .of_eq (h kV doc pm an cdv ct us ws l1 l2), fun r1 r2 => hrel r1 r2⟩
  · exact absurd rfl e
/-! ### a def's body with its slots written out, from FunD -/
section
variable {P : Program} {w : World} {K : PySem.W.Frag} {mg : Str → Option Value} {base : Heap}
theorem okD {x qual : Str} {st : Stmt} {dvs : List V} {kws : List (Str × V)} {f : Addr} {fd : FuncData} {N ps : List Str} {k : Nat} {sp : Sp} (F : FunD K x qual (defArgs st) (defBody st) (defScope st) dvs kws f fd) (S : FnScope N ps (defScope st)) (len : ∀ vs H Q E, sp vs H Q E → vs.length = ps.length)
    (hbody : ∀ (cdv : Value) (A : Around) (outer : List Env) (s : Shared) (H : Hp) (vs : List V) (Q : VK) (E : XK), Room k (A.deeper (envOfC qual (defScope st) s.heap.objs.size f cdv)) → sp vs H Q E →
      ∃ t σ, PSs (cxOf CX0 P w K mg base N qual (defScope st) f cdv A outer s H E).nox (defBody st) t ∧ L2.start N vs = σ ∧ t { nx := fun _ H' => Q .non H', rt := Q } σ H) : FnOk P w K mg base CX0 (k + 1) f fd ps sp := by
  refine F.ok S len fun cdv A outer s H vs Q E hr h => ?_
  obtain ⟨t, σ, h1, rfl, h2⟩ := hbody cdv A outer s H vs Q E hr h
  exact ⟨t, h1.nox, h2⟩
end
end Fw
namespace Fw
open PySem PySem.Spec PyProof.Rows L2
/-! ### a, .., *rest = a list -/
section
variable {X : Cx} {pos : Pos}
theorem pgs_star {e : Expr} {es : List Expr} {t : TG} {u : TGs} {sp : Pos} (h1 : PG X e t) (h2 : PGs X es u)
    (hs : (assignEach (.Starred e sp :: es) X.env).map (·.2) = assign e X.env :: (assignEach es X.env).map (·.2) := by rfl) : PGs X (.Starred e sp :: es) (gCons t u) := by
  refine ⟨fun pins s σ H vs us Q I r h => ?_⟩
  obtain ⟨v, vr, e1, h⟩ := h
  subst e1
  cases r with
  | cons r rr =>
    rw [hs]
    refine assignInOrder_cons (thn (h1.run pins s σ H _ _ _ I r h) fun _ s1 ⟨σ1, H1, I1, q1⟩ => ?_)
    exact h2.run pins s1 σ1 H1 _ _ Q I1 rr q1
def gStL (K : PySem.W.Frag) (i : Nat) (t : TGs) : TG := fun v σ H Q => ∃ a xs, v = .ref a ∧ SqL K H a xs ∧ i ≤ xs.length ∧ xs.length ≤ 16384 ∧ ∀ D, H D = none → t (xs.take i ++ [.ref D]) σ (upd H D (.lst (xs.drop i))) Q
theorem pg_stL {K : PySem.W.Frag} {es : List Expr} {k i : Nat} {t : TGs} (hc : X.calm = true) (h : PGs X es t)
    (hn : (assignEach es X.env).length = i + 1 := by rfl) (hst : (assignEach es X.env).findIdx? (·.1) = some i := by rfl) (hK : X.K = K := by rfl) : PG X (.Tuple es k pos) (gStL K i t) := by
  subst hK
  refine ⟨fun pins s σ H v u Q I r hw => ?_⟩
  obtain ⟨a, xs, e1, hq, hl, hz4, hw⟩ := hw
  subst e1
  cases r
  obtain ⟨its, rv, pl, hz⟩ := I.list hq
  have hl' : s.heap.IsList a its.toArray := by
    obtain ⟨o, m, e, c, d, q⟩ := pl
    exact ⟨o, e, c, m, q⟩
  have hlen : its.length = xs.length := rv.length.symm
  have hh := I.ok.hd hc
  have hlt : a ≠ s.heap.objs.size := by obtain ⟨o, ho, _⟩ := hl'; exact Nat.ne_of_lt (Heap.lt_size ho)
  rw [PyProof.Rows.assign_Tuple]
  refine wpAny_bind (wpAny_standAt ?_)
  unfold unpack
  rw [hn, hst]
  refine wpAny_bind (wpAny_holding ?_)
  unfold unpackItems
  refine wpAny_bind ?_
  unfold notIterableAtAll
  refine wpAny_bind (wpAny_specialOf hl'.typeIs slot_list_iter.lookup ?_)
  refine wpAny_pure ?_
  simp only [Bool.false_eq_true, if_false]
  refine wpAny_bind (wpAny_holding (wpAny_pyIter_list hl' ?_))
  refine wpAny_bind (wpAny_holding (PySem.W.kun_draw hlt i 0 _ _ ⟨_, Heap.get?_push_size _ rfl, rfl, rfl⟩ (hl'.push _) (by rw [List.size_toArray]; omega) fun h₁ hit₁ hs₁ => ?_))
  have hl₁ : h₁.IsList a its.toArray := (hl'.push _).extBut hs₁.extBut hlt
  rw [Nat.zero_add] at hit₁
  have hit₁' := hit₁
  obtain ⟨oi, hoi, _⟩ := hit₁'
  have hl₁' := hl₁
  obtain ⟨ol, hol, _⟩ := hl₁'
  rw [List.drop_zero]
  have hfl : (its.take i).length = i := by rw [List.length_take]; omega
  rw [if_neg (show ¬ ((its.toArray.toList.take i).length < i) by show ¬ (its.take i).length < i; rw [hfl]; omega)]
  refine wpAny_bind (wpAny_holding (PySem.W.kun_collect (s := { s with heap := h₁ }) (T := "list_iterator") (.inr (.inr (.inl rfl))) (Walks.list (A := X.A.in1) hh s.heap.objs.size a hlt its.toArray) (fun j u st => st.1.typeIs) (k := i) (by rw [List.size_toArray]; omega) ⟨hit₁, hl₁⟩ (Heap.lt_size hoi) (Heap.lt_size hol) (fun h₂ tk hk => ?_) (by rw [List.size_toArray]; omega)))
  show wpAny _ _ (if (its.drop i).length < i + 1 - 1 - i then _ else _) _ _ _
  rw [if_neg (by omega)]
  have he : ∀ b o, s.heap.get? b = some o → h₂.get? b = some o := fun b o e => hk b o (Nat.ne_of_lt (Heap.lt_size e)) (hs₁.extBut b o (Nat.ne_of_lt (Heap.lt_size e)) (Heap.get?_push_of_some _ e))
  have I2 : Inv X pins σ H { s with heap := h₂, toks := tk } := I.kept (t' := tk) he
  have hmid : (its.drop i).length - (i + 1 - 1 - i) = (its.drop i).length := by omega
  show wpAny _ _ (newList ((its.drop i).take ((its.drop i).length - (i + 1 - 1 - i))) >>= fun d => pure (its.take i ++ [d] ++ (its.drop i).drop ((its.drop i).length - (i + 1 - 1 - i)))) _ _ _
  rw [hmid, List.take_length, List.drop_length]
  have hrl : (its.drop i).length ≤ sizeLine := by rw [List.length_drop, sizeLine_eq]; omega
  refine wpAny_bind (wpAny_newList ?_ hrl)
  refine wpAny_pure ?_
  rw [List.append_nil]
  have hf : H h₂.objs.size = none := I2.hok.fresh (Nat.le_refl _)
  have I3 := I2.laid (a := h₂.objs.size) (o := .lst (xs.drop i)) (h' := h₂.push { cls := .type "list", data := .seq (its.drop i).toArray 0 }) (t' := tk) (fun b u e => Heap.get?_push_of_some _ e) (Nat.le_refl _) ⟨by rw [List.length_drop]; omega, its.drop i, 0, rv.drop i, Heap.get?_push_size _ rfl⟩
  exact h.run pins _ σ _ (xs.take i ++ [.ref h₂.objs.size]) _ Q I3 ((rv.take i).append (.cons (show RelV (.ref h₂.objs.size) (.ref h₂.objs.size) from rfl) .nil)) (hw _ hf)
def gU (K : PySem.W.Frag) (n : Nat) (t : TGs) : TG := gUnl K n t
theorem pg_uL {K : PySem.W.Frag} {es : List Expr} {k : Nat} {t : TGs} {n : Nat} (hc : X.calm = true) (h : PGs X es t)
    (hn : (assignEach es X.env).length = n := by rfl) (hst : (assignEach es X.env).findIdx? (·.1) = none := by rfl) (hK : X.K = K := by rfl) : PG X (.Tuple es k pos) (gU K n t) := hK ▸ pg_unl hc h hn hst
theorem x_gStL {K : PySem.W.Frag} {i : Nat} {t : TGs} {σ : L2.St} {H H0 : Hp} {QS : L2.St → Hp → Prop} {p : Addr} {xs : List V} {Ms M0 : List Addr} {L : List (Addr × HO)} {R : List Fa} (hw : W K H0 Ms M0 H L R) (h : SqL K H p xs) (h1 : i ≤ xs.length) (h2 : xs.length ≤ 16384)
    (q : ∀ D H', H D = none → W K H0 Ms M0 H' ((D, .lst (xs.drop i)) :: L) R → t (xs.take i ++ [.ref D]) σ H' QS) : gStL K i t (.ref p) σ H QS := ⟨p, xs, rfl, h, h1, h2, fun D hD => q D _ hD (hw.new hD _)⟩
theorem x_gStL1 {K : PySem.W.Frag} {t : TGs} {σ : L2.St} {H H0 : Hp} {QS : L2.St → Hp → Prop} {p : Addr} {x : V} {xs : List V} {Ms M0 : List Addr} {L : List (Addr × HO)} {R : List Fa} (hw : W K H0 Ms M0 H L R) (h : SqL K H p (x :: xs)) (h2 : xs.length ≤ 16383)
    (q : ∀ D H', H D = none → W K H0 Ms M0 H' ((D, .lst xs) :: L) R → t [x, .ref D] σ H' QS) : gStL K 1 t (.ref p) σ H QS := x_gStL hw h (Nat.succ_le_succ (Nat.zero_le _)) (by rw [List.length_cons]; omega) q
theorem x_gU {K : PySem.W.Frag} {n : Nat} {t : TGs} {σ : L2.St} {H : Hp} {QS : L2.St → Hp → Prop} {p : Addr} {xs : List V} (h : SqL K H p xs) (h1 : xs.length = n) (q : t xs σ H QS) : gU K n t (.ref p) σ H QS := ⟨p, xs, rfl, h, h1, q⟩
theorem x_gU2 {K : PySem.W.Frag} {t : TGs} {σ : L2.St} {H : Hp} {QS : L2.St → Hp → Prop} {p : Addr} {x y : V} (h : SqL K H p [x, y]) (q : t [x, y] σ H QS) : gU K 2 t (.ref p) σ H QS := x_gU h rfl q
theorem x_gU3 {K : PySem.W.Frag} {t : TGs} {σ : L2.St} {H : Hp} {QS : L2.St → Hp → Prop} {p : Addr} {x y z : V} (h : SqL K H p [x, y, z]) (q : t [x, y, z] σ H QS) : gU K 3 t (.ref p) σ H QS := x_gU h rfl q
theorem x_asgG {te : TE} {g : TG} {D : Ends} {σ : L2.St} {H : Hp} (q : te σ H fun x H1 => g x σ H1 D.nx) : tAsg te g D σ H := q
end
end Fw
namespace Fw
open PySem PySem.Spec PyProof.Rows L2
/-! ### d.update(e) -/
section
variable {X : Cx} {σ : L2.St} {H H0 : Hp}
def rUpdate : V → List V → Hp → VK → Prop := fun x vs H Q => ∃ a b kvs more, x = .ref a ∧ vs = [.ref b] ∧ H a = some (.dK kvs) ∧ H b = some (.dK more) ∧ a ≠ b ∧ kvs.length + more.length ≤ 1000 ∧ Q .non (upd H a (.dK (mergeK kvs more)))
theorem length_putK {κ : Type} [DecidableEq κ] (kvs : List (κ × V)) (k : κ) (v : V) : (putK kvs k v).length ≤ kvs.length + 1 := by
  unfold putK
  split
  · rw [List.length_map]; omega
  · rw [List.length_append]; exact Nat.le_refl _
theorem length_mergeK : ∀ (more kvs : List (Key × V)), (mergeK kvs more).length ≤ kvs.length + more.length
  | [], kvs => Nat.le_refl _
  | m :: r, kvs => by
    show (mergeK (putK kvs m.1 m.2) r).length ≤ _
    have h1 := length_mergeK r (putK kvs m.1 m.2)
    have h2 := length_putK kvs m.1 m.2
    rw [List.length_cons]
    omega
theorem mt_update : MtR X "dict.update" rUpdate := by
  intro pins s σ H x vs v us Q I rx rv h
  obtain ⟨a, b, kvs, more, rfl, rfl, ha, hb, hne, hz, q⟩ := h
  cases rx
  obtain ⟨u, rfl, ru⟩ := vals1 rv
  cases ru
  obtain ⟨z, hd, ws, rel, dd⟩ := dk_of I.hok ha
  obtain ⟨z2, hd2, ws2, rel2, dd2⟩ := dk_of I.hok hb
  have l1 := rel.length
  have l2 := rel2.length
  refine call_meetsIn PySem.F.slot_dict_update dd.typeIs PySem.F.entry_dict_update (PySem.F.args_dict_update_2 _ _) (meets_dict_update (mixKind X.prog X.w) a b hne hd2) ⟨ws, ws2, dd, dd2, by rw [sizeLine_eq]; omega, fun h' dd' _ hs => ?_⟩
  have he : ∃ q, h'.get? a = some q := let ⟨q, _, _, hq, _⟩ := dd'; ⟨q, hq⟩
  have hl := length_mergeK more kvs
  exact ⟨.non, _, d_write (t' := s.toks) I (by rw [ha]; exact True.intro) hs he (dk_new (by rw [sizeLine_eq]; omega) hd (KV.merge rel2 rel) dd'), rfl, q⟩
theorem pe_gI {x : Str} {i : Int} {pos : Pos} (hg : Gl X x) (hm : ∃ t, X.mg x = some (.int i t)) (hd : (x == ("__debug__" : Str)) = false := by decide) : PE X (.Name x pos) (tC (.int i)) := by
  obtain ⟨t, hm⟩ := hm
  exact pe_glob hg hm ⟨t, rfl⟩ hd
theorem pe_gS {x z : Str} {pos : Pos} (hg : Gl X x) (hm : ∃ t, X.mg x = some (.str z t)) (hd : (x == ("__debug__" : Str)) = false := by decide) : PE X (.Name x pos) (tC (.str z)) := by
  obtain ⟨t, hm⟩ := hm
  exact pe_glob hg hm ⟨t, rfl⟩ hd
theorem pe_gR {x : Str} {a : Addr} {pos : Pos} (hg : Gl X x) (hm : X.mg x = some (.ref a)) (hd : (x == ("__debug__" : Str)) = false := by decide) : PE X (.Name x pos) (tC (.ref a)) := pe_glob hg hm rfl hd
/-! ### steps for dicts -/
theorem x_dget {td ty : TE} {Q : VK} (q : td σ H fun x H1 => ty σ H1 fun y H2 => ∃ a v, x = .ref a ∧ DGet H2 a y (some v) ∧ Q v H2) : tDGet td ty σ H Q := q
theorem x_dgetS {p : Addr} {kvs : List (Key × V)} {x : Str} {v : V} {F : V → Prop} (h : H p = some (.dK kvs)) (e : valV kvs (.inr x) = some v) (q : F v) : ∃ a v, V.ref p = .ref a ∧ DGet H a (.str x) (some v) ∧ F v :=
  ⟨p, v, rfl, .inl ⟨kvs, .inr x, .inl h, rfl, e.symm⟩, q⟩
def uIxD (K : PySem.W.Frag) (w : World) : R2 := rIxD K w
theorem ix_D {K : PySem.W.Frag} {w : World} (hK : X.K = K := by rfl) (hw : X.w = w := by rfl) : IxR X (uIxD K w) := hK ▸ hw ▸ ix_kdict
theorem x_ixD {K : PySem.W.Frag} {w : World} {p : Addr} {z : Str} {v : V} {Q : VK} (h : KDct K w p z v) (q : Q v H) : uIxD K w (.ref p) (.str z) H Q := ⟨p, z, v, rfl, rfl, h, q⟩
theorem x_callL {i : Nat} {f : Addr} {sp : Sp} {dvs : List V} {E : XK} {t : TA} {Q : VK} (h : σ[i]? = some (some (.ref f))) (q : t σ H fun vs H1 => sp (vs ++ dvs) H1 Q E) : tCallL i f sp dvs E t σ H Q := ⟨h, q⟩
end
end Fw
namespace Fw
open PySem PySem.Spec PyProof.Rows L2
section
variable {X : Cx} {σ : L2.St} {H H0 : Hp} {K : PySem.W.Frag} {Q : VK} {p : Addr} {xs : List V} {x : V}
/-! ### in, not in -/
def uIn (K : PySem.W.Frag) : R2 := fun x y H Q => rIn K false x y H Q ∨ (∃ (c : Nat) (z : Str), x = .str ⟨#[c]⟩ ∧ y = .str z ∧ Q (.bl (decide (c ∈ z.cps.toList))) H) ∨ rInD K x y H Q
def uNotIn (K : PySem.W.Frag) : R2 := fun x y H Q => rIn K true x y H Q ∨ (∃ (c : Nat) (z : Str), x = .str ⟨#[c]⟩ ∧ y = .str z ∧ Q (.bl (!decide (c ∈ z.cps.toList))) H) ∨ rNotInD K x y H Q
theorem Room.un65 {k : Nat} {A : Around} (r : Room k A) : A.units + 65 < cLine := by have := r.un; omega
theorem op_inU {k : Nat} (hr : Room k X.A) (hK : X.K = K := by rfl) : OpR X (compareOp .In) (uIn K) := hK ▸ OpR.or op_in_seq (OpR.or op_in_sign (op_inD (Room.un65 hr)))
theorem op_notInU {k : Nat} (hr : Room k X.A) (hK : X.K = K := by rfl) : OpR X (compareOp .NotIn) (uNotIn K) := hK ▸ OpR.or op_notIn_seq (OpR.or op_notIn_sign (op_notInD (Room.un65 hr)))
theorem x_inL (h : SqL K H p xs) (h1 : flatV x = true) (h2 : xs.all flatV = true) (q : Q (.bl (inV x xs)) H) : uIn K x (.ref p) H Q := .inl ⟨p, xs, rfl, .inl h, h1, h2, q⟩
theorem x_inT (h : SqT K H p xs) (h1 : flatV x = true) (h2 : xs.all flatV = true) (q : Q (.bl (inV x xs)) H) : uIn K x (.ref p) H Q := .inl ⟨p, xs, rfl, .inr h, h1, h2, q⟩
theorem x_notInL (h : SqL K H p xs) (h1 : flatV x = true) (h2 : xs.all flatV = true) (q : Q (.bl (!inV x xs)) H) : uNotIn K x (.ref p) H Q := .inl ⟨p, xs, rfl, .inl h, h1, h2, q⟩
theorem x_notInT (h : SqT K H p xs) (h1 : flatV x = true) (h2 : xs.all flatV = true) (q : Q (.bl (!inV x xs)) H) : uNotIn K x (.ref p) H Q := .inl ⟨p, xs, rfl, .inr h, h1, h2, q⟩
theorem x_inSign {c : Nat} {z : Str} (q : Q (.bl (decide (c ∈ z.cps.toList))) H) : uIn K (.str ⟨#[c]⟩) (.str z) H Q := .inr (.inl ⟨c, z, rfl, rfl, q⟩)
/-! ### lists: +, dict displays, reversed slices -/
variable {Ms M0 : List Addr} {L : List (Addr × HO)} {R : List Fa} {q : Addr} {ys : List V}
theorem w_cat (hw : W K H0 Ms M0 H L R) (h1 : H p = some (.lst xs)) (h2 : H q = some (.lst ys)) (hz : xs.length + ys.length ≤ sizeLine) (k : ∀ p H', H p = none → W K H0 Ms M0 H' ((p, .lst (xs ++ ys)) :: L) R → Q (.ref p) H') : uAdd K (.ref p) (.ref q) H Q :=
  .inr (.inr (.inl ⟨p, q, xs, ys, rfl, rfl, h1, h2, hz, fun l hl => k l _ hl (hw.new hl _)⟩))
theorem w_rep (hw : W K H0 Ms M0 H L R) {k : Int} (h1 : H p = some (.lst xs)) (h2 : -(2 ^ 63) ≤ k) (h3 : k < 2 ^ 63) (hz : xs.length * k.toNat ≤ sizeLine) (c : ∀ p H', H p = none → W K H0 Ms M0 H' ((p, .lst (List.replicate k.toNat xs).flatten) :: L) R → Q (.ref p) H') : uMul K (.ref p) (.int k) H Q :=
  .inr (.inl ⟨p, k, xs, rfl, rfl, h1, h2, h3, hz, fun l hl => c l _ hl (hw.new hl _)⟩)
def toKey : V → Key
  | .str x => .inr x
  | .int i => .inl i
  | _ => .inl 0
def DispK (p : Addr) (ps : List (V × V)) (H : Hp) (Q : VK) : Prop := H p = some (.dK []) ∧ ∃ kvs : List (Key × V), ps = kvs.map (fun kv => (kV kv.1, kv.2)) ∧ kvs.length ≤ 15 ∧ Q (.ref p) (upd H p (.dK (mergeK [] kvs)))
def RevK (K : PySem.W.Frag) (x : V) (H : Hp) (Q : VK) : Prop := ∃ a xs, x = .ref a ∧ SqL K H a xs ∧ ∀ p, H p = none → Q (.ref p) (upd H p (.lst xs.reverse))
theorem w_disp {trs : List (TE × TE)} (hw : W K H0 Ms M0 H L R) (k : ∀ p H', H p = none → W K H0 Ms M0 H' ((p, .dK []) :: L) R → tPairs trs σ H' fun ps H2 => DispK p ps H2 Q) : tDisp trs σ H Q :=
  fun p hp => k p _ hp (hw.new hp _)
theorem x_pairs {tk tv : TE} {r : List (TE × TE)} {QP : List (V × V) → Hp → Prop} (k : tk σ H fun x H1 => tv σ H1 fun y H2 => tPairs r σ H2 fun ps H3 => QP ((x, y) :: ps) H3) : tPairs ((tk, tv) :: r) σ H QP := k
theorem x_pairs0 {QP : List (V × V) → Hp → Prop} (k : QP [] H) : tPairs [] σ H QP := k
theorem w_dispEnd {ps : List (V × V)} (hw : W K H0 Ms M0 H L R) (n : Nat) (hL : L[n]? = some (p, .dK [])) (e : ps = (ps.map fun p => (toKey p.1, p.2)).map fun kv => (kV kv.1, kv.2)) (hl : ps.length ≤ 15)
    (k : ∀ H', W K H0 Ms M0 H' (L.set n (p, .dK (mergeK [] (ps.map fun p => (toKey p.1, p.2))))) R → Q (.ref p) H') : DispK p ps H Q :=
  ⟨hw.at n hL, _, e, by rw [List.length_map]; exact hl, k _ (hw.set n hL _)⟩
theorem w_update {n m : Nat} {kvs more : List (Key × V)} (hw : W K H0 Ms M0 H L R) (h1 : L[n]? = some (p, .dK kvs)) (h2 : L[m]? = some (q, .dK more)) (hnm : n ≠ m) (hz : kvs.length + more.length ≤ 1000)
    (k : ∀ H', W K H0 Ms M0 H' (L.set n (p, .dK (mergeK kvs more))) R → Q .non H') : rUpdate (.ref p) [.ref q] H Q := ⟨p, q, kvs, more, rfl, rfl, hw.at n h1, hw.at m h2, hw.ne h1 h2 hnm, hz, k _ (hw.set n h1 _)⟩
theorem x_bm {T : String} {r : V → List V → Hp → VK → Prop} {to : TE} {t : TA} (k : to σ H fun x H1 => tyV K T x H1 ∧ t σ H1 fun xs H2 => r x xs H2 Q) : tBM K T r to t σ H Q := k
theorem x_bm0 {T : String} {r : V → List V → Hp → VK → Prop} {to : TE} (k : to σ H fun x H1 => tyV K T x H1 ∧ r x [] H1 Q) : tBM0 K T r to σ H Q := k
theorem x_tyL {B : Prop} (h : H p = some (.lst xs)) (k : B) : tyV K "list" (.ref p) H ∧ B := ⟨.inl ⟨rfl, _, SqL.of h⟩, k⟩
theorem x_tyD {B : Prop} {kvs : List (Key × V)} (h : H p = some (.dK kvs)) (k : B) : tyV K "dict" (.ref p) H ∧ B := ⟨.inr (.inr (.inl ⟨rfl, .inl ⟨_, h⟩⟩)), k⟩
theorem x_tyS {B : Prop} {z : Str} (k : B) : tyV K "str" (.str z) H ∧ B := ⟨rfl, k⟩
theorem w_append {n : Nat} (hw : W K H0 Ms M0 H L R) (h1 : L[n]? = some (p, .lst xs)) (hz : xs.length < sizeLine) (k : ∀ H', W K H0 Ms M0 H' (L.set n (p, .lst (xs ++ [x]))) R → Q .non H') : rAppend (.ref p) [x] H Q := ⟨p, xs, x, rfl, rfl, hw.at n h1, hz, k _ (hw.set n h1 _)⟩
section
variable {o e : Expr} {es : List Expr} {to : TE} {t : TA} {name : Str} {apos cpos : Pos} {T id : String} {r : V → List V → Hp → VK → Prop}
theorem pe_m0 (pa : PlainAttrs T) (slot : Slot T name id) (hty : typeOf (.builtin id) = pure (.type "method_descriptor")) (hm : MtR X id r) (ho : PE X o to)
    (hbase : attributeBase o name X.env (eval o X.env) = eval o X.env := by rfl) (hline : (apos.endLine == cpos.line) = true := by rfl) (hK : X.K = K := by rfl) : PE X (.Call (.Attribute o name apos) [] [] cpos) (tBM0 K T r to) := hK ▸ pe_bm0 pa slot hty hm ho hbase hline
theorem pe_m1 (pa : PlainAttrs T) (slot : Slot T name id) (hty : typeOf (.builtin id) = pure (.type "method_descriptor")) (hm : MtR X id r) (ho : PE X o to) (ha : PA X (e :: es) t)
    (hbase : attributeBase o name X.env (eval o X.env) = eval o X.env := by rfl)
    (hfew : ((backTo cpos (starEach (e :: es) X.env)).all (fun x => !x.1) && (backToKw cpos (keywordEach [] X.env)).all (fun x => x.1.isSome)
      && decide ((e :: es).length + ([] : List Keyword).length + (if ([] : List Keyword).isEmpty then 0 else 1) < 30)) = true := by rfl)
    (hline : (apos.endLine == cpos.line) = true := by rfl) (hs : starEach (e :: es) X.env = (false, eval e X.env) :: starEach es X.env := by rfl) (hplain : (backTo cpos (starEach es X.env)).any (·.1) = false := by rfl) (hK : X.K = K := by rfl) :
    PE X (.Call (.Attribute o name apos) (e :: es) [] cpos) (tBM K T r to t) := hK ▸ pe_bm pa slot hty hm ho ha hbase hfew hline hs hplain
end
theorem pe_revU {e : Expr} {te : TE} {k : Nat} {p1 p2 p3 pos : Pos} (he : PE X e te) (hK : X.K = K := by rfl) : PE X (.Subscript e (.Slice none none (some (.UnaryOp .USub (.Constant (.int 1) k p1) p2)) p3) pos) (tRevL K te) := hK ▸ pe_revL he
theorem x_rev {te : TE} (k : te σ H fun x H1 => RevK K x H1 Q) : tRevL K te σ H Q := k
theorem w_rev (hw : W K H0 Ms M0 H L R) (h : SqL K H p xs) (k : ∀ p H', H p = none → W K H0 Ms M0 H' ((p, .lst xs.reverse) :: L) R → Q (.ref p) H') : RevK K (.ref p) H Q :=
  ⟨p, xs, rfl, h, fun l hl => k l _ hl (hw.new hl _)⟩
end
end Fw
namespace Fw
open PySem PySem.Spec PyProof.Rows L2
section
variable {X : Cx} {σ : L2.St} {H H0 : Hp} {K : PySem.W.Frag} {Q : VK} {p q : Addr} {xs : List V} {x : V} {m : Int} {b : Bool} {T n : String}
/-! ### isinstance -/
def uIsi (K : PySem.W.Frag) : List V → Hp → VK → Prop := fun xs H Q => rIsi K xs H Q ∨ rIsiT K xs H Q
theorem call_isiU (hK : X.K = K := by rfl) : CallR X (.builtin "isinstance") (uIsi K) := hK ▸ CallR.or call_isi call_isiT
theorem x_isi (ht : TyX K H x (.type T)) (e : kitB T n = some b) (k : Q (.bl b) H) : uIsi K [x, .ty n] H Q := .inl ⟨x, .ty n, .type T, .type n, b, rfl, .ty n, ht, kit_ty e, k⟩
theorem x_isiI {i : Int} (e : kitB "int" n = some b) (k : Q (.bl b) H) : uIsi K [.int i, .ty n] H Q := x_isi (.base (.int _)) e k
theorem x_isiB {c : Bool} (e : kitB "bool" n = some b) (k : Q (.bl b) H) : uIsi K [.bl c, .ty n] H Q := x_isi (.base (.bl _)) e k
theorem x_isiS {z : Str} (e : kitB "str" n = some b) (k : Q (.bl b) H) : uIsi K [.str z, .ty n] H Q := x_isi (.base (.str _)) e k
theorem x_isiN (e : kitB "NoneType" n = some b) (k : Q (.bl b) H) : uIsi K [.non, .ty n] H Q := x_isi (.base .non) e k
theorem x_isiL (h : H p = some (.lst xs)) (e : kitB "list" n = some b) (k : Q (.bl b) H) : uIsi K [.ref p, .ty n] H Q := x_isi (.base (.lst h)) e k
theorem x_isiT (h : H p = some (.tup xs)) (e : kitB "tuple" n = some b) (k : Q (.bl b) H) : uIsi K [.ref p, .ty n] H Q := x_isi (.base (.tup h)) e k
/-! ### an item at a drawn place -/
theorem x_ixAny (h : SqL K H p xs) (h0 : 0 ≤ m) (h1 : m < xs.length) (k : ∀ v ∈ xs, Q v H) : uIx K (.ref p) (.int m) H Q := by
  have hm : m.toNat < xs.length := by omega
  have e : m = ((m.toNat : Nat) : Int) := by omega
  have q : atI xs ((m.toNat : Nat) : Int) = some xs[m.toNat] := atI_nat (List.getElem?_eq_getElem hm)
  rw [← e] at q
  exact x_ixL h q (k _ (List.getElem_mem hm))
theorem at_get {α : Type} {xs : List α} (h0 : 0 ≤ m) (h1 : m < xs.length) : atI xs m = some (xs[m.toNat]'(by omega)) := by
  have hm : m.toNat < xs.length := by omega
  have e : m = ((m.toNat : Nat) : Int) := by omega
  have q : atI xs ((m.toNat : Nat) : Int) = some xs[m.toNat] := atI_nat (List.getElem?_eq_getElem hm)
  rw [← e] at q
  exact q
theorem x_chain {r r' : R2} {ta tb tc : TE} (k : ta σ H fun x H1 => tb σ H1 fun y H2 => r x y H2 fun z H3 => ∃ k, z = .bl k ∧ (if k = true then tc σ H3 fun w' H4 => r' y w' H4 Q else Q (.bl false) H3)) : tChain r r' ta tb tc σ H Q := k
end
end Fw
namespace Fw
open PySem PySem.Spec PyProof.Rows L2
section
variable {X : Cx} {σ : L2.St} {H H0 : Hp} {K : PySem.W.Frag} {Q : VK} {p q : Addr} {xs : List V} {x : V} {m : Int} {b : Bool} {n : Nat} {Ms M0 : List Addr} {L : List (Addr × HO)} {R : List Fa}
variable {J : It} {G : Hp → Prop} {Y : Nat → Hp → V → Hp → Prop} {wi : TI} {g : TG} {tt : TT} {te : TE} {vs : List Nat} {D : Ends} {tb : TS}
/-! ### comprehensions, loops over any walk, with the state -/
def LcK (J : It) (g : TG) (tt : TT) (te : TE) (vs : List Nat) (σ : L2.St) (H1 : Hp) (Q : VK) : Prop := ∀ D, H1 D = none → ∃ W : Nat → Nat → Hp → Prop, (∃ m, W 0 m (upd H1 D (.lst []))) ∧ ∀ i m H, W i m H →
  (J.stop i H ∧ Q (.ref D) H) ∨ (J.go i H ∧ ∃ Nx : Hp → Prop, (∀ H', Nx H' → ∃ m', m' < m ∧ W (i + 1) m' H') ∧ ∀ x H', J.yld i H x H' → g x (wipe σ vs) H' fun σ2 H2 => wipe σ2 vs = wipe σ vs ∧ tt σ2 H2 fun b H3 =>
    if b = true then te σ2 H3 fun y H4 => ∃ acc, H4 D = some (.lst acc) ∧ acc.length < sizeLine ∧ Nx (upd H4 D (.lst (acc ++ [y]))) else Nx H3)
def AppK (D : Addr) (N : Hp → Prop) (y : V) (H : Hp) : Prop := ∃ acc, H D = some (.lst acc) ∧ acc.length < sizeLine ∧ N (upd H D (.lst (acc ++ [y])))
theorem x_lc (k : wi σ H fun J H1 => LcK J g tt te vs σ H1 Q) : tLc wi g tt te vs σ H Q := k
theorem w_lcK (hw : W K H0 Ms M0 H L R) (wk : Walk J n G Y) (Pv : Addr → Nat → Hp → Prop) (h0 : ∀ D H', H D = none → W K H0 Ms M0 H' ((D, .lst []) :: L) R → Pv D 0 H') (hG : ∀ D i H, i ≤ n → Pv D i H → G H)
    (hs : ∀ D i x H H', i < n → Pv D i H → Y i H x H' → g x (wipe σ vs) H' fun σ2 H2 => wipe σ2 vs = wipe σ vs ∧ tt σ2 H2 fun b H3 => if b = true then te σ2 H3 fun y H4 => AppK D (Pv D (i + 1)) y H4 else Pv D (i + 1) H3)
    (hd : ∀ D H, Pv D n H → Q (.ref D) H) : LcK J g tt te vs σ H Q := fun D hD =>
  lc_it wk (Pv D) (h0 D _ hD (hw.new hD _)) (hG D) (hs D) (hd D)
theorem w_app {N : Hp → Prop} (hw : W K H0 Ms M0 H L R) (k : Nat) (hL : L[k]? = some (p, .lst xs)) (hz : xs.length < sizeLine) (c : ∀ H', W K H0 Ms M0 H' (L.set k (p, .lst (xs ++ [x]))) R → N H') : AppK p N x H :=
  ⟨xs, hw.at k hL, hz, c _ (hw.set k hL _)⟩
theorem x_yes {QB : Bool → Hp → Prop} (k : QB true H) : tYes σ H QB := k
theorem x_wipe {B : Prop} {σ2 : L2.St} (h : wipe σ2 vs = wipe σ vs) (k : B) : wipe σ2 vs = wipe σ vs ∧ B := ⟨h, k⟩
def ForK (J : It) (g : TG) (tb : TS) (D : Ends) (σ : L2.St) (H1 : Hp) : Prop := ∃ W : Nat → Nat → L2.St → Hp → Prop, (∃ m, W 0 m σ H1) ∧ ∀ i m σ H, W i m σ H →
      (J.stop i H ∧ D.nx σ H) ∨ (J.go i H ∧ ∃ N : L2.St → Hp → Prop, (∀ σ' H', N σ' H' → ∃ m', m' < m ∧ W (i + 1) m' σ' H') ∧ ∀ x H', J.yld i H x H' → g x σ H' fun σ2 H2 => tb { D with nx := N, ct := N, bk := D.nx } σ2 H2)
theorem x_forK (k : wi σ H fun J H1 => ForK J g tb D σ H1) : tFor wi g tb D σ H := k
theorem w_for (wk : Walk J n G Y) (Pv : Nat → L2.St → Hp → Prop) (h0 : Pv 0 σ H) (hG : ∀ i σ H, i ≤ n → Pv i σ H → G H)
    (hs : ∀ i x σ H H', i < n → Pv i σ H → Y i H x H' → g x σ H' fun σ2 H2 => tb (Ends.mk (Pv (i + 1)) D.rt D.nx (Pv (i + 1))) σ2 H2) (hd : ∀ σ H, Pv n σ H → D.nx σ H) : ForK J g tb D σ H := for_it wk Pv h0 hG hs hd
theorem W.abs {F : Prop} (hw : W K H0 Ms M0 H L R) (k : ∀ L' R', L' = L → R' = R → W K H0 Ms M0 H L' R' → F) : F := k L R rfl rfl hw
/-! ### what is walked: a list, a tuple, a text -/
def ItV (K : PySem.W.Frag) (x : V) (H : Hp) (R : It → Hp → Prop) : Prop := (∃ a xs, x = .ref a ∧ SqL K H a xs ∧ R (Itl K a) H) ∨ (∃ a xs, x = .ref a ∧ SqT K H a xs ∧ R (Itt K a) H) ∨ ∃ z, x = .str z ∧ R (Its z) H
def iU (K : PySem.W.Frag) (te : TE) : TI := fun σ H R => te σ H fun x H1 => ItV K x H1 R
theorem pi_U {tg l : Expr} {tl : TE} (hl : PE X l tl) (hK : X.K = K := by rfl) : PI X tg l (iU K tl) := by
  subst hK
  refine ⟨fun pins s σ H R I h => ?_⟩
  refine thn (hl.run pins s σ H _ I h) fun v s1 ⟨x, H1, I1, r1, q1⟩ => ?_
  rcases q1 with ⟨a, xs, e, hq, q⟩ | ⟨a, xs, e, hq, q⟩ | ⟨z, e, q⟩
  · subst e
    cases r1
    obtain ⟨its, rv, p, hz⟩ := I1.list hq
    refine wpAny_pyIter_list p.isList ?_
    refine ⟨s1.heap.objs.size, [s1.heap.objs.size], _, _, H1, rfl, I1.kept (t' := s1.toks) fun b o e => Heap.get?_push_of_some _ e, turn_list a _, ⟨_, Heap.get?_push_size _ rfl, rfl, rfl⟩, fun b hb => ?_, q⟩
    have e : b = s1.heap.objs.size := by simpa using hb
    subst e
    exact I1.fpOk (Nat.le_refl _) (I1.hok.fresh (Nat.le_refl _))
  · subst e
    cases r1
    obtain ⟨its, rv, p, hz⟩ := I1.tuple hq
    refine wpAny_pyIter_tuple (show s1.heap.IsTuple a its.toArray from p) ?_
    refine ⟨s1.heap.objs.size, [s1.heap.objs.size], _, _, H1, rfl, I1.kept (t' := s1.toks) fun b o e => Heap.get?_push_of_some _ e, turn_tuple a _, ⟨_, Heap.get?_push_size _ rfl, rfl, rfl⟩, fun b hb => ?_, q⟩
    have e : b = s1.heap.objs.size := by simpa using hb
    subst e
    exact I1.fpOk (Nat.le_refl _) (I1.hok.fresh (Nat.le_refl _))
  · subst e
    obtain ⟨t, rfl⟩ := r1
    cases ha : z.cps.all (· < 128)
    · exact wpAny_pyIter_wide ha (pi_one (tk := s1.toks) I1 _ (turn_str _ z t "str_iterator" (.inr rfl)) ⟨_, Heap.get?_push_size _ rfl, rfl, rfl⟩ q)
    · exact wpAny_pyIter_ascii ha (pi_one (tk := s1.toks) I1 _ (turn_str _ z t "str_ascii_iterator" (.inl rfl)) ⟨_, Heap.get?_push_size _ rfl, rfl, rfl⟩ q)
theorem x_iU {R : It → Hp → Prop} {te : TE} (k : te σ H fun x H1 => ItV K x H1 R) : iU K te σ H R := k
theorem x_itL {R : It → Hp → Prop} (h : SqL K H p xs) (k : R (Itl K p) H) : ItV K (.ref p) H R := .inl ⟨p, xs, rfl, h, k⟩
theorem x_itT {R : It → Hp → Prop} (h : SqT K H p xs) (k : R (Itt K p) H) : ItV K (.ref p) H R := .inr (.inl ⟨p, xs, rfl, h, k⟩)
theorem x_itS {R : It → Hp → Prop} {z : Str} (k : R (Its z) H) : ItV K (.str z) H R := .inr (.inr ⟨z, rfl, k⟩)
/-! ### all of truths -/
theorem rep_bl (n : Nat) : List.replicate n (V.bl true) = (List.replicate n true).map V.bl := by rw [List.map_replicate]
theorem all_rep (n : Nat) : (List.replicate n true).all id = true := by simp
theorem x_allT (h : H p = some (.lst (List.replicate n (.bl true)))) (k : Q (.bl true) H) : rAll K [.ref p] H Q := ⟨p, List.replicate n true, rfl, by rw [← rep_bl]; exact SqL.of h, by rw [all_rep]; exact k⟩
theorem rep_snoc {α : Type} (n : Nat) (v : α) : List.replicate n v ++ [v] = List.replicate (n + 1) v := by rw [List.replicate_succ']
end
end Fw
namespace Fw
open PySem PySem.Spec PyProof.Rows L2
/-! ### == of data -/
theorem lay_ints : ∀ ns : List Int, PyData.canLayAll0 (ns.map PyData.int) = true
  | [] => by simp [PyData.canLayAll0]
  | n :: r => by simp [PyData.canLayAll0, PyData.canLay0, lay_ints r]
theorem depth_ints : ∀ ns : List Int, PyData.depthAll (ns.map PyData.int) ≤ 1
  | [] => by simp [PyData.depthAll]
  | n :: r => by have := depth_ints r; simp [PyData.depthAll, PyData.depth]; omega
theorem shaped_ints (ns : List Int) : SeqAt.shaped (.list (ns.map .int)) = true := by
  unfold SeqAt.shaped
  have h := depth_ints ns
  simp [PyData.canLay0, PyData.depth, lay_ints ns]
  omega
theorem eqv_ints : ∀ ns ms : List Int, PyData.eqvAll (ns.map PyData.int) (ms.map PyData.int) = decide (ns = ms)
  | [], [] => by simp [PyData.eqvAll]
  | [], _ :: _ => by simp [PyData.eqvAll]
  | _ :: _, [] => by simp [PyData.eqvAll]
  | n :: r, m :: t => by
    simp [PyData.eqvAll, PyData.eqv, eqv_ints r t]
    congr 1

section
variable {H : Hp} {K : PySem.W.Frag} {Q : VK} {p q : Addr} {ns ms : List Int}
theorem dp_ints (h : H p = some (.lst (ns.map V.int))) : Dp K H (.ref p) (.list (ns.map .int)) := .lst (SqL.of h) (DdAll.dp (DdAll.ints ns))
theorem x_eqIL (h1 : H p = some (.lst (ns.map V.int))) (h2 : H q = some (.lst (ms.map V.int))) (k : Q (.bl (decide (ns = ms))) H) : uEq K (.ref p) (.ref q) H Q :=
  .inr ⟨_, _, dp_ints h1, dp_ints h2, shaped_ints ns, shaped_ints ms, by rw [PyData.eqv, eqv_ints]; exact k⟩
theorem x_neIL (h1 : H p = some (.lst (ns.map V.int))) (h2 : H q = some (.lst (ms.map V.int))) (k : Q (.bl (!decide (ns = ms))) H) : uNe K (.ref p) (.ref q) H Q :=
  .inr ⟨_, _, dp_ints h1, dp_ints h2, shaped_ints ns, shaped_ints ms, by rw [PyData.eqv, eqv_ints]; exact k⟩
theorem w_sorted {H0 : Hp} {Ms M0 : List Addr} {L : List (Addr × HO)} {R : List Fa} (hw : W K H0 Ms M0 H L R) (ns : List Int) (h : SqL K H p (ns.map V.int)) (h64 : ns.length < 64) (k : ∀ (ns' : List Int) p H', ns'.Perm ns → ns'.Pairwise (· ≤ ·) → H p = none → W K H0 Ms M0 H' ((p, .lst (ns'.map V.int)) :: L) R → Q (.ref p) H') : rSorted K [.ref p] H Q :=
  ⟨p, ns, rfl, h, h64, fun ns' l h1 h2 h3 => k ns' l _ h1 h2 h3 (hw.new h3 _)⟩
end
end Fw
namespace Fw
open PySem PySem.Spec PyProof.Rows L2
section
variable {σ : L2.St} {H H0 : Hp} {K : PySem.W.Frag} {Q : VK} {p q : Addr} {xs : List V} {x : V} {Ms M0 : List Addr} {L : List (Addr × HO)} {R : List Fa} {ds es : List PyData}
/-- a new thing that a call made -/
theorem W.adopt {H' : Hp} {o : HO} (w : W K H0 Ms M0 H L R) (e : Ex [] H H') (h : H p = none) (h' : H' p = some o) : W K H0 Ms M0 H' ((p, o) :: L) R where
  ex := w.ex.trans (e.sub fun x z => nomatch z)
  al := (w.pure e).al
  nd := by
    refine List.nodup_cons.mpr ⟨fun z => ?_, w.nd⟩
    obtain ⟨q, hq, e⟩ := List.mem_map.mp z
    have := w.cell q hq
    rw [e, h] at this; cases this
  cell := fun q hq => by
    rcases List.mem_cons.mp hq with rfl | hq
    · exact h'
    · exact e.ext _ _ (w.cell q hq)
  own := fun q hq => by
    rcases List.mem_cons.mp hq with rfl | hq
    · by_cases hm : p ∈ Ms
      · exact .inl hm
      · refine .inr ⟨?_, fun z => w.al p z h⟩
        cases e : H0 p with
        | none => rfl
        | some u =>
          have := w.ex _ _ hm e
          rw [h] at this; cases this
    · exact w.own q hq
  rep := fun r hr => Fa.ext (del_ext (Mc := []) e (fun x z => nomatch z) fun x hx hn => by
    rcases List.mem_cons.mp hx with rfl | hx
    · exact h
    · exact absurd hx hn) (w.rep r hr)
/-- keep some of the facts, by their places -/
theorem W.pick {R' : List Fa} (hw : W K H0 Ms M0 H L R) (is : List Nat) (h : (is.map fun i => R[i]?) = R'.map some) : W K H0 Ms M0 H L R' := hw.sub fun r hr => by
  have h1 : some r ∈ R'.map some := List.mem_map.mpr ⟨r, hr, rfl⟩
  rw [← h] at h1
  obtain ⟨i, _, e⟩ := List.mem_map.mp h1
  exact List.mem_of_getElem? e
/-- keep some of the cells, by their places -/
theorem W.cells {L' : List (Addr × HO)} (hw : W K H0 Ms M0 H L R) (is : List Nat) (h : (is.map fun i => L[i]?) = L'.map some) (hn : is.Nodup) : W K H0 Ms M0 H L' R := by
  have hm : ∀ r ∈ L', r ∈ L := fun r hr => by
    have h1 : some r ∈ L'.map some := List.mem_map.mpr ⟨r, hr, rfl⟩
    rw [← h] at h1
    obtain ⟨i, _, e⟩ := List.mem_map.mp h1
    exact List.mem_of_getElem? e
  have hl : L'.length = is.length := by have := congrArg List.length h; simpa using this.symm
  refine ⟨hw.ex, hw.al, ?_, fun q hq => hw.cell q (hm q hq), fun q hq => hw.own q (hm q hq), fun r hr => Fa.ext (del_sub fun x hx => ?_) (hw.rep r hr)⟩
  · rw [List.nodup_iff_pairwise_ne, List.pairwise_iff_getElem]
    intro i j hi hj hij e
    rw [List.length_map] at hi hj
    have g : ∀ (k : Nat) (hk : k < L'.length), L[is[k]'(by omega)]? = some L'[k] := fun k hk => by
      have := congrArg (fun l => l[k]?) h
      simp only [List.getElem?_map, List.getElem?_eq_getElem hk, List.getElem?_eq_getElem (show k < is.length by omega), Option.map_some] at this
      exact Option.some.inj this
    have h1 : (L.map (·.1))[is[i]'(by omega)]? = some L'[i].1 := by rw [List.getElem?_map, g i hi]; rfl
    have h2 : (L.map (·.1))[is[j]'(by omega)]? = some L'[i].1 := by
      rw [List.getElem?_map, g j hj]
      rw [List.getElem_map, List.getElem_map] at e
      exact congrArg some e.symm
    have h3 := nd_ix hw.nd h1 h2
    exact absurd ((List.getElem_inj hn).mp h3) (Nat.ne_of_lt hij)
  · rcases List.mem_append.mp hx with hx | hx
    · obtain ⟨q, hq, e⟩ := List.mem_map.mp hx
      exact List.mem_append_left _ (List.mem_map.mpr ⟨q, hm q hq, e⟩)
    · exact List.mem_append_right _ hx
/-! ### displays as data -/
theorem w_lstD (hw : W K H0 Ms M0 H L R) (hd : RpAll K (av L M0) H xs ds) (h : xs.length ≤ sizeLine) (k : ∀ p H', H p = none → W K H0 Ms M0 H' L (.rp (.ref p) (.list ds) :: R) → Q (.ref p) H') : LstK xs H Q :=
  ⟨h, fun p hp => k p _ hp (hw.newLst hp hd)⟩
theorem w_tupD (hw : W K H0 Ms M0 H L R) (hd : RpAll K (av L M0) H xs ds) (h : xs.length ≤ sizeLine) (k : ∀ p H', H p = none → W K H0 Ms M0 H' L (.rp (.ref p) (.tuple ds) :: R) → Q (.ref p) H') : TupK xs H Q :=
  ⟨h, fun p hp => k p _ hp (hw.newTup hp hd)⟩
theorem w_catD (hw : W K H0 Ms M0 H L R) (h1 : Rp K (av L M0) H (.ref p) (.list ds)) (h2 : Rp K (av L M0) H (.ref q) (.list es)) (hz : ds.length + es.length ≤ sizeLine) (k : ∀ p H', H p = none → W K H0 Ms M0 H' L (.rp (.ref p) (.list (ds ++ es)) :: R) → Q (.ref p) H') : uAdd K (.ref p) (.ref q) H Q := by
  obtain ⟨xs, hx, rx⟩ := Rp.unL h1
  obtain ⟨ys, hy, ry⟩ := Rp.unL h2
  exact .inr (.inr (.inl ⟨p, q, xs, ys, rfl, rfl, hx, hy, by rw [rx.length, ry.length]; exact hz, fun l hl => k l _ hl (hw.newLst hl (rx.append ry))⟩))
/-- a list of data walked: the i-th item -/
theorem Rp.walk (h : Rp K M0 H (.ref p) (.list ds)) : ∃ xs, H p = some (.lst xs) ∧ xs.length = ds.length ∧ ∀ (i : Nat) x, xs[i]? = some x → ∃ d, ds[i]? = some d ∧ Rp K M0 H x d := by
  obtain ⟨xs, hx, rx⟩ := Rp.unL h
  refine ⟨xs, hx, rx.length, fun i x hi => ?_⟩
  have hlt : i < ds.length := by rw [← rx.length]; exact (List.getElem?_eq_some_iff.mp hi).1
  obtain ⟨v, h1, h2⟩ := rx.get (List.getElem?_eq_getElem hlt)
  rw [hi] at h1
  cases h1
  exact ⟨_, List.getElem?_eq_getElem hlt, h2⟩
theorem Rp.walkT (h : Rp K M0 H (.ref p) (.tuple ds)) : ∃ xs, SqT K H p xs ∧ xs.length = ds.length ∧ ∀ (i : Nat) x, xs[i]? = some x → ∃ d, ds[i]? = some d ∧ Rp K M0 H x d := by
  obtain ⟨xs, hx, rx⟩ := Rp.unT h
  refine ⟨xs, hx, rx.length, fun i x hi => ?_⟩
  have hlt : i < ds.length := by rw [← rx.length]; exact (List.getElem?_eq_some_iff.mp hi).1
  obtain ⟨v, h1, h2⟩ := rx.get (List.getElem?_eq_getElem hlt)
  rw [hi] at h1
  cases h1
  exact ⟨_, List.getElem?_eq_getElem hlt, h2⟩
theorem Rp.item {i : Nat} (h : Rp K M0 H (.ref p) (.list ds)) (hk : H p = some (.lst xs)) (hi : xs[i]? = some x) : ∃ d, ds[i]? = some d ∧ Rp K M0 H x d := by
  obtain ⟨ys, hy, _, hw⟩ := Rp.walk h
  rw [hk] at hy
  cases hy
  exact hw i x hi
theorem Rp.ref {ds : List PyData} (h : Rp K M0 H x (.tuple ds)) : ∃ t xs, x = .ref t ∧ SqT K H t xs ∧ RpAll K M0 H xs ds := by
  cases h with
  | tup q r => exact ⟨_, _, rfl, del_all.sqT q, r⟩
theorem RpAll.cons_inv {d : PyData} (h : RpAll K M0 H xs (d :: ds)) : ∃ v vs, xs = v :: vs ∧ Rp K M0 H v d ∧ RpAll K M0 H vs ds := by
  cases h with
  | cons a b => exact ⟨_, _, rfl, a, b⟩
theorem RpAll.nil_inv (h : RpAll K M0 H xs []) : xs = [] := by
  cases h
  rfl
theorem Rp.str_inv {z : Str} (h : Rp K M0 H x (.str z)) : x = .str z := by
  cases h
  rfl
theorem Rp.int_inv {z : Int} (h : Rp K M0 H x (.int z)) : x = .int z := by
  cases h
  rfl
theorem Rp.bool_inv {z : Bool} (h : Rp K M0 H x (.bool z)) : x = .bl z := by
  cases h
  rfl
theorem Rp.tup2 {d e : PyData} (h : Rp K M0 H x (.tuple [d, e])) : ∃ t v w, x = .ref t ∧ SqT K H t [v, w] ∧ Rp K M0 H v d ∧ Rp K M0 H w e := by
  obtain ⟨t, xs, rfl, hq, h1⟩ := Rp.ref h
  obtain ⟨v, vs, rfl, hv, h2⟩ := RpAll.cons_inv h1
  obtain ⟨w, ws, rfl, hw, h3⟩ := RpAll.cons_inv h2
  cases RpAll.nil_inv h3
  exact ⟨t, v, w, rfl, hq, hv, hw⟩
theorem Rp.tup3 {d e f : PyData} (h : Rp K M0 H x (.tuple [d, e, f])) : ∃ t v w u, x = .ref t ∧ SqT K H t [v, w, u] ∧ Rp K M0 H v d ∧ Rp K M0 H w e ∧ Rp K M0 H u f := by
  obtain ⟨t, xs, rfl, hq, h1⟩ := Rp.ref h
  obtain ⟨v, vs, rfl, hv, h2⟩ := RpAll.cons_inv h1
  obtain ⟨w, ws, rfl, hw, h3⟩ := RpAll.cons_inv h2
  obtain ⟨u, us, rfl, hu, h4⟩ := RpAll.cons_inv h3
  cases RpAll.nil_inv h4
  exact ⟨t, v, w, u, rfl, hq, hv, hw, hu⟩
end
end Fw
namespace Fw
open PySem PySem.Spec PyProof.Rows L2
section
variable {P : Program} {w : World} {K : PySem.W.Frag} {mg : Str → Option Value} {base : Heap} {CX : CXT} {k : Nat} {x qual : Str} {st : Stmt} {kws : List (Str × V)} {f : Addr} {fd : FuncData} {ps : List Str} {sp : Sp}
theorem ofD (F : FunD K x qual (defArgs st) (defBody st) (defScope st) [] kws f fd) : Fun K x qual st f fd := by
  obtain ⟨oc, od, dV, kV, doc, pm, an, cdv, ct, osl, e, lk, hcd, hD, hK⟩ := F.ex
  rcases hD with ⟨_, rfl⟩ | ⟨e, _⟩
  · exact ⟨⟨oc, od, kV, doc, pm, an, cdv, ct, osl, e, lk, hcd⟩, F.kp⟩
  · exact absurd rfl e
theorem mkFn (F : FunD K x qual (defArgs st) (defBody st) (defScope st) [] kws f fd) (gm : mg x = some (.ref f))
    (h : ∀ (kV doc pm : Value) (an : Option Addr) (cdv ct : Value) (us : List Value), us.length = ps.length → bindArgs (PySem.W.fnOf x qual (defArgs st) (defBody st) (defScope st) .none kV doc pm an cdv ct) ⟨us, []⟩ = pure (ps.zip us))
    (G : FnOk P w K mg base CX k f fd ps sp) : Fn P w K mg base CX k x ps sp := ⟨f, fd, gm, F.kp, F.bindsN h, G⟩
end
end Fw
namespace Fw
open PySem PySem.Spec PyProof.Rows L2
/-! ### own exception classes, straight under one of Python's -/
/-- Python's class B, its mro tl -/
structure Bs (x : Str) (B nI iI : String) (tl : List Value) : Prop where
  new : ∃ (N iN : String) (tN : List Value), ExcBaseFacts N nI iN tN ∧ tl.contains (.type N) = true
  noA : tl.contains (.type "AttributeError") = false
  noN : tl.contains (.type "NameError") = false
  hasB : tl.contains (.type B) = true
  ini : Slot B "__init__" iI
  iEntry : entryFor table iI = some Builtin.«BaseException.__init__»
  iSplit : splitId iI = some (B, "__init__")
  iKind : builtinKind iI = some .slot
  iRow : Manifest.signature? iI = some ⟨.positional, "*", B, .self, [⟨"args", .varPos, false⟩]⟩
  noStar : (B != "*") = true
  store : StoreFacts B tl "object.__setattr__" "object"
  ty : typeOf (.type B) = pure (.type "type")
  stub : Manifest.isStub B = false
  boot : bootBuiltins x = some (.type B)
  fi : ∀ K, PySem.W.findCls K (.type B) (.type "type") "__init__" = some (.val (.builtin iI))
  hi : PySem.W.handedIn (.builtin iI) = true
  nn : x ≠ "__name__"
  nd : (x == ("__debug__" : Str)) = false
/-- an own class at C, its instances' own dict and all -/
structure Own (K : PySem.W.Frag) (C : Addr) (nI : String) (tl : List Value) : Prop where
  inn : PySem.W.excInitIn K C tl nI = true
  over : PySem.W.excOver K C tl = true
  hd : PySem.W.hasDictIn K C = true
  sa : PySem.W.findIn K (.ref C) "__setattr__" = some (some (.builtin "object.__setattr__"))
  sub : PySem.W.subIn K (.ref C) (.type "BaseException") = some true
  ty : PySem.W.typeIn K (.ref C) = some (.type "type")
  kp : PySem.W.keepIn K (.ref C) = true
  ga : PySem.W.findIn K (.ref C) "__getattribute__" = some (some (.builtin "BaseException.__getattribute__"))
  gg : PySem.W.findIn K (.ref C) "__getattr__" = some none
  cl : PySem.W.findIn K (.ref C) "__class__" = some (some (.builtin "object.__class__"))
  cg : PySem.W.specialIn K (.builtin "object.__class__") "__get__" = some (some (.builtin "getset_descriptor.__get__"))
  ct : PySem.W.takesIn K (.builtin "object.__class__") = some true
  mo : PySem.W.mroIn K C (.type "object") = some true
def ownB (K : PySem.W.Frag) (C : Addr) (nI : String) (tl : List Value) : Bool :=
  PySem.W.excInitIn K C tl nI && PySem.W.excOver K C tl && PySem.W.hasDictIn K C && decide (PySem.W.findIn K (.ref C) "__setattr__" = some (some (.builtin "object.__setattr__"))) && decide (PySem.W.subIn K (.ref C) (.type "BaseException") = some true) &&
  decide (PySem.W.typeIn K (.ref C) = some (.type "type")) && PySem.W.keepIn K (.ref C) && decide (PySem.W.findIn K (.ref C) "__getattribute__" = some (some (.builtin "BaseException.__getattribute__"))) && decide (PySem.W.findIn K (.ref C) "__getattr__" = some none) &&
  decide (PySem.W.findIn K (.ref C) "__class__" = some (some (.builtin "object.__class__"))) && decide (PySem.W.specialIn K (.builtin "object.__class__") "__get__" = some (some (.builtin "getset_descriptor.__get__"))) &&
  decide (PySem.W.takesIn K (.builtin "object.__class__") = some true) && decide (PySem.W.mroIn K C (.type "object") = some true)
theorem own_of {K : PySem.W.Frag} {C : Addr} {nI : String} {tl : List Value} (h : ownB K C nI tl = true) : Own K C nI tl := by
  unfold ownB at h
  simp only [Bool.and_eq_true, decide_eq_true_eq] at h
  obtain ⟨⟨⟨⟨⟨⟨⟨⟨⟨⟨⟨⟨h1, h2⟩, h3⟩, h4⟩, h5⟩, h6⟩, h7⟩, h8⟩, h9⟩, h10⟩, h11⟩, h12⟩, h13⟩ := h
  exact ⟨h1, h2, h3, h4, h5, h6, h7, h8, h9, h10, h11, h12, h13⟩
/-! the class called: its __new__ is that of a class N above, its __init__ its own -/
section
variable {M : Model} {A : Around} {E : Value → Shared → Prop} {h : Heap} {g : Array GenState} {d : Drawn} {t : Nat} {os : OsState} {nm q : Str} {C N0 : Addr} {bs bm tN : List Value} {hdct : Bool} {sn : List Str} {sub : List Value} {ab : Bool} {col : Option Bool} {dd : Option Addr} {k0 k1 k2 k3 k5 : Option Value} {x : Str} {B N nI iI iN : String} {tl : List Value}
theorem ask_new (F : ExcBaseFacts N nI iN tN) (hN : bm.contains (.type N) = true) {rest : List Value} {Q : Unit → Shared → Prop} (hC : h.get? C = some (excClassObj nm q C N0 bs bm hdct sn sub ab col dd k0 k1 k2 k3 k5 nI)) (hq : Q () ⟨h, g, d, t, os⟩) :
    wpAny M A (checkBuiltinCall nI ⟨.ref C :: rest, []⟩) Q E ⟨h, g, d, t, os⟩ := by
  have has : (Value.ref C :: bm).contains (.type N) = true := by rw [List.contains_cons, hN, Bool.or_true]
  have star := F.noStar
  simp only [checkBuiltinCall, F.newKind, F.newSplit, F.newRow]
  repeat (first | refine wpAny_loadPart_at hC ?_ | (refine wpAny_isSubtype_exc hC ?_; rw [has]) | refine wpAny_staticBase_exc hC ?_ | refine wpAny_madeBy_exc hC ?_ | simp only [bne_self_eq_false, Bool.false_eq_true, if_false] | wp_step)
  exact hq
theorem ask_init (F : Bs x B nI iI tl) (hT : ∀ X : String, bm.contains (.type X) = tl.contains (.type X)) {e : Addr} {oe : Obj} {rest : List Value} {Q : Unit → Shared → Prop} (hC : h.get? C = some (excClassObj nm q C N0 bs bm hdct sn sub ab col dd k0 k1 k2 k3 k5 nI)) (he : h.get? e = some oe)
    (hc : oe.cls = .ref C) (hq : Q () ⟨h, g, d, t, os⟩) : wpAny M A (checkBuiltinCall iI ⟨.ref e :: rest, []⟩) Q E ⟨h, g, d, t, os⟩ := by
  have has : (Value.ref C :: bm).contains (.type B) = true := by rw [List.contains_cons, hT, F.hasB, Bool.or_true]
  have short := F.noStar
  simp only [checkBuiltinCall, F.iKind, F.iSplit, F.iRow]
  repeat (first | (with_reducible refine wpAny_loadPart_at he ?_; rw [hc]) | with_reducible refine wpAny_loadPart_at hC ?_ | (with_reducible refine wpAny_isSubtype_exc hC ?_; rw [has]) | wp_step)
  refine wpAny_onRaise ?_
  rw [show ∀ (a b : String) (n : Nat), Bind.check ⟨.positional, "*", B, .self, [⟨"args", .varPos, false⟩]⟩ a b n (List.map (fun x => x.fst) ({ pos := Value.ref e :: rest } : Args).kw) = pure () from fun a b n => check_star_args _ _ _ _ _ _]
  exact wpAny_pure hq
end
section
variable {prog : Program} {w : World} {A : Around} {E : Value → Shared → Prop} {R : Result → Shared → Prop} {h : Heap} {g : Array GenState} {d : Drawn} {t : Nat} {os : OsState} {nm q : Str} {C N0 : Addr} {bs bm tN : List Value} {hdct : Bool} {sn : List Str} {sub : List Value} {ab : Bool} {col : Option Bool} {dd : Option Addr} {k0 k1 k2 k3 k5 : Option Value} {x : Str} {B N nI iI iN : String} {tl : List Value}
theorem run_new (F : ExcBaseFacts N nI iN tN) (hN : bm.contains (.type N) = true) (hA : bm.contains (.type "AttributeError") = false) (hM : bm.contains (.type "NameError") = false) {rest : List Value} (hC : h.get? C = some (excClassObj nm q C N0 bs bm hdct sn sub ab col dd k0 k1 k2 k3 k5 nI))
    (hq : R (.ok (.ret (.ref (h.objs.size + 1)))) ⟨(h.push (PySem.W.kdv_tup rest)).push (PySem.HandSPX.excO C h.objs.size), g, d, t, os⟩) (hrest : rest.length ≤ sizeLine) :
    codeAny (model prog w) A (.builtin nI ⟨.ref C :: rest, []⟩) R ⟨h, g, d, t, os⟩ := by
  have ends := F.ends
  have has : (Value.ref C :: bm).contains (.type N) = true := by rw [List.contains_cons, hN, Bool.or_true]
  have noa : (Value.ref C :: bm).contains (.type "AttributeError") = false := by rw [List.contains_cons, hA]; rfl
  have non : (Value.ref C :: bm).contains (.type "NameError") = false := by rw [List.contains_cons, hM]; rfl
  refine codeAny_builtinAt F.entry ?_
  unfold Builtin.«BaseException.__new__»
  refine PySem.wpAt_bind ?_
  show PySem.wpAt _ _ _ (stack >>= _) _ _ _
  refine PySem.wpAt_bind (PySem.wpAt_stack fun p below => PySem.wpAt_of_wpAny ?_)
  wp_walk
  refine PySem.wpAt_of_wpAny ?_
  rw [F.owner]
  repeat (first | with_reducible refine wpAny_madeHere_exc F.canon hC ?_ | with_reducible refine wpAny_loadPart_at hC ?_ | (with_reducible refine wpAny_isSubtype_exc hC ?_; first | rw [has] | rw [noa] | rw [non]) | wp_step)
  show R _ _
  rw [Heap.size_push]
  exact hq
theorem run_cls (F : ExcBaseFacts N nI iN tN) (hN : bm.contains (.type N) = true) (hA : bm.contains (.type "AttributeError") = false) (hM : bm.contains (.type "NameError") = false) {rest : List Value} {fI : Addr} (hC : h.get? C = some (excClassObj nm q C N0 bs bm hdct sn sub ab col dd k0 k1 k2 k3 k5 nI))
    (hi : PySem.W.Looks (model prog w) h (typeLookup (.ref C) "__init__") (some (.ref fI))) (hb : ∀ self, PySem.W.Looks (model prog w) h (bindSpecial (.ref fI) self) (.ref fI, [self])) (hrest : rest.length ≤ sizeLine)
    (hq : codeAny (model prog w) (A.under (.builtin "type.__call__" ⟨.ref C :: rest, []⟩)) (.call (.ref fI) ⟨.ref (h.objs.size + 1) :: rest, []⟩) (PySem.W.InitBack (h.objs.size + 1) R) ⟨(h.push (PySem.W.kdv_tup rest)).push (PySem.HandSPX.excO C h.objs.size), g, d, t, os⟩) :
    codeAny (model prog w) A (.call (.ref C) ⟨rest, []⟩) R ⟨h, g, d, t, os⟩ := by
  have f1 := tc_lookup
  have f2 := tc_bind (.ref C)
  have isT : (⟨h, g, d, t, os⟩ : Shared).TypeIs (.ref C) "type" := ⟨_, hC, rfl⟩
  refine codeAny_of_tree ?_
  show wpAny _ _ (callAny (.ref C) _) _ _ _
  repeat (any_goals (first | assumption | with_reducible refine wpAny_loadPart_at hC ?_ | wp_step))
  refine ⟨rfl, codeAny_call_builtin_at (Code.quiet_builtin _ (by decide +kernel)) entry_typeCall (wpAny_check_type_call_sub hC ?_)⟩
  show wpAny _ _ (Builtin.«type.__call__» ⟨.ref C :: rest, []⟩) _ _ _
  repeat (first | with_reducible refine wpAny_loadPart_at hC ?_ | with_reducible refine wpAny_madeBy_exc hC ?_ | wp_step)
  refine codeAny_call_builtin_code (Code.quiet_builtin _ F.quiet) (ask_new F hN hC (run_new F hN hA hM hC ?_ hrest))
  show wpAny _ _ _ _ _ _
  have k : ∀ b o, h.get? b = some o → ((h.push (PySem.W.kdv_tup rest)).push (PySem.HandSPX.excO C h.objs.size)).get? b = some o := fun b o e => Heap.get?_push_of_some _ (Heap.get?_push_of_some _ e)
  have hC1 := k _ _ hC
  have hget : ((h.push (PySem.W.kdv_tup rest)).push (PySem.HandSPX.excO C h.objs.size)).get? (h.objs.size + 1) = some (PySem.HandSPX.excO C h.objs.size) := by heap_get
  have me : (Value.ref C :: bm).contains (.ref C) = true := by simp
  unfold isInstance
  repeat (first | with_reducible refine wpAny_loadPart_at hget ?_ | (with_reducible refine wpAny_isSubtype_exc hC1 ?_; rw [me]) | wp_step)
  show wpAny _ _ (typeLookup (.ref C) _) _ _ _
  refine (hi.keeps k).at (wpAny_holding (wpAny_bind (((hb (.ref (h.objs.size + 1))).keeps k).at (wpAny_bind (wpAny_call (codeAny_mono hq fun r s' z => ?_))))))
  rcases r with e | (v | _ | _ | _) <;> first | exact z | exact z.elim | skip
  obtain ⟨rfl, z⟩ := z
  first
    | exact wpAny_pure (wpAny_pure z)
    | (wp_walk; exact z)
theorem run_init (F : Bs x B nI iI tl) (hT : ∀ X : String, bm.contains (.type X) = tl.contains (.type X)) {e t0 : Addr} {rest : List Value} (hC : h.get? C = some (excClassObj nm q C N0 bs bm hdct sn sub ab col dd k0 k1 k2 k3 k5 nI)) (he : h.get? e = some (PySem.HandSPX.excO C t0)) (hrest : rest.length ≤ sizeLine)
    (hq : ∀ h' t1, (∀ b o, b ≠ e → h.get? b = some o → h'.get? b = some o) → h'.get? e = some (PySem.HandSPX.excO C t1) → R (.ok (.ret .none)) ⟨h', g, d, t, os⟩) :
    codeAny (model prog w) A (.call (.builtin iI) ⟨.ref e :: rest, []⟩) R ⟨h, g, d, t, os⟩ := by
  refine codeAny_call_builtin F.ini.plain F.iEntry (ask_init F hT hC he rfl ?_)
  wp_walk
  refine hq _ h.objs.size (fun b o hb ho => ?_) ?_
  · rw [Heap.get?_update_other _ _ (Ne.symm hb)]
    exact Heap.get?_push_of_some _ ho
  · rw [Heap.get?_update_self _ (Heap.get?_push_of_some _ he) rfl]
    rfl
end
section
variable {prog : Program} {w : World} {A : Around} {R : Result → Shared → Prop} {hp : Heap} {g : Array GenState} {d : Drawn} {t : Nat} {os : OsState} {K : PySem.W.Frag} {C : Addr} {B nI : String} {tl : List Value} {name : Str} {tk : Tok} {v : Value} {x : Addr} {fv : Array Value}
theorem noTaker (h : PySem.W.findIn K (.ref C) name = some none) : PySem.W.takerIn K C name = some none := by
  unfold PySem.W.takerIn
  rw [h]
  rfl
theorem put_first (SF : StoreFacts B tl "object.__setattr__" "object") (T : Own K C nI tl) (X : K.In hp) (hx : hp.get? x = some { cls := .ref C, data := .fields fv }) (hno : PySem.W.findIn K (.ref C) name = some none)
    (hq : ∀ h' tk' dx, (∀ b o, b ≠ x → hp.get? b = some o → h'.get? b = some o) → hp.objs.size ≤ dx → dx ≠ x → h'.get? x = some { cls := .ref C, dict := some dx, data := .fields fv } →
      h'.Ns1 dx (fun y => if y = name then some v else none) → R (.ok (.ret .none)) ⟨h', g, d, tk', os⟩) :
    codeAny (model prog w) A (.call (.builtin "object.__setattr__") ⟨[.ref x, .str name tk, v], []⟩) R ⟨hp, g, d, t, os⟩ := by
  have I : PySem.W.InstAt hp x { cls := .ref C, data := .fields fv } C none := ⟨hx, rfl, rfl, trivial⟩
  refine PySem.W.osa_openX SF X I T.over (noTaker hno) fun b => ?_
  obtain ⟨cd, hcd, hh⟩ := PySem.W.any_some T.hd
  have hcls : PySem.W.Looks (model prog w) hp (classData C) cd := PySem.W.looks_clsIn X hcd
  have hxs : x ≠ hp.objs.size := Nat.ne_of_lt (Heap.lt_size hx)
  obtain ⟨nm, bs, mro, ns, qn, hd, sn, sb, ab, col, del⟩ := cd
  dsimp only at hh
  subst hh
  show wpAny _ _ (Builtin.ObjectAttr.storeInOwnDict (.ref x) (.ref C) (.str name tk) name v b) _ _ _
  unfold Builtin.ObjectAttr.storeInOwnDict Builtin.ObjectAttr.ownDictForStores
  repeat (first | with_reducible refine PySem.HandSPX.store_in_new ?_ ?_ | with_reducible refine wpAny_loadPart_at hx ?_ | with_reducible refine hcls.at ?_ | wp_step)
  · exact ⟨_, #[], _, (Heap.get?_update_ne _ _ _ _ hxs.symm).trans (Heap.get?_push_at rfl rfl), rfl, fun e he => absurd he (by simp), fun _ => rfl⟩
  · intro h' tk' hn' hs
    refine hq h' tk' hp.objs.size (fun b o hb ho => ?_) (Nat.le_refl _) hxs.symm ?_ hn'
    · exact (hs.2 b (Nat.ne_of_lt (Heap.lt_size ho))).trans ((Heap.get?_update_ne _ _ _ _ hb).trans (Heap.get?_push_of_some _ ho))
    · exact (hs.2 x hxs).trans (Heap.get?_update_self _ (Heap.get?_push_of_some _ hx) rfl)
theorem put_more {dx : Addr} {m0 : Str → Option Value} {nl : List Str} (SF : StoreFacts B tl "object.__setattr__" "object") (T : Own K C nI tl) (X : K.In hp) (hx : hp.get? x = some { cls := .ref C, dict := some dx, data := .fields fv }) (hns : hp.Ns1 dx m0) (hw : Within m0 nl) (hz : nl.length ≤ 1000)
    (hno : PySem.W.findIn K (.ref C) name = some none)
    (hq : ∀ h' tk', (∀ b o, b ≠ dx → hp.get? b = some o → h'.get? b = some o) → h'.Ns1 dx (fun y => if y = name then some v else m0 y) → R (.ok (.ret .none)) ⟨h', g, d, tk', os⟩) :
    codeAny (model prog w) A (.call (.builtin "object.__setattr__") ⟨[.ref x, .str name tk, v], []⟩) R ⟨hp, g, d, t, os⟩ := by
  obtain ⟨oD, esD, epD, hoD, hdD, _⟩ := hns.count hw
  have I : PySem.W.InstAt hp x { cls := .ref C, dict := some dx, data := .fields fv } C (some oD) := ⟨hx, rfl, rfl, hoD⟩
  refine PySem.W.osa_openX SF X I T.over (noTaker hno) fun b => ?_
  obtain ⟨cd, hcd, hh⟩ := PySem.W.any_some T.hd
  have hcls : PySem.W.Looks (model prog w) hp (classData C) cd := PySem.W.looks_clsIn X hcd
  obtain ⟨nm, bs, mro, ns, qn, hd, sn, sb, ab, col, del⟩ := cd
  dsimp only at hh
  subst hh
  show wpAny _ _ (Builtin.ObjectAttr.storeInOwnDict (.ref x) (.ref C) (.str name tk) name v b) _ _ _
  unfold Builtin.ObjectAttr.storeInOwnDict Builtin.ObjectAttr.ownDictForStores
  repeat (first | with_reducible refine PySem.OEX.store_in_old hns hw hz ?_ | with_reducible refine wpAny_loadPart_at hx ?_ | with_reducible refine hcls.at ?_ | wp_step)
  intro h' tk' hn' hs
  exact hq h' tk' (fun b o hb ho => (hs.2 b hb).trans ho) hn'
end
section
variable {X : Cx} {pins : List (Addr × Obj)} {σ : L2.St} {H : Hp} {s : Shared} {a C dx : Addr} {f : Str} {y : V} {u : Value} {fs : List (Str × V)} {Q : Unit → Shared → Prop} {E : Value → Shared → Prop} {A : Around} {B nI iI : String} {tl : List Value}
/-- self.f = y, when the exception has no dict as yet -/
theorem field_first (SF : StoreFacts B tl "object.__setattr__" "object") (T : Own X.K C nI tl) (I : Inv X pins σ H s) (e : H a = some (exo a C none)) (hno : PySem.W.findIn X.K (.ref C) f = some none) (ry : RelV y u)
    (h : ∀ dx s', H dx = none → dx ≠ a → Inv X pins σ (upd (upd H dx (exd dx [(f, y)])) a (exo a C (some dx))) s' → Q () s') : wpAny (model X.prog X.w) A (setAttr (.ref a) f u) Q E s := by
  obtain ⟨t1, ho⟩ := exo_at I.hok e
  obtain ⟨hp, g, d, t, os⟩ := s
  refine PySem.W.set_plain I.kIn (od := none) ⟨ho, rfl, rfl, trivial⟩ T.sa ?_
  refine put_first SF T I.kIn ho hno (fun h' tk' dx k dn dne hx hn => ?_)
  have fr : H dx = none := I.hok.fresh dn
  have old : ∀ {b : Addr} {o : Obj}, hp.get? b = some o → b ≠ dx := fun {b o} q => Nat.ne_of_lt (Nat.lt_of_lt_of_le (Heap.lt_size q) dn)
  have away : ∀ {b : Addr}, H b = none → b ≠ a := fun {b} n z => nomatch (z ▸ n : H a = none).symm.trans e
  have two : ∀ {b : Addr} {o : HO}, H b = some o → exo a C none ≠ o → upd (upd H dx (exd dx [(f, y)])) a (exo a C (some dx)) b = some o := fun {b o} q ne => by
    rw [upd_ne (at_ne e q ne), upd_ne (ne_of_none q fr)]
    exact q
  refine h dx _ fr dne (I.un (t' := tk') ⟨fun b o q n _ _ => k b o (away n) q, fun b o q n _ _ => ⟨o.slots, k b o (away n) q⟩, fun b o q n _ => by rw [upd_ne (away n), upd_ne (old q)]; exact n, fun b o q _ => ?_,
    fun b xs q => two q exo_tup, fun b o v q => two q exo_frz, fun b ps q => ⟨#[], by rw [two q exo_tbl]; simp⟩⟩ fun b o q => ?_)
  · by_cases hb : b = a
    · exact ⟨_, hb ▸ hx⟩
    · exact ⟨o, k b o hb q⟩
  · by_cases hb : b = a
    · subst hb
      rw [upd_same] at q
      cases q
      exact exo_ok hx
    rw [upd_ne hb] at q
    by_cases hd : b = dx
    · subst hd
      rw [upd_same] at q
      cases q
      exact exd_ok hn (relO_put (fs := []) ry fun g => True.intro)
    rw [upd_ne hd] at q
    exact (I.hok b o q).stay (fun c v hc z => k c v (hc.elim (fun z => z ▸ hb) fun z => at_ne e z exo_own) z) (fun c hc => two hc exo_own) fun c xs hc => two hc exo_tup
/-- self.f = y, when it has one -/
theorem field_more (SF : StoreFacts B tl "object.__setattr__" "object") (T : Own X.K C nI tl) (I : Inv X pins σ H s) (e : H a = some (exo a C (some dx))) (ed : H dx = some (exd dx fs)) (hl : fs.length ≤ 900) (hno : PySem.W.findIn X.K (.ref C) f = some none) (ry : RelV y u)
    (h : ∀ s', Inv X pins σ (upd H dx (exd dx ((f, y) :: fs))) s' → Q () s') : wpAny (model X.prog X.w) A (setAttr (.ref a) f u) Q E s := by
  obtain ⟨t1, ho⟩ := exo_at I.hok e
  obtain ⟨mA, hns, rel⟩ := exd_at I.hok ed
  have hw := within_of rel
  obtain ⟨hp, g, d, t, os⟩ := s
  obtain ⟨oD, _, _, hoD, _, _⟩ := hns.count hw
  refine PySem.W.set_plain I.kIn (od := some oD) ⟨ho, rfl, rfl, hoD⟩ T.sa ?_
  refine put_more SF T I.kIn ho hns hw (by rw [List.length_map]; omega) hno (fun h' tk' k hn => ?_)
  obtain ⟨o, es, ep, e', r⟩ := id hn
  exact h _ (I.write (t' := tk') (x := dx) (e := dx) (o := exd dx ((f, y) :: fs)) (by rw [ed]; exact True.intro) (.inl rfl) k ⟨o, e'⟩ (exd_ok hn (relO_put ry rel)))
/-- B.__init__(self, ..) -/
theorem base_init {x : Str} {us : List Value} {Q : Value → Shared → Prop} (F : Bs x B nI iI tl) (T : Own X.K C nI tl) (I : Inv X pins σ H s) (e : H a = some (exo a C none)) (hl : us.length ≤ sizeLine) (h : ∀ s', Inv X pins σ H s' → Q .none s') :
    wpAny (model X.prog X.w) A (call (.builtin iI) (.ref a :: us)) Q E s := by
  obtain ⟨nm, N, q, bs, bm, hd, sn, sub, ab, col, dd, k0, k1, k2, k3, k5, hC, hT⟩ := PySem.W.excInit_of I.kIn T.inn
  obtain ⟨t1, ho⟩ := exo_at I.hok e
  obtain ⟨hp, g, d, t, os⟩ := s
  refine wpAny_call (run_init F hT hC ho hl fun h' t2 k hx => ?_)
  have J := I.write (t' := t) (x := a) (e := a) (o := exo a C none) (by rw [e]; exact True.intro) (.inl rfl) k ⟨_, hx⟩ (exo_ok hx)
  have eu : upd H a (exo a C none) = H := funext fun b => by
    by_cases hb : b = a
    · rw [hb, upd_same, e]
    · rw [upd_ne hb]
  exact h _ (eu ▸ J)
end
/-- B.__init__(self, ..) -/
def tBI (K : PySem.W.Frag) (nI : String) (tl : List Value) (ta : TA) : TE := fun σ H Q => ta σ H fun vs H1 => ∃ (a C : Addr) (ws : List V), vs = .ref a :: ws ∧ ws.length ≤ 1000 ∧ Own K C nI tl ∧ H1 a = some (exo a C none) ∧ Q .non H1
/-- self.f = e -/
def tFld (K : PySem.W.Frag) (nI : String) (tl : List Value) (f : Str) (to te : TE) : TS := fun D σ H => te σ H fun y H1 => to σ H1 fun x H2 => ∃ a C : Addr, x = .ref a ∧ Own K C nI tl ∧ PySem.W.findIn K (.ref C) f = some none ∧
  ((H2 a = some (exo a C none) ∧ ∀ dx, H2 dx = none → dx ≠ a → D.nx σ (upd (upd H2 dx (exd dx [(f, y)])) a (exo a C (some dx)))) ∨
    ∃ (dx : Addr) (fs : List (Str × V)), H2 a = some (exo a C (some dx)) ∧ H2 dx = some (exd dx fs) ∧ fs.length ≤ 900 ∧ D.nx σ (upd H2 dx (exd dx ((f, y) :: fs))))
section
variable {X : Cx} {o e : Expr} {es : List Expr} {to te : TE} {ta : TA} {f x : Str} {p p' p1 p2 pos : Pos} {B nI iI : String} {tl : List Value}
theorem pe_binit {pl : Sem Bool} (F : Bs x B nI iI tl) (hg : Gl X x) (hm : X.mg x = none) (ha : PA X (e :: es) ta)
    (hc : eval (.Call (.Attribute (.Name x p1) "__init__" p2) (e :: es) [] pos) X.env = (do
      let ov ← eval (.Name x p1) X.env
      standAt p2.atName
      let (f, first) ← holding [ov] (getMethod ov "__init__" pl)
      callWith pos f first (backTo pos (starEach (e :: es) X.env)) (backToKw pos (keywordEach [] X.env))) := by rfl)
    (he : starEach (e :: es) X.env = (false, eval e X.env) :: starEach es X.env := by rfl) (hpl : (backTo pos (starEach es X.env)).any (·.1) = false := by rfl) :
    PE X (.Call (.Attribute (.Name x p1) "__init__" p2) (e :: es) [] pos) (tBI X.K nI tl ta) := by
  refine ⟨fun pins s σ H Q I h => ?_⟩
  refine PySem.W.methodCall_KW (ld_blt I hg hm F.boot ?_ F.nn F.nd) hc
  obtain ⟨m, fr⟩ := I.fr
  refine PySem.W.method_type fr I.ok.mod.kin F.ty F.stub (F.fi _) F.hi ?_
  show wpAny _ _ (callWith pos (Value.builtin iI) [] (backTo pos (starEach (e :: es) X.env)) []) _ _ _
  refine PyProof.Rows.callWith_method1 (thn (ha.run pos pins _ σ H _ (I.tok _) h) fun us s1 ⟨vs, H1, I1, r1, a, C, ws, ev, hl, T, ea, q⟩ => ?_) he hpl
  subst ev
  cases r1 with
  | @cons _ u0 _ ur ra rw' =>
    obtain rfl : u0 = Value.ref a := ra
    exact base_init F T I1 ea (by rw [← Paired.length rw', sizeLine_eq]; omega) fun s' J => ⟨.non, H1, J, rfl, q⟩
theorem ps_fld (F : Bs x B nI iI tl) (ho : PE X o to) (he : PE X e te) (hs : swapsWith e (some (.Attribute o f p')) pos.line X.env = pure false := by rfl) : PS X (.Assign [.Attribute o f p'] e pos) (tFld X.K nI tl f to te) := by
  refine ⟨fun pins s σ H D I h => ?_⟩
  refine plainObj_wpAny_Assign_Attribute (thn (he.run pins s σ H _ I h) fun v s1 ⟨y, H1, I1, r1, q1⟩ => thn (ho.run pins s1 σ H1 _ I1 q1) fun u s2 ⟨x, H2, I2, r2, a, C, ex, T, hno, q⟩ => ?_) hs
  subst ex
  obtain rfl : u = Value.ref a := r2
  rcases q with ⟨ea, q⟩ | ⟨dx, fs, ea, ed, hl, q⟩
  · exact field_first F.store T I2 ea hno r1 fun dx s' n ne J => ⟨σ, _, J, q dx n ne⟩
  · exact field_more F.store T I2 ea ed hl hno r1 fun s' J => ⟨σ, _, J, q⟩
/-- C(e, ..), C's own __init__ keeping sp -/
theorem pmk_own {CX : CXT} {C fI : Addr} {k j : Nat} {fd : FuncData} {ps : List Str} {sp : Sp} {xB : Str} (F : Bs xB B nI iI tl) (T : Own X.K C nI tl) (iC : PySem.W.findIn X.K (.ref C) "__init__" = some (some (.ref fI))) (tI : PySem.W.typeIn X.K (.ref fI) = some (.type "function"))
    (F1 : FnOk X.prog X.w X.K X.mg X.base CX k fI fd ps sp) (hr : Room j X.A) (hk : k + 1 ≤ j) (hb : Binds X.K fd ps []) (hx : Passes CX X (fun _ _ _ => False)) (hg : Gl X x) (hm : X.mg x = some (.ref C)) (ha : PA X (e :: es) ta)
    (hdb : (x == ("__debug__" : Str)) = false := by decide) (he : starEach (e :: es) X.env = (false, eval e X.env) :: starEach es X.env := by rfl) (hpl : (backTo pos (starEach es X.env)).any (·.1) = false := by rfl) :
    PMk X (.Call (.Name x p) (e :: es) [] pos) (tMkO C sp [] ta) := by
  intro pins s σ H Q I h
  refine wpAny_Call_Name_kw (ld_glob I hg hm ?_ hdb)
  refine PySem.W.callWith_K (h₀ := X.base) I.ok.mod.kin T.kp (thn (ha.run pos pins s σ H _ I h) fun us s1 ⟨vs, H1, I1, r1, hz, q1⟩ => ⟨I1.kIn, ?_⟩) he hpl
  show wpAny _ _ (call (.ref C) us) _ _ _
  obtain ⟨nm, N, q, bs, bm, hd, sn, sub, ab, col, dd, k0, k1, k2, k3, k5, hC, hT⟩ := PySem.W.excInit_of I1.kIn T.inn
  obtain ⟨hp, g, dr, tk, os⟩ := s1
  have hsz : hp.objs.size ≤ hp.objs.size + 1 := Nat.le_succ _
  have hq := q1 (hp.objs.size + 1) (I1.hok.fresh hsz)
  rw [List.append_nil] at hq
  have kk : ∀ b o, hp.get? b = some o → ((hp.push (PySem.W.kdv_tup us)).push (PySem.HandSPX.excO C hp.objs.size)).get? b = some o := fun b o e => Heap.get?_push_of_some _ (Heap.get?_push_of_some _ e)
  have hget : ((hp.push (PySem.W.kdv_tup us)).push (PySem.HandSPX.excO C hp.objs.size)).get? (hp.objs.size + 1) = some (PySem.HandSPX.excO C hp.objs.size) := by heap_get
  have I2 := I1.laid (t' := tk) (a := hp.objs.size + 1) (o := exo (hp.objs.size + 1) C none) kk hsz (exo_ok hget)
  have r2 : Vals (V.ref (hp.objs.size + 1) :: vs) (Value.ref (hp.objs.size + 1) :: us) := .cons rfl r1
  have hl : (Value.ref (hp.objs.size + 1) :: us).length = ps.length := r2.length.symm.trans (F1.len _ _ _ _ hq)
  have hus : us.length ≤ sizeLine := by rw [← Paired.length r1, sizeLine_eq]; omega
  have bd := hb ⟨(hp.push (PySem.W.kdv_tup us)).push (PySem.HandSPX.excO C hp.objs.size), g, dr, tk, os⟩ (Value.ref (hp.objs.size + 1) :: us) I2.kIn (by rw [List.append_nil]; exact hl)
  rw [List.append_nil] at bd
  obtain ⟨N, iN, tN, FN, hN⟩ := F.new
  refine wpAny_call (run_cls FN ((hT _).trans hN) ((hT _).trans F.noA) ((hT _).trans F.noN) hC (PySem.W.looks_findIn I1.kIn iC) (fun self => PySem.W.bind_fn I1.kIn self tI) hus
    (codeAny_mono (F1.run _ X.stack _ _ ⟨Value.ref (hp.objs.size + 1) :: us, []⟩ _ _ _ (fun _ _ _ => False) ((hr.mono hk).make C us []) (I2.env0.make C us []) bd r2 hq) fun r s' hq' => ?_))
  cases r with
  | error er => exact hx pins σ _ _ er s' I2 hq'
  | ok fl =>
    cases fl with
    | ret u =>
      obtain ⟨v, H2, os2, bare2, un2, hok2, rv, ev, d, fs, ea, ed, hd1, q2⟩ := hq'
      subst ev
      obtain ⟨h2, g2, d2, t2, os'⟩ := s'
      exact ⟨rv, mk_end (raises_own T.sub T.ty) I1 hsz kk un2 hok2 os2 bare2 ea ed hd1 q2⟩
    | next => exact False.elim hq'
    | brk => exact False.elim hq'
    | cont => exact False.elim hq'
end
/-- where __new__ and __init__ are both of B's own -/
theorem bs_of {x : Str} {B nI iI : String} {tl : List Value} (F : ExcBaseFacts B nI iI tl) (S : StoreFacts B tl "object.__setattr__" "object") (ty : typeOf (.type B) = pure (.type "type")) (st : Manifest.isStub B = false) (bo : bootBuiltins x = some (.type B))
    (fi : ∀ K, PySem.W.findCls K (.type B) (.type "type") "__init__" = some (.val (.builtin iI))) (hi : PySem.W.handedIn (.builtin iI) = true) (nn : x ≠ "__name__") (nd : (x == ("__debug__" : Str)) = false) : Bs x B nI iI tl :=
  ⟨⟨B, iI, tl, F, F.hasB⟩, F.noAttr, F.noName, F.hasB, F.init, F.initEntry, F.initSplit, F.initKind, F.initRow, F.noStar, S, ty, st, bo, fi, hi, nn, nd⟩
theorem bs_ValueError : Bs "ValueError" "ValueError" "ValueError.__new__" "ValueError.__init__" [.type "ValueError", .type "Exception", .type "BaseException", .type "object"] :=
  bs_of PySem.F.excBase_ValueError PySem.F.store_ValueError (by kernel_rfl) (by decide +kernel) (by decide +kernel) (fun K => by kernel_rfl) (by decide +kernel) (by decide) (by decide)
end Fw
namespace Fw
open PySem PySem.Spec PyProof.Rows L2
/-! ### a caught exception that is kept -/
/-- a caught exception of the class cls at a, its dict at d -/
def exk (a : Addr) (cls : Value) (d : Option Addr) : HO := .ext fun h => ∃ (oe : Obj) (vs : Array Value), h.get? a = some oe ∧ Zc cls d oe ∧ oe.data = .fields vs
theorem exk_ok {P : Program} {w : World} {H : Hp} {h : Heap} {a : Addr} {cls : Value} {d : Option Addr} {oe : Obj} {vs : Array Value} (e : h.get? a = some oe) (z : Zc cls d oe) (f : oe.data = .fields vs) : ObjOk P w H h a (exk a cls d) :=
  ⟨⟨oe, vs, e, z, f⟩, ⟨oe, e⟩, fun _ _ ⟨o, v, q, r⟩ k => ⟨o, v, k o q, r⟩⟩
theorem exk_at {P : Program} {w : World} {H : Hp} {h : Heap} {a : Addr} {cls : Value} {d : Option Addr} (hok : HOk P w H h) (e : H a = some (exk a cls d)) : ∃ (oe : Obj) (vs : Array Value), h.get? a = some oe ∧ Zc cls d oe ∧ oe.data = .fields vs := by
  have x : ObjOk P w H h a (.ext fun h => ∃ (oe : Obj) (vs : Array Value), h.get? a = some oe ∧ Zc cls d oe ∧ oe.data = .fields vs) := hok a _ e
  exact x.1
section
variable {X : Cx} {pins : List (Addr × Obj)} {σ : L2.St} {H : Hp} {s : Shared}
/-- an object that wasn't there at the entry and isn't one of the frame's may be looked after from here on -/
theorem inv_track {a : Addr} {o : HO} (I : Inv X pins σ H s) (ha : H a = none) (ok : ObjOk X.prog X.w (upd H a o) s.heap a o) (n0 : X.s_0.heap.get? a = none) (nL : X.env.locals ≠ a) (nC : ∀ x c, X.env.cells.lookup x = some c → c ≠ a)
    (nP : ∀ p ∈ X.pn ++ pins, p.1 ≠ a) : Inv X pins σ (upd H a o) s := by
  have ne0 : ∀ {b : Addr} {u : Obj}, X.s_0.heap.get? b = some u → b ≠ a := fun {b u} e z => nomatch (z ▸ e : X.s_0.heap.get? a = some u).symm.trans n0
  have same : ∀ {b : Addr} {u : HO}, H b = some u → upd H a o b = some u := fun {b u} e => (upd_ne (ne_of_none e ha)).trans e
  refine ⟨I.ok, I.os, I.bare, ⟨I.base.keep, I.base.slot, fun b u e n x => (upd_ne (ne0 e)).trans (I.base.free b u e n x), I.base.there, fun b xs e => same (I.base.tups b xs e), fun b u v e => same (I.base.frzs b u v e), fun b ps e => ?_⟩,
    I.loc, I.cell, (upd_ne nL).trans I.free, fun x c e => (upd_ne (nC x c e)).trans (I.freeC x c e), fun p hp => ?_, fun b u e => ?_, I.len⟩
  · obtain ⟨m, q⟩ := I.base.tbls b ps e
    exact ⟨m, same q⟩
  · obtain ⟨h1, h2, h3⟩ := I.pin p hp
    exact ⟨h1, (upd_ne (nP p hp)).trans h2, h3⟩
  · by_cases hb : b = a
    · subst hb
      rw [upd_same] at e
      cases e
      exact ok
    · rw [upd_ne hb] at e
      exact (I.hok b u e).stay (fun _ _ _ q => q) (fun c q => same q) fun c xs q => same q
theorem inv_suite0 (I : Inv X pins σ H s) (a : Addr) : Inv (X.suite a (X.pn ++ pins)) [] σ H s :=
  ⟨I.ok.suite _ _, I.os, I.bare, I.base, I.loc, I.cell, I.free, I.freeC, fun p hp => I.pin p (by rw [List.append_nil] at hp; exact hp), I.hok, I.len⟩
theorem inv_unsuite0 {a : Addr} {pn' : List (Addr × Obj)} (I : Inv (X.suite a (X.pn ++ pins)) pn' σ H s) (ok : X.Ok) : Inv X pins σ H s :=
  ⟨ok, I.os, I.bare, I.base, I.loc, I.cell, I.free, I.freeC, fun p hp => I.pin p (List.mem_append_left _ hp), I.hok, I.len⟩
end
/-- what 'except x as n' wishes, the exception looked after from there on -/
def wKeep (K : PySem.W.Frag) (c : Value) (i : Nat) (ts : Addr → TS) (Wout : WX) (D : Ends) : WX := fun cls d σ H =>
  ∃ b, PySem.W.exmOne K cls c = some b ∧ (b = true → ∀ a, H a = none → ts a { nx := fun σ' H' => D.nx (σ'.set i none) H', rt := D.rt, bk := fun σ' H' => D.bk (σ'.set i none) H', ct := fun σ' H' => D.ct (σ'.set i none) H' } (σ.set i (some (.ref a))) (upd H a (exk a cls d))) ∧
    (b = false → Wout cls d σ H)
section
variable {X : Cx} {x n : Str} {c : Value} {i : Nat} {body suite : List Stmt} {b₀ : Stmt} {np pos pos' : Pos} {tb : WX → TS} {ts : Addr → TS} {Wout : WX}
theorem ps_try_keep {K : PySem.W.Frag} (hK : X.K = K) (hs : X.stack = X.env :: X.outer) (hf : X.env.frame = some X.env.locals) (hex : X.ex = []) (hN : X.N.Nodup) (hi : X.N[i]? = some n) (hln : X.env.kindOf n = some .local) (hc : Names X x c) (tk : Takes X Wout)
    (hb : ∀ (W : WX) (pn : List (Addr × Obj)) (xe : Value → Shared → Prop), Takes (X.tr pn xe) W → PassesOwn (model X.prog X.w) X.A X.env xe → PSs (X.tr pn xe) body (tb W))
    (hsu : ∀ (a : Addr) (pn : List (Addr × Obj)), PSs (X.suite a pn) (b₀ :: suite) (ts a)) :
    PS X (.Try body [.ExceptHandler (some (.Name x np)) (some n) (b₀ :: suite) pos'] [] [] pos) (fun D σ H => tb (wKeep K c i ts Wout D) D σ H) := by
  subst hK
  refine ⟨fun pins s σ H D I h => ?_⟩
  have ok := I.ok
  have hfr : X.A.frames = some (X.env :: X.outer) := ok.frames.trans (congrArg some hs)
  refine wpAny_Try_except (wpAny_mono ((hb (wKeep X.K c i ts Wout D) (X.pn ++ pins) (fun e s₁ => wpAny (model X.prog X.w) X.A (noteFrame e X.env) (fun _ s₂ => wpAny (model X.prog X.w) X.A (setFlight e none) (fun _ s₃ =>
    wpAny (model X.prog X.w) X.A (handleBy e X.env [.ExceptHandler (some (.Name x np)) (some n) (b₀ :: suite) pos']) (SP X pins D) X.xe s₃) X.xe s₂) X.xe s₁) (fun u s' xx => ?caught) PassesOwn.looking).run [] s σ H D (I.toTry _) h) (fun f s1 hsp => ?thru) (fun e s1 he => he))
  case thru =>
    cases f with
    | next =>
      obtain ⟨σ', H', J', q⟩ := hsp
      exact wpAny_execs_nil ⟨σ', H', J'.ofTry ok, q⟩
    | brk =>
      obtain ⟨σ', H', J', q⟩ := hsp
      exact ⟨σ', H', J'.ofTry ok, q⟩
    | cont =>
      obtain ⟨σ', H', J', q⟩ := hsp
      exact ⟨σ', H', J'.ofTry ok, q⟩
    | ret u =>
      obtain ⟨v, σ', H', J', r, q⟩ := hsp
      exact ⟨v, σ', H', J'.ofTry ok, r, q⟩
  case caught =>
    obtain ⟨a, B, sI, pins', σ', H', cls, d, rfl, J', nb, up, sky, na, os, ag, b, hb1, hyes, hno⟩ := xx
    have J : Inv X pins σ' H' sI := J'.ofTry ok
    rw [show (X.tr (X.pn ++ pins) _).stack = X.env :: X.outer from hs] at sky
    show wpAny (model X.prog X.w) X.A (noteFrame (.ref a) X.env) _ _ _
    refine Sky.land Zc.steady hfr hf sky fun h3 fl3 up3 => ?_
    have J3 : Inv X pins σ' H' { s' with heap := h3 } := J.landed nb fl3.1 (up.trans up3) os ag
    obtain ⟨oe3, vs3, he3, hz3, hd3⟩ := fl3.there
    have nfr : a ∉ frs X.stack := fun hm => by
      rw [hs] at hm
      obtain ⟨_, o', e', hnf⟩ := fl3.2.2.1.mem hm
      rw [he3] at e'
      cases e'
      exact hnf _ hd3
    have gone : sI.heap.get? a = none := by
      cases e : sI.heap.get? a with
      | none => rfl
      | some o => exact nomatch (nb a o e nfr).symm.trans fl3.2.1
    have lives : ∀ {b : Addr} {o : Obj}, sI.heap.get? b = some o → b ≠ a := fun {b o} e z => nomatch (z ▸ e : sI.heap.get? a = some o).symm.trans gone
    have n0 : X.s_0.heap.get? a = none := by
      cases e : X.s_0.heap.get? a with
      | none => rfl
      | some o =>
        obtain ⟨o', q⟩ := J.base.there a o e (by rw [hex]; exact fun z => nomatch z)
        exact absurd rfl (lives q)
    have nL : X.env.locals ≠ a := by
      obtain ⟨m, ⟨o, es, ep, q, _⟩, _⟩ := J.loc
      exact lives q
    have nC : ∀ x c, X.env.cells.lookup x = some c → c ≠ a := fun x c e => by
      obtain ⟨v, o, q, _⟩ := J.cell x c e
      exact lives q
    have nP : ∀ p ∈ X.pn ++ pins, p.1 ≠ a := fun p hp => lives (J.pin p hp).1
    have S3 := inv_suite0 J3 a
    refine wpAny_handleBy_cons (codeAny_handlers_test ?_) (by intro q; cases q)
    have LT : PySem.W.Looks (model X.prog X.w) h3 (typeOf (.ref a)) cls := fun A Q E s k q => wpAny_typeOf_ref (k _ _ he3) (by rw [hz3.1]; exact q)
    have LM := PySem.W.exm_one (M := model X.prog X.w) J3.kIn LT hb1
    have test : ∀ {Q : Value → Shared → Prop} {E : Value → Shared → Prop}, Q c { s' with heap := h3 } → wpAny (model X.prog X.w) (X.A.mark (some (.ref a))) (eval (.Name x np) X.env) Q E { s' with heap := h3 } := fun {Q E} q => by
      obtain ⟨hg, hdbg, hm | ⟨hm, hv, hnn⟩⟩ := hc
      · exact ld_glob (X := X.suite a (X.pn ++ pins)) S3 hg hm q hdbg
      · exact ld_blt (X := X.suite a (X.pn ++ pins)) S3 hg hm hv q hnn hdbg
    refine test (LM.here ?_)
    cases b with
    | false =>
      show wpAny _ X.A (handleBy (.ref a) X.env []) _ _ _
      refine wpAny_handleBy_nil ?_
      obtain ⟨_, _, _, oe, vs, T, oT, ts', he, hz, hd, h1, hr⟩ := id fl3
      unfold PySem.passOn
      refine wpAny_bind (wpAny_field he hd h1 ?_)
      rw [if_neg (show ¬ ((Value.ref T == Value.none) = true) from by simp)]
      have fin : wpAny (model X.prog X.w) X.A (setFlight (.ref a) X.env.frame) (fun _ s4 => wpAny (model X.prog X.w) X.A (throw (.ref a) : Sem Flow) (SP X pins D) X.xe s4) X.xe { s' with heap := h3 } := by
        rw [hf]
        refine HandSPX.setFlight_upZ fl3 fun h4 hh4 up4 => wpAny_throw (tk _ _ ?_)
        exact ⟨a, B, sI, pins, σ', H', cls, d, rfl, J, nb, (up.trans up3).trans up4, .inr (.inr (by rw [hs]; exact hh4)), na, os, ag, hno rfl⟩
      first
        | exact wpAny_bind (wpAny_pure (wpAny_bind fin))
        | exact wpAny_bind fin
    | true =>
      refine codeAny_handlers_suite_as (HandSPX.lands_againZ fl3 fun h4 fl4 up4 => ?_)
      obtain ⟨oe4, vs4, he4, hz4, hd4⟩ := fl4.there
      have J4 : Inv X pins σ' H' { s' with heap := h4 } := J.landed nb fl4.1 ((up.trans up3).trans up4) os ag
      have S4 := inv_suite0 (inv_track J4 na (exk_ok (H := upd H' a (exk a cls d)) he4 hz4 hd4) n0 nL nC nP) a
      refine store_ok (X := X.suite a (X.pn ++ pins)) (v := .ref a) S4 hN hi (.inl hln) rfl (fun s5 S5 => ?_) (.inr hln)
      refine wpAny_mono ((hsu a (X.pn ++ pins)).run [] s5 _ _ _ S5 (hyes rfl a na)) (fun f s6 hsp => ?_) (fun _ _ z => False.elim z)
      have fin : ∀ {σ6 : L2.St} {H6 : Hp} {Q : Shared → Prop}, Inv (X.suite a (X.pn ++ pins)) [] σ6 H6 s6 → (∀ s7, Inv X pins (σ6.set i none) H6 s7 → Q s7) →
          wpAny (model X.prog X.w) X.A (do bindName X.env n .none; unbindBehindTheSuite X.env n pos') (fun _ s7 => Q s7) X.xe s6 := fun {σ6 H6 Q} S6 hq => gone_ok (inv_unsuite0 S6 ok) hN hi hln hq
      cases f with
      | next =>
        obtain ⟨σ6, H6, S6, q6⟩ := hsp
        exact fin S6 fun s7 J7 => ⟨_, _, J7, q6⟩
      | brk =>
        obtain ⟨σ6, H6, S6, q6⟩ := hsp
        exact fin S6 fun s7 J7 => ⟨_, _, J7, q6⟩
      | cont =>
        obtain ⟨σ6, H6, S6, q6⟩ := hsp
        exact fin S6 fun s7 J7 => ⟨_, _, J7, q6⟩
      | ret u =>
        obtain ⟨v6, σ6, H6, S6, r6, q6⟩ := hsp
        exact fin S6 fun s7 J7 => ⟨_, _, _, J7, r6, q6⟩
end
/-! ### its fields -/
def tFldOf (K : PySem.W.Frag) (f : Str) (te : TE) : TE := fun σ H Q => te σ H fun x H1 => ∃ (a C dd : Addr) (nI : String) (tl : List Value) (fs : List (Str × V)) (v : V), x = .ref a ∧ H1 a = some (exk a (.ref C) (some dd)) ∧ H1 dd = some (.xd fs) ∧ Own K C nI tl ∧
  PySem.W.findIn K (.ref C) f = some none ∧ fs.lookup f = some v ∧ Q v H1
theorem pe_fldOf {X : Cx} {K : PySem.W.Frag} {e : Expr} {te : TE} {pos : Pos} {n : Str} (he : PE X e te) (hK : X.K = K := by rfl) (hb : attributeBase e n X.env (eval e X.env) = eval e X.env := by rfl) : PE X (.Attribute e n pos) (tFldOf K n te) := by
  subst hK
  refine ⟨fun pins s σ H Q I h => ?_⟩
  refine attr_of hb (thn (he.run pins s σ H _ I h) fun u s1 hh => ?_)
  obtain ⟨x, H1, I1, rx, a, C, dd, nI, tl, fs, v, rfl, ea, ed, T, hno, l, q⟩ := hh
  obtain rfl : u = Value.ref a := rx
  obtain ⟨oe, vs, ha, hz, hd⟩ := exk_at I1.hok ea
  have hx : ObjOk X.prog X.w H1 s1.heap dd (.xd fs) := I1.hok dd _ ed
  obtain ⟨mA, hns, hr⟩ := hx
  obtain ⟨od, ho, hl⟩ := lookIn_ns hns
  obtain ⟨u, hu, ru⟩ := RelO.some_of (v := v) (o := mA n) (by rw [← l]; exact hr n)
  have J : PySem.W.InstAt s1.heap a oe C (some od) := ⟨ha, hz.1, by unfold PySem.W.notCls; rw [hd] <;> rfl, by rw [hz.2]; exact ho⟩
  exact HandSPX.exc_get I1.kIn J T.ga T.gg T.sub (PySem.W.findObj_own T.hd hno rfl (by rw [hl, hu])) (handed_of ru) ⟨v, H1, I1.tok _, ru, q⟩
end Fw
namespace Fw
open PySem PySem.Spec PyProof.Rows L2
section
open PySem.W
variable {prog : Program} {w : World} {A : Around} {E : Value → Shared → Prop} {s : Shared} {K : PySem.W.Frag} {x D : Addr} {ox : Obj} {od : Option Obj} {nI : String} {tl : List Value}
/-- x.__class__, x an exception of an own class, with or without a dict -/
theorem cls_exc {Q : Option Value → Shared → Prop} (T : Own K D nI tl) (X : K.In s.heap) (I : PySem.W.InstAt s.heap x ox D od) (h : Q (some (.ref D)) { s with toks := s.toks + 1 }) : wpAny (model prog w) A (getAttr? (.ref x) "__class__") Q E s := by
  have hf : findObj K D od "__class__" = some (.bind (.builtin "getset_descriptor.__get__") (.builtin "object.__class__")) := by
    obtain ⟨cd, hc, _⟩ := any_some T.hd
    unfold findObj
    rw [hc, Option.bind_some, T.cl, Option.bind_some]
    simp [T.cg, T.ct]
  obtain ⟨hp, g, d, t, os⟩ := s
  have ty := I.type (M := model prog w)
  have own := looks_findIn (M := model prog w) X T.ga
  have hook := looks_findIn (M := model prog w) X T.gg
  have fnd := looks_find (M := model prog w) X I hf
  have sub : Looks (model prog w) hp (isInstance (.ref x) (.type "BaseException")) true := ty.andThen (looks_subIn X T.sub)
  have n2 : (Value.builtin "BaseException.__getattribute__" == Value.builtin "object.__getattribute__") = false := by decide +kernel
  have n1 : (onTheHeap (Value.ref D) && Value.builtin "BaseException.__getattribute__" == Value.builtin "object.__getattribute__") = false := by rw [n2]; rfl
  unfold getAttr? getAttrBy? getAttrBy
  refine wpAny_bind (wpAny_mkText (wpAny_bind (wpAny_attempt (wpAny_holding (wpAny_bind (ty.at (wpAny_bind (own.at ?_))))))))
  show wpAny _ _ (if (onTheHeap (Value.ref D) && Value.builtin "BaseException.__getattribute__" == Value.builtin "object.__getattribute__") = true then _ else _) _ _ _
  rw [n1, if_neg Bool.false_ne_true]
  unfold getAttrByItsOwn hookBefore
  refine wpAny_bind ?_
  rw [if_pos (show onTheHeap (Value.ref D) = true from rfl)]
  refine hook.at (wpAny_bind (wpAny_attempt (wpAny_holding ?_)))
  unfold callGetattribute
  rw [if_neg (show ¬ ((false && onTheHeap (Value.builtin "BaseException.__getattribute__")) = true) from by decide +kernel)]
  unfold boundAndCalled
  rw [PySem.F.excAttr_ValueError.ga.bind (.ref x)]
  refine wpAny_bind (wpAny_pure ?_)
  show wpAny _ _ (call (.builtin "BaseException.__getattribute__") [.ref x, .str "__class__" t]) _ _ _
  refine wpAny_call (codeAny_call_builtin PySem.F.excAttr_ValueError.ga.plain PySem.F.entry_bexc_ga ?_)
  refine @check_slot (model prog w) _ _ ⟨hp, g, d, t + 1, os⟩ "BaseException.__getattribute__" "BaseException" "__getattribute__" (.ref x) [.str "__class__" t] [] _ (by decide +kernel) (by decide +kernel) sub (PySem.F.args_bexc_ga (.ref x) (.str "__class__" t)) ?_
  unfold Builtin.«object.__getattribute__»
  refine wpAny_bind (wpAny_of_eq (a := ((Value.ref x : Value), [Value.str "__class__" t])) (by first | rfl | (simp only [slotArgs]; rfl)) ?_)
  refine wpAny_bind (wpAny_pure (wpAny_bind (ty.at (wpAny_bind (fnd.at ?_)))))
  show wpAny _ _ (holding [Value.builtin "object.__class__"] (call (.builtin "getset_descriptor.__get__") [.builtin "object.__class__", .ref x, .ref D]) >>= ret) _ _ _
  refine wpAny_bind (wpAny_holding (wpAny_call (class_get (s := ⟨hp, g, d, t + 1, os⟩) (ox := ox) (od := od) X I T.mo ?_)))
  refine wpAny_pure ?_
  show wpAny _ _ (handedOut (.ref D)) _ _ _
  rw [handedOut_of (v := .ref D) rfl]
  first
    | exact wpAny_pure (wpAny_pure h)
    | exact wpAny_pure h
    | exact wpAny_pure (wpAny_bind (wpAny_pure (wpAny_pure h)))
theorem kit_exc (T : Own K D nI tl) : KitX K (.ref x) (.ref D) (fun h => PySem.W.InstAt h x ox D od) := by
  obtain ⟨cd, hc, _⟩ := any_some T.hd
  have at' : ∀ {h : Heap}, K.In h → ∃ (c : Value) (d' : Option Addr) (cd' : ClassData) (sl : Array (Option Value)), h.get? D = some ⟨c, d', .cls cd', sl⟩ := fun {h} X => by
    unfold clsIn at hc
    split at hc
    · rename_i c' d' cd' sl' ho
      exact ⟨_, _, _, _, X _ _ ho⟩
    · cases hc
  refine ⟨fun _ _ _ I => I.type, fun _ h X _ => ?_, fun h tp dd its n sl X htp => ?_, fun X I k => cls_exc T X I k⟩
  · obtain ⟨c', d', cd', sl', ho⟩ := at' X
    intro A' Q' E' s' k q
    unfold isType loadHead
    exact wpAny_bind (wpAny_loadPart (k _ _ ho) (wpAny_pure q))
  · obtain ⟨c', d', cd', sl', ho⟩ := at' X
    refine Bool.eq_false_iff.mpr fun q => ?_
    have e : D = tp := Value.ref.inj (beq_iff_eq.mp q)
    subst e
    exact nomatch ho.symm.trans htp
end
/-- isinstance(e, c), isinstance(e, (c1, ..)), e a kept exception -/
def uIsX (K : PySem.W.Frag) : List V → Hp → VK → Prop := fun xs H Q => ∃ (a C dd : Addr) (nI : String) (tl : List Value) (fs : List (Str × V)) (b : Bool), H a = some (exk a (.ref C) (some dd)) ∧ H dd = some (.xd fs) ∧ Own K C nI tl ∧ Q (.bl b) H ∧
  ((∃ (c : V) (u : Value), xs = [.ref a, c] ∧ ClsV c u ∧ PySem.W.kitOne K (.ref C) u = some b) ∨ ∃ (tp : Addr) (cs : List V) (us : List Value), xs = [.ref a, .ref tp] ∧ H tp = some (.tup cs) ∧ Paired ClsV cs us ∧ PySem.W.kitAny K (.ref C) us = some b)
theorem call_isX {X : Cx} {K : PySem.W.Frag} (hK : X.K = K := by rfl) : CallR X (.builtin "isinstance") (uIsX K) := by
  subst hK
  intro pins s σ H xs us Q I r h
  obtain ⟨a, C, dd, nI, tl, fs, b, ea, ed, T, q, h⟩ := h
  obtain ⟨oe, vs, ha, hz, hd⟩ := exk_at I.hok ea
  have hx : ObjOk X.prog X.w H s.heap dd (.xd fs) := I.hok dd _ ed
  obtain ⟨mA, hns, hr⟩ := hx
  obtain ⟨od, ho, hl⟩ := lookIn_ns hns
  have J : PySem.W.InstAt s.heap a oe C (some od) := ⟨ha, hz.1, by unfold PySem.W.notCls; rw [hd] <;> rfl, by rw [hz.2]; exact ho⟩
  rcases h with ⟨c, u, rfl, k, e⟩ | ⟨tp, cs, ws, rfl, hT, k, e⟩
  · obtain ⟨u1, u2, rfl, r1, r2⟩ := vals2 r
    obtain rfl : u1 = Value.ref a := r1
    have e2 := k.eq r2
    subst e2
    exact PySem.W.kia_one (kit_exc T) I.kIn J e (fun z => nomatch z) fun tk => ⟨.bl b, H, I.tok tk, rfl, q⟩
  · obtain ⟨u1, u2, rfl, r1, r2⟩ := vals2 r
    obtain rfl : u1 = Value.ref a := r1
    cases (show u2 = Value.ref tp from r2)
    obtain ⟨_, its, rv, o, h1, h2, n, h3⟩ := (show ObjOk X.prog X.w H s.heap tp (.tup cs) from I.hok tp _ hT)
    have e3 := ClsV.all k rv
    subst e3
    obtain ⟨oc, od', dt, sl⟩ := o
    simp only at h2 h3
    subst h2 h3
    exact PySem.W.kia_tup (kit_exc T) I.kIn J h1 e (fun z => nomatch z) fun tk => ⟨.bl b, H, I.tok tk, rfl, q⟩
theorem x_isX1 {K : PySem.W.Frag} {H : Hp} {Q : VK} {a C dd : Addr} {nI : String} {tl : List Value} {fs : List (Str × V)} {b : Bool} {n : String} (T : Own K C nI tl) (ea : H a = some (exk a (.ref C) (some dd))) (ed : H dd = some (.xd fs))
    (e : PySem.W.kitOne K (.ref C) (.type n) = some b) (q : Q (.bl b) H) : uIsX K [.ref a, .ty n] H Q := ⟨a, C, dd, nI, tl, fs, b, ea, ed, T, q, .inl ⟨_, _, rfl, .ty n, e⟩⟩
theorem x_isXT {K : PySem.W.Frag} {H : Hp} {Q : VK} {a C dd tp : Addr} {nI : String} {tl : List Value} {fs : List (Str × V)} {b : Bool} {cs : List V} {us : List Value} (T : Own K C nI tl) (ea : H a = some (exk a (.ref C) (some dd))) (ed : H dd = some (.xd fs))
    (hT : H tp = some (.tup cs)) (k : Paired ClsV cs us) (e : PySem.W.kitAny K (.ref C) us = some b) (q : Q (.bl b) H) : uIsX K [.ref a, .ref tp] H Q := ⟨a, C, dd, nI, tl, fs, b, ea, ed, T, q, .inr ⟨tp, cs, us, rfl, hT, k, e⟩⟩
/-! ### calls that may raise, at the slots -/
def tCallNS (n m : Nat) (sp : Sp) (gV : List V → List V → List V) (W : WX) (t tk : TA) : TE := fun σ H Q => t σ H fun vs H1 => tk σ H1 fun zs H2 => vs.length = n ∧ zs.length = m ∧ sp (gV vs zs) H2 Q (WE W σ)
section
variable {X : Cx} {k j n : Nat} {ks ps : List Str} {gV : List V → List V → List V} {sp : Sp} {W : WX} {x : Str} {p pos : Pos} {e : Expr} {es : List Expr} {kws : List Keyword} {t tk : TA}
theorem pe_fnNS (tks : Takes X W) (F : FnN X.prog X.w X.K X.mg X.base (L2.CX X.prog X.w) k x n ks gV sp) (hr : Room j X.A) (hk : k ≤ j) (hg : Gl X x) (ha : PA X (e :: es) t) (hkw : PK X kws tk) (hall : (backToKw pos (keywordEach kws X.env)).all (·.1.isSome) = true := by rfl) (hks : (backToKw pos (keywordEach kws X.env)).filterMap (·.1) = ks := by rfl)
    (hdb : (x == ("__debug__" : Str)) = false := by decide) (he : starEach (e :: es) X.env = (false, eval e X.env) :: starEach es X.env := by rfl)
    (hpl : ((backTo pos (starEach (e :: es) X.env)).any (·.1) || (backToKw pos (keywordEach kws X.env)).any (·.1.isNone)) = false := by rfl) :
    PE X (.Call (.Name x p) (e :: es) kws pos) (tCallNS n ks.length sp gV W t tk) := by
  obtain ⟨f, fd, ps, g, hm, hkp, hb, F⟩ := F.ex
  refine ⟨fun pins s σ H Q I h => wpAny_Call_Name_kw (ld_glob I hg hm ?_ hdb)⟩
  refine PySem.W.callWith_KW (h₀ := X.base) I.ok.mod.kin hkp hall (thn (ha.run pos pins s σ H _ I h) fun us s1 ⟨vs, H1, I1, r, q⟩ => ?_) hpl he
  refine thn (hkw.run pos pins s1 σ H1 _ I1 q) fun ws s2 ⟨zs, H2, I2, rz, l1, l2, q2⟩ => ⟨I2.kIn, ?_⟩
  rw [hks]
  refine wpAny_call (codeAny_mono (F.run X.A X.stack s2 H2 ⟨us, ks.zip ws⟩ (g us ws) (gV vs zs) Q (WE W σ) (hr.mono hk) I2.env0 (hb.to s2 us ws I2.kIn (r.length.symm.trans l1) (rz.length.symm.trans l2)) (hb.rel r rz) q2) fun r s' hq => ?_)
  cases r with
  | error er => exact passAt tks σ pins H2 s2 er s' I2 hq
  | ok fl =>
    cases fl with
    | ret u => exact I2.after hq
    | next => exact hq.elim
    | brk => exact hq.elim
    | cont => exact hq.elim
theorem pe_fnS (tks : Takes X W) (F : Fn X.prog X.w X.K X.mg X.base (L2.CX X.prog X.w) k x ps sp) (hr : Room j X.A) (hk : k ≤ j) (hg : Gl X x) (ha : PA X (e :: es) t) (hdb : (x == ("__debug__" : Str)) = false := by decide)
    (he : starEach (e :: es) X.env = (false, eval e X.env) :: starEach es X.env := by rfl) (hpl : (backTo pos (starEach es X.env)).any (·.1) = false := by rfl) : PE X (.Call (.Name x p) (e :: es) [] pos) (tCallS sp (WE W) t) := by
  obtain ⟨f, fd, hm, hkp, hb, F⟩ := F.ex
  exact pe_callS F (hr.mono hk) hg hm hkp hb (passAt tks) ha hdb he hpl
end
end Fw
namespace Fw
open PySem PySem.Spec PyProof.Rows L2
/-! ### defs that may raise -/
section
variable {P : Program} {w : World} {K : PySem.W.Frag} {mg : Str → Option Value} {base : Heap}
theorem okSX {x qual : Str} {st : Stmt} {f : Addr} {fd : FuncData} {N ps : List Str} {k : Nat} {sp : Sp} (F : Fun K x qual st f fd) (S : FnScope N ps (defScope st)) (len : ∀ vs H Q E, sp vs H Q E → vs.length = ps.length)
    (hbody : ∀ (cdv : Value) (A : Around) (outer : List Env) (s : Shared) (H : Hp) (vs : List V) (Q : VK) (E : XK), Room k (A.deeper (envOfC qual (defScope st) s.heap.objs.size f cdv)) → sp vs H Q E →
      ∃ t σ, PSs (cxOf (L2.CX P w) P w K mg base N qual (defScope st) f cdv A outer s H E) (defBody st) t ∧ L2.start N vs = σ ∧ t { nx := fun _ H' => Q .non H', rt := Q } σ H) : FnOk P w K mg base (L2.CX P w) (k + 1) f fd ps sp := by
  refine F.okX S len fun cdv A outer s H vs Q E hr h => ?_
  obtain ⟨t, σ, h1, rfl, h2⟩ := hbody cdv A outer s H vs Q E hr h
  exact ⟨t, h1, h2⟩
theorem okDX {x qual : Str} {st : Stmt} {dvs : List V} {kws : List (Str × V)} {f : Addr} {fd : FuncData} {N ps : List Str} {k : Nat} {sp : Sp} (F : FunD K x qual (defArgs st) (defBody st) (defScope st) dvs kws f fd) (S : FnScope N ps (defScope st)) (len : ∀ vs H Q E, sp vs H Q E → vs.length = ps.length)
    (hbody : ∀ (cdv : Value) (A : Around) (outer : List Env) (s : Shared) (H : Hp) (vs : List V) (Q : VK) (E : XK), Room k (A.deeper (envOfC qual (defScope st) s.heap.objs.size f cdv)) → sp vs H Q E →
      ∃ t σ, PSs (cxOf (L2.CX P w) P w K mg base N qual (defScope st) f cdv A outer s H E) (defBody st) t ∧ L2.start N vs = σ ∧ t { nx := fun _ H' => Q .non H', rt := Q } σ H) : FnOk P w K mg base (L2.CX P w) (k + 1) f fd ps sp := by
  refine F.ok S len fun cdv A outer s H vs Q E hr h => ?_
  obtain ⟨t, σ, h1, rfl, h2⟩ := hbody cdv A outer s H vs Q E hr h
  exact ⟨t, h1, h2⟩
end
/-- what leaves a def -/
theorem takesE {P : Program} {w : World} {K : PySem.W.Frag} {mg : Str → Option Value} {base : Heap} {N : List Str} {qual : Str} {sc : Scope} {f : Addr} {cdv : Value} {A : Around} {outer : List Env} {s : Shared} {H : Hp} {E : XK} :
    Takes (cxOf (L2.CX P w) P w K mg base N qual sc f cdv A outer s H E) (fun cls d _ H' => E cls d H') := takes_of rfl rfl rfl rfl
/-! ### steps -/
section
variable {σ : L2.St} {H : Hp} {Q : VK} {D : Ends} {t tk ta : TA} {to te : TE} {sp : Sp} {gV : List V → List V → List V} {W : WX} {n m : Nat} {K : PySem.W.Frag} {nI : String} {tl : List Value} {f : Str}
theorem x_callNS (q : t σ H fun vs H1 => tk σ H1 fun zs H2 => vs.length = n ∧ zs.length = m ∧ sp (gV vs zs) H2 Q (WE W σ)) : tCallNS n m sp gV W t tk σ H Q := q
theorem x_callS {E : L2.St → XK} (q : t σ H fun vs H1 => sp vs H1 Q (E σ)) : tCallS sp E t σ H Q := q
theorem x_fldOf (q : te σ H fun x H1 => ∃ (a C dd : Addr) (nI : String) (tl : List Value) (fs : List (Str × V)) (v : V), x = .ref a ∧ H1 a = some (exk a (.ref C) (some dd)) ∧ H1 dd = some (.xd fs) ∧ Own K C nI tl ∧
  PySem.W.findIn K (.ref C) f = some none ∧ fs.lookup f = some v ∧ Q v H1) : tFldOf K f te σ H Q := q
theorem x_fldE {x : V} {a C dd : Addr} {fs : List (Str × V)} {v : V} (T : Own K C nI tl) (ea : H a = some (exk a (.ref C) (some dd))) (ed : H dd = some (.xd fs)) (hf : PySem.W.findIn K (.ref C) f = some none) (hl : fs.lookup f = some v) (q : Q v H) :
    ∃ (a' C dd : Addr) (nI : String) (tl : List Value) (fs : List (Str × V)) (v : V), V.ref a = .ref a' ∧ H a' = some (exk a' (.ref C) (some dd)) ∧ H dd = some (.xd fs) ∧ Own K C nI tl ∧ PySem.W.findIn K (.ref C) f = some none ∧ fs.lookup f = some v ∧ Q v H :=
  ⟨a, C, dd, nI, tl, fs, v, rfl, ea, ed, T, hf, hl, q⟩
theorem x_mkO {C : Addr} {dvs : List V} {Q : XK} (q : ta σ H fun vs H1 => vs.length ≤ 1000 ∧ ∀ a, H1 a = none → sp (.ref a :: (vs ++ dvs)) (upd H1 a (exo a C none))
    (fun v H2 => v = .non ∧ ∃ (d : Addr) (fs : List (Str × V)), H2 a = some (exo a C (some d)) ∧ H2 d = some (exd d fs) ∧ H1 d = none ∧ Q (.ref C) (some d) (upd (L2.del H2 a) d (.xd fs))) (fun _ _ _ => False)) : tMkO C sp dvs ta σ H Q := q
/-! ### __init__ -/
def spInit1 (C : Addr) (f : Str) : Sp := fun vs H Q _ => ∃ (a : Addr) (v : V), vs = [.ref a, v] ∧ H a = some (exo a C none) ∧ ∀ d, H d = none → d ≠ a → Q .non (upd (upd H d (exd d [(f, v)])) a (exo a C (some d)))
def spInit2 (C : Addr) (f g : Str) : Sp := fun vs H Q _ => ∃ (a : Addr) (v w : V), vs = [.ref a, v, w] ∧ H a = some (exo a C none) ∧ ∀ d, H d = none → d ≠ a → Q .non (upd (upd (upd H d (exd d [(f, v)])) a (exo a C (some d))) d (exd d [(g, w), (f, v)]))
theorem x_bI {Q : VK} (q : ta σ H fun vs H1 => ∃ (a C : Addr) (ws : List V), vs = .ref a :: ws ∧ ws.length ≤ 1000 ∧ Own K C nI tl ∧ H1 a = some (exo a C none) ∧ Q .non H1) : tBI K nI tl ta σ H Q := q
/-- the body of an __init__ of one field -/
theorem init1 {C a : Addr} {v x0 : V} (T : Own K C nI tl) (hf : PySem.W.findIn K (.ref C) f = some none) (ea : H a = some (exo a C none)) {Q : VK}
    (q : ∀ d, H d = none → d ≠ a → Q .non (upd (upd H d (exd d [(f, v)])) a (exo a C (some d)))) :
    tSeq (tDrop (tBI K nI tl (tCons (tVar 0) (tCons (tC x0) tNil)))) (tFld K nI tl f (tVar 0) (tVar 1)) { nx := fun _ H' => Q .non H', rt := Q } [some (.ref a), some v] H :=
  ⟨.ref a, rfl, a, C, [x0], rfl, by simp, T, ea, v, rfl, .ref a, rfl, a, C, rfl, T, hf, .inl ⟨ea, q⟩⟩
theorem init2 {C a : Addr} {v w x0 : V} {g : Str} (T : Own K C nI tl) (hf : PySem.W.findIn K (.ref C) f = some none) (hg : PySem.W.findIn K (.ref C) g = some none) (ea : H a = some (exo a C none)) {Q : VK}
    (q : ∀ d, H d = none → d ≠ a → Q .non (upd (upd (upd H d (exd d [(f, v)])) a (exo a C (some d))) d (exd d [(g, w), (f, v)]))) :
    tSeq (tDrop (tBI K nI tl (tCons (tVar 0) (tCons (tC x0) tNil)))) (tSeq (tFld K nI tl f (tVar 0) (tVar 1)) (tFld K nI tl g (tVar 0) (tVar 2))) { nx := fun _ H' => Q .non H', rt := Q } [some (.ref a), some v, some w] H :=
  ⟨.ref a, rfl, a, C, [x0], rfl, by simp, T, ea, v, rfl, .ref a, rfl, a, C, rfl, T, hf, .inl ⟨ea, fun d hd hne => ⟨w, rfl, .ref a, rfl, a, C, rfl, T, hg, .inr ⟨d, _, upd_same, (upd_ne hne).trans upd_same, by simp, q d hd hne⟩⟩⟩⟩
end
section
variable {H1 : Hp} {C : Addr} {f g : Str} {v w : V} {Q : XK}
theorem hp_ext {H H' : Hp} (h : ∀ b, H b = H' b) : H = H' := funext h
/-- C(v) made: what is left of it is its dict -/
theorem x_mk1 (q : ∀ d, H1 d = none → Q (.ref C) (some d) (upd H1 d (.xd [(f, v)]))) : ([v] : List V).length ≤ 1000 ∧ ∀ a, H1 a = none → spInit1 C f (.ref a :: ([v] ++ [])) (upd H1 a (exo a C none))
    (fun v H2 => v = .non ∧ ∃ (d : Addr) (fs : List (Str × V)), H2 a = some (exo a C (some d)) ∧ H2 d = some (exd d fs) ∧ H1 d = none ∧ Q (.ref C) (some d) (upd (L2.del H2 a) d (.xd fs))) (fun _ _ _ => False) := by
  refine ⟨by simp, fun a ha => ⟨a, v, rfl, upd_same, fun d hd hne => ⟨rfl, d, _, upd_same, (upd_ne hne).trans upd_same, ?_, ?_⟩⟩⟩
  · rw [upd_ne hne] at hd
    exact hd
  · rw [upd_ne hne] at hd
    have e : upd (L2.del (upd (upd (upd H1 a (exo a C none)) d (exd d [(f, v)])) a (exo a C (some d))) a) d (.xd [(f, v)]) = upd H1 d (.xd [(f, v)]) := by
      refine hp_ext fun b => ?_
      by_cases h1 : b = d
      · rw [h1, upd_same, upd_same]
      · rw [upd_ne h1, upd_ne h1]
        by_cases h2 : b = a
        · rw [h2, L2.del_same, ha]
        · rw [L2.del_ne h2, upd_ne h2, upd_ne h1, upd_ne h2]
    rw [e]
    exact q d hd
theorem x_mk2 (q : ∀ d, H1 d = none → Q (.ref C) (some d) (upd H1 d (.xd [(g, w), (f, v)]))) : ([v, w] : List V).length ≤ 1000 ∧ ∀ a, H1 a = none → spInit2 C f g (.ref a :: ([v, w] ++ [])) (upd H1 a (exo a C none))
    (fun v H2 => v = .non ∧ ∃ (d : Addr) (fs : List (Str × V)), H2 a = some (exo a C (some d)) ∧ H2 d = some (exd d fs) ∧ H1 d = none ∧ Q (.ref C) (some d) (upd (L2.del H2 a) d (.xd fs))) (fun _ _ _ => False) := by
  refine ⟨by simp, fun a ha => ⟨a, v, w, rfl, upd_same, fun d hd hne => ⟨rfl, d, _, (upd_ne (Ne.symm hne)).trans upd_same, upd_same, ?_, ?_⟩⟩⟩
  · rw [upd_ne hne] at hd
    exact hd
  · rw [upd_ne hne] at hd
    have e : upd (L2.del (upd (upd (upd (upd H1 a (exo a C none)) d (exd d [(f, v)])) a (exo a C (some d))) d (exd d [(g, w), (f, v)])) a) d (.xd [(g, w), (f, v)]) = upd H1 d (.xd [(g, w), (f, v)]) := by
      refine hp_ext fun b => ?_
      by_cases h1 : b = d
      · rw [h1, upd_same, upd_same]
      · rw [upd_ne h1, upd_ne h1]
        by_cases h2 : b = a
        · rw [h2, L2.del_same, ha]
        · rw [L2.del_ne h2, upd_ne h1, upd_ne h2, upd_ne h1, upd_ne h2]
    rw [e]
    exact q d hd
end
end Fw
namespace Fw
open PySem PySem.Spec PyProof.Rows L2
abbrev ceT : List Value := [.type "Exception", .type "BaseException", .type "object"]
abbrev keT : List Value := .type "KeyError" :: .type "LookupError" :: ceT
theorem storeKE : StoreFacts "KeyError" keT "object.__setattr__" "object" := by
  constructor
  case mro => kernel_rfl
  case slot => exact .of (owner := "object") (n := "__setattr__") (by rw [typeLookup_type, builtinLookup_eq_fast]; kernel_rfl) (by decide +kernel) (by decide +kernel) (by decide +kernel) (by first | exact .inl (by decide +kernel) | exact .inr (by decide +kernel)) (by rw [isSubtype_type]; kernel_rfl)
  case entry => exact PySem.F.entry_object_sa
  case kind => decide +kernel
  case split => decide +kernel
  case hasOwner => decide +kernel
  case args => intro a b c; unfold argsOk; kernel_rfl
  case passes => intro self; kernel_rfl
/-- KeyError: its __new__ is LookupError's -/
theorem bs_KeyError : Bs "KeyError" "KeyError" "LookupError.__new__" "KeyError.__init__" keT :=
  ⟨⟨_, _, _, PySem.F.excBase_LookupError, by decide +kernel⟩, by decide +kernel, by decide +kernel, by decide +kernel,
    .of (owner := "KeyError") (n := "__init__") (by rw [typeLookup_type, builtinLookup_eq_fast]; kernel_rfl) (by decide +kernel) (by decide +kernel) (by decide +kernel) (by first | exact .inl (by decide +kernel) | exact .inr (by decide +kernel)) (by rw [isSubtype_type]; kernel_rfl),
    entryFor_alias (id' := "BaseException.__init__") (by rw [fastTable_eq_tree]; kernel_rfl) (by first | rfl | decide +kernel) (by decide +kernel) (by rw [fastTable_eq_tree]; kernel_rfl), by kernel_rfl, by kernel_rfl, by kernel_rfl, by decide +kernel,
    storeKE, by kernel_rfl, by decide +kernel, by decide +kernel, fun K => by kernel_rfl, by decide +kernel, by decide, by decide⟩
theorem bs_LookupError : Bs "LookupError" "LookupError" "LookupError.__new__" "LookupError.__init__" (.type "LookupError" :: ceT) := bs_of PySem.F.excBase_LookupError PySem.F.store_LookupError (by kernel_rfl) (by decide +kernel) (by decide +kernel) (fun K => by kernel_rfl) (by decide +kernel) (by decide) (by decide)
theorem bs_IndexError : Bs "IndexError" "IndexError" "IndexError.__new__" "IndexError.__init__" (.type "IndexError" :: .type "LookupError" :: ceT) := bs_of PySem.F.excBase_IndexError PySem.F.store_IndexError (by kernel_rfl) (by decide +kernel) (by decide +kernel) (fun K => by kernel_rfl) (by decide +kernel) (by decide) (by decide)
theorem bs_RuntimeError : Bs "RuntimeError" "RuntimeError" "RuntimeError.__new__" "RuntimeError.__init__" (.type "RuntimeError" :: ceT) := bs_of PySem.F.excBase_RuntimeError PySem.F.store_RuntimeError (by kernel_rfl) (by decide +kernel) (by decide +kernel) (fun K => by kernel_rfl) (by decide +kernel) (by decide) (by decide)
theorem bs_ArithmeticError : Bs "ArithmeticError" "ArithmeticError" "ArithmeticError.__new__" "ArithmeticError.__init__" (.type "ArithmeticError" :: ceT) := bs_of PySem.F.excBase_ArithmeticError PySem.F.store_ArithmeticError (by kernel_rfl) (by decide +kernel) (by decide +kernel) (fun K => by kernel_rfl) (by decide +kernel) (by decide) (by decide)
theorem bs_OverflowError : Bs "OverflowError" "OverflowError" "OverflowError.__new__" "OverflowError.__init__" (.type "OverflowError" :: .type "ArithmeticError" :: ceT) := bs_of PySem.F.excBase_OverflowError PySem.F.store_OverflowError (by kernel_rfl) (by decide +kernel) (by decide +kernel) (fun K => by kernel_rfl) (by decide +kernel) (by decide) (by decide)
end Fw
namespace Fw
open PySem PySem.Spec PyProof.Rows L2 L2H HotX
/-! ### raise C(..) from e, e the exception that is handled -/
/-- the heap behind «from e» -/
def causeOf (h : Heap) (a x1 : Addr) : Heap := (h.update a (Obj.mapFields (·.setIfInBounds 3 (.ref x1)))).update a (Obj.mapFields (·.setIfInBounds 4 (.bool true)))
theorem causeOf_at {h : Heap} {a x1 : Addr} {oe : Obj} {vs : Array Value} (ha : h.get? a = some oe) (hd : oe.data = .fields vs) :
    (causeOf h a x1).get? a = some ((oe.mapFields (·.setIfInBounds 3 (.ref x1))).mapFields (·.setIfInBounds 4 (.bool true))) ∧ ((oe.mapFields (·.setIfInBounds 3 (.ref x1))).mapFields (·.setIfInBounds 4 (.bool true))).data = .fields ((vs.setIfInBounds 3 (.ref x1)).setIfInBounds 4 (.bool true)) := by
  have d3 := Obj.data_mapFields hd (·.setIfInBounds 3 (Value.ref x1))
  have a3 := Heap.get?_update_self (Obj.mapFields (·.setIfInBounds 3 (Value.ref x1))) ha (Obj.isFreed_of_fields d3)
  have d4 := Obj.data_mapFields d3 (·.setIfInBounds 4 (.bool true))
  exact ⟨Heap.get?_update_self (Obj.mapFields (·.setIfInBounds 4 (.bool true))) a3 (Obj.isFreed_of_fields d4), d4⟩
theorem causeOf_other {h : Heap} {a b x1 : Addr} (hne : a ≠ b) : (causeOf h a x1).get? b = h.get? b := by
  unfold causeOf
  rw [Heap.get?_update_other _ _ hne, Heap.get?_update_other _ _ hne]
theorem raise_from {prog : Program} {w : World} {A : Around} {E : Value → Shared → Prop} {env : Env} {s : Shared} {x c : Sem Value} {Q : Flow → Shared → Prop} {x1 : Addr}
    (h : wpAny (model prog w) A x (fun v s₁ => ∃ a oe vs cls, v = .ref a ∧ s₁.heap.get? a = some oe ∧ oe.cls = cls ∧ oe.data = .fields vs ∧ vs[1]? = some .none ∧ 4 < vs.size ∧ x1 ≠ a ∧ HotAt A x1 s₁.heap ∧
      PySem.W.Looks (model prog w) s₁.heap (isSubtype cls (.type "BaseException")) true ∧ PySem.W.Looks (model prog w) (causeOf s₁.heap a x1) (typeOf cls) (.type "type") ∧ PySem.W.Looks (model prog w) s₁.heap (isInstance (.ref x1) (.type "BaseException")) true ∧
      (∀ Q' : Value → Shared → Prop, Q' (.ref x1) s₁ → wpAny (model prog w) A c Q' E s₁) ∧
      E (.ref a) { s₁ with heap := (causeOf s₁.heap a x1).update a (Obj.mapFields (·.setIfInBounds 2 (.ref x1))) }) E s) :
    wpAny (model prog w) A (raiseStmt env (some x) (some c)) Q E s := by
  unfold raiseStmt
  dsimp only
  refine wpAny_bind (wpAny_mono h (fun v s₁ h₁ => ?_) fun _ _ x => x)
  obtain ⟨a, oe, vs, cls, rfl, ha, hcls, hd, h1, hi, hne, hot, L1, L3, L5, hcs, hE⟩ := h₁
  have ty : PySem.W.Looks (model prog w) s₁.heap (typeOf (.ref a)) cls := fun A Q E s k q => wpAny_typeOf_ref (k _ _ ha) (by rw [hcls]; exact q)
  have isE : PySem.W.Looks (model prog w) s₁.heap (isInstance (.ref a) (.type "BaseException")) true := ty.andThen L1
  have noT : ∀ {s2 : Shared} {b : Addr} {ob : Obj} {ws : Array Value} {Q' : Bool → Shared → Prop}, s2.heap.get? b = some ob → ob.data = .fields ws → Q' false s2 → wpAny (model prog w) A (isType (.ref b)) Q' E s2 := by
    intro s2 b ob ws Q' g dd hq
    simp only [isType, loadHead]
    refine wpAny_bind (wpAny_loadPart g ?_)
    rw [dd]
    exact wpAny_pure hq
  have d3 := Obj.data_mapFields hd (·.setIfInBounds 3 (Value.ref x1))
  have a3 := Heap.get?_update_self (Obj.mapFields (·.setIfInBounds 3 (Value.ref x1))) ha (Obj.isFreed_of_fields d3)
  obtain ⟨a4, d4⟩ := causeOf_at (x1 := x1) ha hd
  have s4 : 4 < (vs.setIfInBounds 3 (Value.ref x1)).size := by rw [set_size]; exact hi
  have s2 : 2 < ((vs.setIfInBounds 3 (Value.ref x1)).setIfInBounds 4 (Value.bool true)).size := by rw [set_size, set_size]; omega
  have h14 : ((vs.setIfInBounds 3 (Value.ref x1)).setIfInBounds 4 (Value.bool true))[1]? = some Value.none := set_other (by decide) (set_other (by decide) h1)
  have cls4 : ((oe.mapFields (·.setIfInBounds 3 (.ref x1))).mapFields (·.setIfInBounds 4 (.bool true))).cls = cls := by rw [Obj.cls_mapFields, Obj.cls_mapFields]; exact hcls
  have ty4 : PySem.W.Looks (model prog w) (causeOf s₁.heap a x1) (typeOf (.ref a)) cls := fun A Q E s k q => wpAny_typeOf_ref (k _ _ a4) (by rw [cls4]; exact q)
  obtain ⟨hh, o1, vs1, g1, dd1, c1⟩ := hot
  have hot4 : HotAt A x1 (causeOf s₁.heap a x1) := ⟨hh, o1, vs1, (causeOf_other (Ne.symm hne)).trans g1, dd1, c1⟩
  have rest : wpAny (model prog w) A (do
      let b ← isType (.ref a)
      if b = true then do
        let e ← holding [.ref a] (raisedFor (.ref a) (.ref a))
        setFlight e none
        raiseNew e
      else do
        let e ← raisedInstance (.ref a)
        setFlight e none
        raiseNew e : Sem Flow) Q E { s₁ with heap := causeOf s₁.heap a x1 } := by
    refine wpAny_bind (noT a4 d4 ?_)
    simp only [Bool.false_eq_true, if_false]
    unfold raisedInstance
    refine wpAny_bind (wpAny_bind (ty4.here (wpAny_bind (L3.here ?_))))
    rw [if_pos (beq_self_eq_true _)]
    refine wpAny_pure ?_
    unfold setFlight
    refine wpAny_bind (wpAny_bind (wpAny_field a4 d4 h14 ?_))
    rw [if_neg (by decide)]
    exact wpAny_pure (raiseNew_hot hot4 hne a4 d4 s2 hE)
  refine wpAny_bind (wpAny_holding (hcs _ (wpAny_bind (wpAny_pure ?_))))
  dsimp only
  refine wpAny_bind (wpAny_holding ?_)
  unfold excFromValue isExcClass
  refine wpAny_bind (wpAny_bind (noT ha hd ?_))
  simp only [Bool.false_eq_true, if_false]
  refine wpAny_pure ?_
  simp only [Bool.false_eq_true, if_false]
  refine wpAny_bind (isE.here ?_)
  simp only [if_true]
  refine wpAny_pure ?_
  rw [if_neg (show ¬ ((Value.ref x1 == Value.none) = true) from by simp)]
  refine wpAny_bind (wpAny_holding ?_)
  refine wpAny_bind (wpAny_bind (noT g1 dd1 ?_))
  simp only [Bool.false_eq_true, if_false]
  refine wpAny_pure ?_
  simp only [Bool.false_eq_true, if_false]
  refine wpAny_bind (L5.here ?_)
  simp only [if_true]
  refine wpAny_pure ?_
  exact wpAny_bind (wpAny_setField ha hd (by omega) (wpAny_bind (wpAny_setField a3 d3 s4 rest)))
theorem ld_own {X : Cx} {E : Value → Shared → Prop} {pins : List (Addr × Obj)} {s : Shared} {σ : L2.St} {H : Hp} {i : Nat} {x : Str} {a : Addr} {pos : Pos} {Q : Value → Shared → Prop} (I : Inv X pins σ H s) (hN : X.N[i]? = some x) (hk : X.env.kindOf x = some .local) (e : σ[i]? = some (some (.ref a)))
    (h : Q (.ref a) s) (hd : (x == ("__debug__" : Str)) = false := by decide) : wpAny (model X.prog X.w) X.A (eval (.Name x pos) X.env) Q E s := by
  obtain ⟨m, hn, hl⟩ := I.loc
  obtain ⟨u, r, l⟩ := hl i x (.ref a) hN e (.inl hk)
  obtain rfl : u = Value.ref a := r
  rcases l with ⟨hk', hm⟩ | ⟨hk', _⟩
  · exact wpAny_Name (wpAny_loadName_local I.ok.kind hk' hn hm h) hd
  · rcases hk' with z | z
    · exact nomatch hk.symm.trans z
    · exact nomatch hk.symm.trans z
/-- raise e from n, n the handled exception's name -/
theorem ps_raiseHF {X : Cx} {W : WX} {e : Expr} {t : L2.St → Hp → XK → Prop} {i : Nat} {n : Str} {np pos : Pos} {p : Addr × Obj} {cls0 : Value} (hot : Hot1 X.A p) (hp : p ∈ X.pn) (hcl : p.2.cls = cls0) (hrs : Raises X cls0) (hN : X.N[i]? = some n) (hk : X.env.kindOf n = some .local) (tk : L2.Takes X W) (he : PMk5 X e t)
    (hd0 : (n == ("__debug__" : Str)) = false := by decide) :
    PS X (.Raise (some e) (some (.Name n np)) pos) (fun _ σ H => σ[i]? = some (some (.ref p.1)) ∧ t σ H fun cls d H' => W cls d σ H') := by
  refine ⟨fun pins s σ H D I h => ?_⟩
  obtain ⟨hσ, h⟩ := h
  obtain ⟨hh, v1, e1, c1⟩ := hot
  show wpAny _ _ (do standAt pos; raiseStmt X.env (some (do let v ← eval e X.env; standAt pos; pure v)) (some (do let v ← eval (.Name n np) X.env; standAt pos; pure v))) _ _ _
  refine wpAny_bind (wpAny_standAt (raise_from (x1 := p.1) (wpAny_bind (wpAny_mono (he pins s σ H _ I h) (fun u s1 hu => wpAny_bind (wpAny_standAt (wpAny_pure ?_))) fun _ _ x => x))))
  obtain ⟨⟨a, oe, vs, sI, H', cls, d, rfl, J, k, hne, ha, hz, hd, h1, na, os, ag, r, q⟩, h5⟩ := hu
  have J1 : Inv X pins σ H' s1 := J.landed (B := sI.heap) (fun _ _ e _ => e) k (Heap.UpToSlots.of_keeps k) os ag
  have k4 : ∀ b u, sI.heap.get? b = some u → (causeOf s1.heap a p.1).get? b = some u := fun b u z => by
    have nab : a ≠ b := fun y => nomatch (y ▸ z : sI.heap.get? a = some u).symm.trans hne
    rw [causeOf_other nab]
    exact k b u z
  obtain ⟨r1, _⟩ := r (model X.prog X.w) s1.heap (J.kIn.keeps k)
  obtain ⟨_, r2⟩ := r (model X.prog X.w) (causeOf s1.heap a p.1) (J.kIn.keeps k4)
  obtain ⟨r3, _⟩ := hrs (model X.prog X.w) s1.heap (J.kIn.keeps k)
  have P1 := (J.pin p (List.mem_append_left _ hp)).1
  have nap : p.1 ≠ a := fun z => nomatch (z ▸ P1 : sI.heap.get? a = some p.2).symm.trans hne
  obtain ⟨ha4, hd4⟩ := causeOf_at (x1 := p.1) ha hd
  have h12 : (((vs.setIfInBounds 3 (Value.ref p.1)).setIfInBounds 4 (Value.bool true)).setIfInBounds 2 (Value.ref p.1))[1]? = some Value.none := set_other (by decide) (set_other (by decide) (set_other (by decide) h1))
  have LT : PySem.W.Looks (model X.prog X.w) s1.heap (typeOf (.ref p.1)) cls0 := fun A Q E s k2 q => wpAny_typeOf_ref (k2 _ _ (k _ _ P1)) (by rw [hcl]; exact q)
  refine ⟨a, oe, vs, cls, rfl, ha, hz.1, hd, h1, h5 a oe vs rfl ha hd, nap, ⟨hh, p.2, v1, k _ _ P1, e1, c1⟩, r1, r2, LT.andThen r3, fun Q' q' => wpAny_bind (ld_own J1 hN hk hσ (wpAny_bind (wpAny_standAt (wpAny_pure q'))) hd0), tk _ _ (XE.new J (fun b u z => ?_) hne (Heap.get?_update_self _ ha4 (Obj.isFreed_of_fields (Obj.data_mapFields hd4 _)))
    ⟨by rw [Obj.cls_mapFields, Obj.cls_mapFields, Obj.cls_mapFields]; exact hz.1, by rw [HandSPX.dict_mapFields, HandSPX.dict_mapFields, HandSPX.dict_mapFields]; exact hz.2.1⟩ (Obj.data_mapFields hd4 _) h12 na os ag q)⟩
  have nab : a ≠ b := fun y => nomatch (y ▸ z : sI.heap.get? a = some u).symm.trans hne
  show ((causeOf s1.heap a p.1).update a (Obj.mapFields (·.setIfInBounds 2 (.ref p.1)))).get? b = some u
  rw [Heap.get?_update_other _ _ nab]
  exact k4 b u z
/-! ### C(..) while an exception is handled -/
theorem pmk5_own {X : Cx} {CX : CXT} {x xB : Str} {e : Expr} {es : List Expr} {ta : TA} {p pos : Pos} {C fI : Addr} {k j : Nat} {fd : FuncData} {ps : List Str} {sp : Sp} {B nI iI : String} {tl : List Value} (F : Bs xB B nI iI tl) (T : Own X.K C nI tl) (iC : PySem.W.findIn X.K (.ref C) "__init__" = some (some (.ref fI)))
    (tI : PySem.W.typeIn X.K (.ref fI) = some (.type "function")) (F1 : FnH X.prog X.w X.K X.mg X.base CX k fI fd ps sp) (hr : RoomH j X.A) (hkj : k + 1 ≤ j) (hc : HotC X) (hb : Binds X.K fd ps []) (hx : Passes CX X (fun _ _ _ => False)) (hg : Gl X x) (hm : X.mg x = some (.ref C)) (ha : PA X (e :: es) ta)
    (hdb : (x == ("__debug__" : Str)) = false := by decide) (he : starEach (e :: es) X.env = (false, eval e X.env) :: starEach es X.env := by rfl) (hpl : (backTo pos (starEach es X.env)).any (·.1) = false := by rfl) :
    PMk5 X (.Call (.Name x p) (e :: es) [] pos) (tMkO C sp [] ta) := by
  intro pins s σ H Q I h
  obtain ⟨pn, hot, hpn⟩ := hc
  refine wpAny_Call_Name_kw (ld_glob I hg hm ?_ hdb)
  refine PySem.W.callWith_K (h₀ := X.base) I.ok.mod.kin T.kp (thn (ha.run pos pins s σ H _ I h) fun us s1 ⟨vs, H1, I1, r1, hz, q1⟩ => ⟨I1.kIn, ?_⟩) he hpl
  show wpAny _ _ (call (.ref C) us) _ _ _
  obtain ⟨nm, N0, q, bs, bm, hd, sn, sub, ab, col, dd, k0, k1, k2, k3, k5, hC, hT⟩ := PySem.W.excInit_of I1.kIn T.inn
  obtain ⟨N, iN, tN, FN, hN⟩ := F.new
  obtain ⟨hp, g, dr, tk, os⟩ := s1
  have hsz : hp.objs.size ≤ hp.objs.size + 1 := Nat.le_succ _
  have hq := q1 (hp.objs.size + 1) (I1.hok.fresh hsz)
  rw [List.append_nil] at hq
  have kk : ∀ b o, hp.get? b = some o → ((hp.push (PySem.W.kdv_tup us)).push (PySem.HandSPX.excO C hp.objs.size)).get? b = some o := fun b o e => Heap.get?_push_of_some _ (Heap.get?_push_of_some _ e)
  have hget : ((hp.push (PySem.W.kdv_tup us)).push (PySem.HandSPX.excO C hp.objs.size)).get? (hp.objs.size + 1) = some (PySem.HandSPX.excO C hp.objs.size) := by heap_get
  have I2 := I1.laid (t' := tk) (a := hp.objs.size + 1) (o := exo (hp.objs.size + 1) C none) kk hsz (exo_ok hget)
  have r2 : Vals (V.ref (hp.objs.size + 1) :: vs) (Value.ref (hp.objs.size + 1) :: us) := .cons rfl r1
  have hl : (Value.ref (hp.objs.size + 1) :: us).length = ps.length := r2.length.symm.trans (F1.len _ _ _ _ hq)
  have hus : us.length ≤ sizeLine := by rw [← Paired.length r1, sizeLine_eq]; omega
  have bd := hb ⟨(hp.push (PySem.W.kdv_tup us)).push (PySem.HandSPX.excO C hp.objs.size), g, dr, tk, os⟩ (Value.ref (hp.objs.size + 1) :: us) I2.kIn (by rw [List.append_nil]; exact hl)
  rw [List.append_nil] at bd
  have P1 := I2.pin pn (List.mem_append_left _ hpn)
  refine wpAny_call (run_cls FN ((hT _).trans hN) ((hT _).trans F.noA) ((hT _).trans F.noN) hC (PySem.W.looks_findIn I1.kIn iC) (fun self => PySem.W.bind_fn I1.kIn self tI) hus
    (codeAny_mono (F1.run _ X.stack _ _ ⟨Value.ref (hp.objs.size + 1) :: us, []⟩ _ _ _ (fun _ _ _ => False) pn (RoomH.make (hr.mono hkj) C us []) ⟨hot.1, hot.2⟩ ⟨P1.1, P1.2.1, fun z => (List.mem_cons.mp (I2.stkSub pn.1 z)).elim P1.2.2.1 P1.2.2.2.1, P1.2.2.2.2⟩ (I2.env0.make C us []) bd r2 hq) fun r s' hq' => ?_))
  cases r with
  | error er => exact hx pins σ _ _ er s' I2 hq'
  | ok fl =>
    cases fl with
    | ret u =>
      obtain ⟨v, H2, os2, bare2, un2, hok2, rv, ev, d, fs, ea, ed, hd1, q2⟩ := hq'
      subst ev
      obtain ⟨h2, g2, d2, t2, os'⟩ := s'
      obtain ⟨t0, G, J, kG, ge, hoe, na⟩ := mk_end0 (d2 := d2) (t2 := t2) I1 hsz kk un2 hok2 os2 bare2 ea ed hd1
      refine ⟨rv, ⟨hp.objs.size + 1, _, _, ⟨G, g2, d2, t2, os'⟩, _, .ref C, some d, rfl, J, kG, ge, hoe, ⟨rfl, rfl, fun vs hv => by cases hv; rfl⟩, rfl, rfl, na, rfl, bare2, raises_own T.sub T.ty, q2⟩, fun a oe vs ea2 hg2 hd2 => ?_⟩
      cases ea2
      cases hoe.symm.trans (show h2.get? (hp.objs.size + 1) = some oe from hg2)
      cases hd2
      show (4 : Nat) < 6
      decide
    | next => exact hq'.elim
    | brk => exact hq'.elim
    | cont => exact hq'.elim
/-- an __init__ called while an exception is handled -/
theorem okSH {P : Program} {w : World} {K : PySem.W.Frag} {mg : Str → Option Value} {base : Heap} {x qual : Str} {st : Stmt} {f : Addr} {fd : FuncData} {N ps : List Str} {k : Nat} {sp : Sp} (F : Fun K x qual st f fd) (S : FnScope N ps (defScope st)) (len : ∀ vs H Q E, sp vs H Q E → vs.length = ps.length)
    (hbody : ∀ (cdv : Value) (A : Around) (outer : List Env) (s : Shared) (H : Hp) (vs : List V) (Q : VK) (E : XK) (p : Addr × Obj), Hot1 A p → RoomH k (A.deeper (envOfC qual (defScope st) s.heap.objs.size f cdv)) → sp vs H Q E →
      ∃ t σ, PSs (cxH CX0 P w K mg base N qual (defScope st) f cdv A outer s H E p) (defBody st) t ∧ L2.start N vs = σ ∧ t { nx := fun _ H' => Q .non H', rt := Q } σ H) : FnH P w K mg base CX0 (k + 1) f fd ps sp := by
  obtain ⟨oc, od, kV, doc, pm, an, cdv, ct, osl, rfl, lk, hcd⟩ := F.ex
  refine fn_ofH lk hcd S len fun A outer s H vs Q E p hot hr hsp => ?_
  obtain ⟨t, σ, h1, rfl, h2⟩ := hbody cdv A outer s H vs Q E p hot hr hsp
  exact ⟨t, h1, h2⟩
end Fw
namespace Fw
open PySem PySem.Spec PyProof.Rows L2
/-! ### promises of defs that are called while no repr is under way -/
section
variable (P : Program) (w : World) (K : PySem.W.Frag) (mg : Str → Option Value) (base : Heap) (CX : CXT)
structure FnG (k : Nat) (f : Addr) (fd : FuncData) (ps : List Str) (sp : Sp) : Prop where
  many : ∀ vs H Q E, sp vs H Q E → vs.length = ps.length
  go : ∀ (A : Around) (up : List Env) (s : Shared) (H : Hp) (ar : Args) (us : List Value) (vs : List V) (Q : VK) (E : XK), Room k A → A.guards = some [] → Env0 P w K mg base A up s H → BindsTo s fd ar (ps.zip us) → Vals vs us → sp vs H Q E →
    codeAny (model P w) A (.call (.ref f) ar) (CR CX up P w H s Q E) s
/-- a def by its name -/
structure Fq (k : Nat) (x : Str) (ps : List Str) (sp : Sp) : Prop where
  ex : ∃ (f : Addr) (fd : FuncData), mg x = some (.ref f) ∧ PySem.W.keepIn K (.ref f) = true ∧ Binds K fd ps [] ∧ FnG P w K mg base CX k f fd ps sp
structure FqN (k : Nat) (x : Str) (n : Nat) (ks : List Str) (gV : List V → List V → List V) (sp : Sp) : Prop where
  ex : ∃ (f : Addr) (fd : FuncData) (ps : List Str) (g : List Value → List Value → List Value), mg x = some (.ref f) ∧ PySem.W.keepIn K (.ref f) = true ∧ KBn K fd ps n ks g gV ∧ FnG P w K mg base CX k f fd ps sp
end
section
variable {P : Program} {w : World} {K : PySem.W.Frag} {mg : Str → Option Value} {base : Heap} {CX : CXT} {k j : Nat} {f : Addr} {fd : FuncData} {ps : List Str} {sp : Sp} {x qual : Str}
theorem FnG.of (F : FnOk P w K mg base CX k f fd ps sp) : FnG P w K mg base CX k f fd ps sp := ⟨F.len, fun A up s H ar us vs Q E r _ => F.run A up s H ar us vs Q E r⟩
theorem FnG.mono (F : FnG P w K mg base CX j f fd ps sp) (h : j ≤ k) : FnG P w K mg base CX k f fd ps sp := ⟨F.many, fun A up s H ar us vs Q E r => F.go A up s H ar us vs Q E (r.mono h)⟩
theorem Fn.q (F : Fn P w K mg base CX k x ps sp) : Fq P w K mg base CX k x ps sp := by
  obtain ⟨f, fd, h1, h2, h3, h4⟩ := F.ex
  exact ⟨f, fd, h1, h2, h3, .of h4⟩
theorem FnN.q {n : Nat} {ks : List Str} {gV : List V → List V → List V} (F : FnN P w K mg base CX k x n ks gV sp) : FqN P w K mg base CX k x n ks gV sp := by
  obtain ⟨f, fd, ps, g, h1, h2, h3, h4⟩ := F.ex
  exact ⟨f, fd, ps, g, h1, h2, h3, .of h4⟩
theorem Fq.mono (F : Fq P w K mg base CX j x ps sp) (h : j ≤ k) : Fq P w K mg base CX k x ps sp := by
  obtain ⟨f, fd, h1, h2, h3, h4⟩ := F.ex
  exact ⟨f, fd, h1, h2, h3, h4.mono h⟩
/-- the body walked -/
theorem okGX {params : Arguments} {body : List Stmt} {sc : Scope} {dvs : List V} {kws : List (Str × V)} {N : List Str} (F : FunD K x qual params body sc dvs kws f fd) (S : FnScope N ps sc) (len : ∀ vs H Q E, sp vs H Q E → vs.length = ps.length)
    (hbody : ∀ (cdv : Value) (A : Around) (outer : List Env) (s : Shared) (H : Hp) (vs : List V) (Q : VK) (E : XK), A.guards = some [] → Room k (A.deeper (envOfC qual sc s.heap.objs.size f cdv)) → sp vs H Q E →
      ∃ t σ, PSs (cxOf CX P w K mg base N qual sc f cdv A outer s H E) body t ∧ L2.start N vs = σ ∧ t { nx := fun _ H' => Q .non H', rt := Q } σ H) : FnG P w K mg base CX (k + 1) f fd ps sp := by
  obtain ⟨oc, od, dV, kV, doc, pm, an, cdv, ct, osl, rfl, lk, hcd, _, _⟩ := F.ex
  refine ⟨len, fun A up s H ar us vs Q E hr hG e0 hb rel hsp => ?_⟩
  have nK : K.In s.heap := e0.mod.kin.keeps fun b u z => (e0.bs b u z).1
  have noL : s.heap.NoLimit := e0.mod.nolimit.keeps fun b u z => (e0.bs b u z).1
  have kinds : ∀ q ∈ ps.zip us, sc.names.lookup q.1 = some .local ∨ (sc.names.lookup q.1 = some .cell ∧ ((cellsFrom (s.heap.objs.size + 1) sc.names []).lookup q.1).isSome = true) := by
    rintro ⟨n, v⟩ hq
    exact (S.par n (List.of_mem_zip hq).1).elim .inl fun z => .inr ⟨z, PySem.W.cellsFrom_some _ _ _ (.inl z)⟩
  refine codeAny_call_function hr.depth (nK _ _ lk) rfl S.co S.gen rfl (PySem.W.codeRec_of nK hcd) (hb _ _ _ _ (wpAny_newFunctionEnv_cells S.kind kinds fun env he s1 nw => ?_))
  subst he
  obtain ⟨t, σ, ht, rfl, hq⟩ := hbody cdv A up s H vs Q E hG (hr.deeper _) hsp
  have I0 : Inv (cxOf CX P w K mg base N qual sc f cdv A up s H E) [] (L2.start N vs) H s1 := inv_start S hr.hd e0 (len _ _ _ _ hsp) rel nw
  refine ⟨noL.keeps nw.toInCall.keep, codeAny_func (wpAny_mono (ht.run [] s1 _ H _ I0 hq) (fun fl s' z => ?_) fun _ _ z => z)⟩
  cases fl with
  | ret u =>
    obtain ⟨v, σ', H', J, rv, q⟩ := z
    exact ⟨v, H', J.os, J.bare, J.base, J.hok, rv, q⟩
  | next =>
    obtain ⟨σ', H', J, q⟩ := z
    exact ⟨.non, H', J.os, J.bare, J.base, J.hok, rfl, q⟩
  | brk =>
    obtain ⟨_, _, _, q⟩ := z
    exact q.elim
  | cont =>
    obtain ⟨_, _, _, q⟩ := z
    exact q.elim
theorem okG {st : Stmt} {dvs : List V} {kws : List (Str × V)} {N : List Str} (F : FunD K x qual (defArgs st) (defBody st) (defScope st) dvs kws f fd) (S : FnScope N ps (defScope st)) (len : ∀ vs H Q E, sp vs H Q E → vs.length = ps.length)
    (hbody : ∀ (cdv : Value) (A : Around) (outer : List Env) (s : Shared) (H : Hp) (vs : List V) (Q : VK) (E : XK), A.guards = some [] → Room k (A.deeper (envOfC qual (defScope st) s.heap.objs.size f cdv)) → sp vs H Q E →
      ∃ t σ, PSs (cxOf CX0 P w K mg base N qual (defScope st) f cdv A outer s H E).nox (defBody st) t ∧ L2.start N vs = σ ∧ t { nx := fun _ H' => Q .non H', rt := Q } σ H) : FnG P w K mg base CX0 (k + 1) f fd ps sp := by
  refine okGX F S len fun cdv A outer s H vs Q E hG hr h => ?_
  obtain ⟨t, σ, h1, h2, h3⟩ := hbody cdv A outer s H vs Q E hG hr h
  exact ⟨t, σ, h1.nox, h2, h3⟩
theorem mkFq {st : Stmt} {kws : List (Str × V)} (F : FunD K x qual (defArgs st) (defBody st) (defScope st) [] kws f fd) (gm : mg x = some (.ref f))
    (h : ∀ (kV doc pm : Value) (an : Option Addr) (cdv ct : Value) (us : List Value), us.length = ps.length → bindArgs (PySem.W.fnOf x qual (defArgs st) (defBody st) (defScope st) .none kV doc pm an cdv ct) ⟨us, []⟩ = pure (ps.zip us))
    (G : FnG P w K mg base CX k f fd ps sp) : Fq P w K mg base CX k x ps sp := ⟨f, fd, gm, F.kp, F.bindsN h, G⟩
end
/-! ### calls -/
section
variable {X : Cx} {CX : CXT} {k j n : Nat} {f : Addr} {fd : FuncData} {ps ks : List Str} {gV : List V → List V → List V} {sp : Sp} {E : XK} {W : WX} {x : Str} {p pos : Pos} {e : Expr} {es : List Expr} {kws : List Keyword} {t tk : TA}
theorem runG {pins : List (Addr × Obj)} {σ : L2.St} {H : Hp} {s : Shared} {Q : VK} {vs : List V} {us : List Value} {ar : Args} (F : FnG X.prog X.w X.K X.mg X.base CX k f fd ps sp) (hG : X.A.guards = some []) (hr : Room j X.A) (hk : k ≤ j)
    (I : Inv X pins σ H s) (hb : BindsTo s fd ar (ps.zip us)) (rel : Vals vs us) (hx : ∀ er s', CX X.stack H s E er s' → X.xe er s') (h : sp vs H Q E) : codeAny (model X.prog X.w) X.A (.call (.ref f) ar) (fun r s' => match r with | .ok (.ret u) => EP X pins σ Q u s' | .ok _ => False | .error er => X.xe er s') s :=
  codeAny_mono (F.go X.A X.stack s H ar us vs Q E (hr.mono hk) hG I.env0 hb rel h) fun r s' z => by
    cases r with
    | error er => exact hx er s' z
    | ok fl =>
      cases fl with
      | ret u => exact I.after z
      | next => exact z.elim
      | brk => exact z.elim
      | cont => exact z.elim
theorem callG {pins : List (Addr × Obj)} {σ : L2.St} {H : Hp} {s : Shared} {Q : VK} {vs : List V} {us : List Value} {ar : Args} (F : FnG X.prog X.w X.K X.mg X.base CX k f fd ps sp) (hG : X.A.guards = some []) (hr : Room j X.A) (hk : k ≤ j)
    (I : Inv X pins σ H s) (hb : BindsTo s fd ar (ps.zip us)) (rel : Vals vs us) (hx : ∀ er s', CX X.stack H s E er s' → X.xe er s') (h : sp vs H Q E) : wpAny (model X.prog X.w) X.A (PySem.call (.ref f) ar.pos ar.kw) (EP X pins σ Q) X.xe s := by
  refine wpAny_call (codeAny_mono (runG F hG hr hk I hb rel hx h) fun r s' z => ?_)
  rcases r with er | (u | _ | _ | _) <;> exact z
theorem pe_fq (hG : X.A.guards = some []) (F : Fq X.prog X.w X.K X.mg X.base CX k x ps sp) (hr : Room j X.A) (hk : k ≤ j) (hg : Gl X x) (hx : Passes CX X E) (ha : PA X (e :: es) t) (hdb : (x == ("__debug__" : Str)) = false := by decide)
    (he : starEach (e :: es) X.env = (false, eval e X.env) :: starEach es X.env := by rfl) (hpl : (backTo pos (starEach es X.env)).any (·.1) = false := by rfl) : PE X (.Call (.Name x p) (e :: es) [] pos) (tCall sp [] E t) := by
  obtain ⟨f, fd, hm, hkp, hb, F⟩ := F.ex
  refine ⟨fun pins s σ H Q I h => wpAny_Call_Name_kw (ld_glob I hg hm ?_ hdb)⟩
  refine PySem.W.callWith_K (h₀ := X.base) I.ok.mod.kin hkp (thn (ha.run pos pins s σ H _ I h) fun us s1 ⟨vs, H1, I1, r, q⟩ => ⟨I1.kIn, ?_⟩) he hpl
  replace q : sp (vs ++ []) H1 Q E := q
  rw [List.append_nil] at q
  have bd := hb s1 us I1.kIn (by rw [List.append_nil]; exact r.length.symm.trans (F.many _ _ _ _ q))
  rw [List.append_nil] at bd
  exact callG (ar := ⟨us, []⟩) F hG hr hk I1 bd r (fun er s' z => hx pins σ H1 s1 er s' I1 z) q
theorem pe_fq0 (hG : X.A.guards = some []) (F : Fq X.prog X.w X.K X.mg X.base CX k x ps sp) (hr : Room j X.A) (hk : k ≤ j) (hg : Gl X x) (hx : Passes CX X E) (hdb : (x == ("__debug__" : Str)) = false := by decide) : PE X (.Call (.Name x p) [] [] pos) (tCall sp [] E tNil) := by
  obtain ⟨f, fd, hm, hkp, hb, F⟩ := F.ex
  refine ⟨fun pins s σ H Q I h => wpAny_Call_Name_kw (ld_glob I hg hm ?_ hdb)⟩
  have bd := hb s [] I.kIn (by have := F.many _ _ _ _ h; simpa using this)
  exact PySem.W.callWith_K0 I.kIn hkp (callG (ar := ⟨[], []⟩) (vs := []) F hG hr hk I bd .nil (fun er s' z => hx pins σ H s er s' I z) h)
theorem pe_fqS (hG : X.A.guards = some []) (tks : Takes X W) (F : Fq X.prog X.w X.K X.mg X.base (L2.CX X.prog X.w) k x ps sp) (hr : Room j X.A) (hk : k ≤ j) (hg : Gl X x) (ha : PA X (e :: es) t) (hdb : (x == ("__debug__" : Str)) = false := by decide)
    (he : starEach (e :: es) X.env = (false, eval e X.env) :: starEach es X.env := by rfl) (hpl : (backTo pos (starEach es X.env)).any (·.1) = false := by rfl) : PE X (.Call (.Name x p) (e :: es) [] pos) (tCallS sp (WE W) t) := by
  obtain ⟨f, fd, hm, hkp, hb, F⟩ := F.ex
  refine ⟨fun pins s σ H Q I h => wpAny_Call_Name_kw (ld_glob I hg hm ?_ hdb)⟩
  refine PySem.W.callWith_K (h₀ := X.base) I.ok.mod.kin hkp (thn (ha.run pos pins s σ H _ I h) fun us s1 ⟨vs, H1, I1, r, q⟩ => ⟨I1.kIn, ?_⟩) he hpl
  have bd := hb s1 us I1.kIn (by rw [List.append_nil]; exact r.length.symm.trans (F.many _ _ _ _ q))
  rw [List.append_nil] at bd
  exact callG (ar := ⟨us, []⟩) F hG hr hk I1 bd r (fun er s' z => passAt tks σ pins H1 s1 er s' I1 z) q
section
variable (hG : X.A.guards = some []) (hr : Room j X.A) (hk : k ≤ j) (hg : Gl X x) (hkw : PK X kws tk)
include hG hr hk hg hkw
theorem pe_fqN (F : FqN X.prog X.w X.K X.mg X.base CX k x n ks gV sp) (hx : Passes CX X E) (ha : PA X (e :: es) t) (hall : (backToKw pos (keywordEach kws X.env)).all (·.1.isSome) = true := by rfl) (hks : (backToKw pos (keywordEach kws X.env)).filterMap (·.1) = ks := by rfl)
    (hdb : (x == ("__debug__" : Str)) = false := by decide) (he : starEach (e :: es) X.env = (false, eval e X.env) :: starEach es X.env := by rfl)
    (hpl : ((backTo pos (starEach (e :: es) X.env)).any (·.1) || (backToKw pos (keywordEach kws X.env)).any (·.1.isNone)) = false := by rfl) :
    PE X (.Call (.Name x p) (e :: es) kws pos) (tCallN n ks.length sp gV E t tk) := by
  obtain ⟨f, fd, ps, g, hm, hkp, hb, F⟩ := F.ex
  refine ⟨fun pins s σ H Q I h => wpAny_Call_Name_kw (ld_glob I hg hm ?_ hdb)⟩
  refine PySem.W.callWith_KW (h₀ := X.base) I.ok.mod.kin hkp hall (thn (ha.run pos pins s σ H _ I h) fun us s1 ⟨vs, H1, I1, r, q⟩ => ?_) hpl he
  refine thn (hkw.run pos pins s1 σ H1 _ I1 q) fun ws s2 ⟨zs, H2, I2, rz, l1, l2, q2⟩ => ⟨I2.kIn, ?_⟩
  rw [hks]
  exact callG (ar := ⟨us, ks.zip ws⟩) F hG hr hk I2 (hb.to s2 us ws I2.kIn (r.length.symm.trans l1) (rz.length.symm.trans l2)) (hb.rel r rz) (fun er s' z => hx pins σ H2 s2 er s' I2 z) q2
theorem pe_fqN0 (F : FqN X.prog X.w X.K X.mg X.base CX k x n ks gV sp) (hx : Passes CX X E) (hall : (backToKw pos (keywordEach kws X.env)).all (·.1.isSome) = true := by rfl) (hks : (backToKw pos (keywordEach kws X.env)).filterMap (·.1) = ks := by rfl)
    (hdb : (x == ("__debug__" : Str)) = false := by decide)
    (hpl : ((backTo pos (starEach [] X.env)).any (·.1) || (backToKw pos (keywordEach kws X.env)).any (·.1.isNone)) = false := by rfl) :
    PE X (.Call (.Name x p) [] kws pos) (tCallN n ks.length sp gV E tNil tk) := by
  obtain ⟨f, fd, ps, g, hm, hkp, hb, F⟩ := F.ex
  refine ⟨fun pins s σ H Q I h => wpAny_Call_Name_kw (ld_glob I hg hm ?_ hdb)⟩
  refine PySem.W.callWith_KW0 (h₀ := X.base) I.ok.mod.kin hkp hall ?_ hpl
  refine thn (hkw.run pos pins s σ H _ I h) fun ws s2 ⟨zs, H2, I2, rz, l1, l2, q2⟩ => ⟨I2.kIn, ?_⟩
  rw [hks]
  exact callG (ar := ⟨[], ks.zip ws⟩) F hG hr hk I2 (hb.to s2 [] ws I2.kIn l1 (rz.length.symm.trans l2)) (hb.rel .nil rz) (fun er s' z => hx pins σ H2 s2 er s' I2 z) q2
theorem pe_fqNS (F : FqN X.prog X.w X.K X.mg X.base (L2.CX X.prog X.w) k x n ks gV sp) (tks : Takes X W) (ha : PA X (e :: es) t) (hall : (backToKw pos (keywordEach kws X.env)).all (·.1.isSome) = true := by rfl) (hks : (backToKw pos (keywordEach kws X.env)).filterMap (·.1) = ks := by rfl)
    (hdb : (x == ("__debug__" : Str)) = false := by decide) (he : starEach (e :: es) X.env = (false, eval e X.env) :: starEach es X.env := by rfl)
    (hpl : ((backTo pos (starEach (e :: es) X.env)).any (·.1) || (backToKw pos (keywordEach kws X.env)).any (·.1.isNone)) = false := by rfl) :
    PE X (.Call (.Name x p) (e :: es) kws pos) (tCallNS n ks.length sp gV W t tk) := by
  obtain ⟨f, fd, ps, g, hm, hkp, hb, F⟩ := F.ex
  refine ⟨fun pins s σ H Q I h => wpAny_Call_Name_kw (ld_glob I hg hm ?_ hdb)⟩
  refine PySem.W.callWith_KW (h₀ := X.base) I.ok.mod.kin hkp hall (thn (ha.run pos pins s σ H _ I h) fun us s1 ⟨vs, H1, I1, r, q⟩ => ?_) hpl he
  refine thn (hkw.run pos pins s1 σ H1 _ I1 q) fun ws s2 ⟨zs, H2, I2, rz, l1, l2, q2⟩ => ⟨I2.kIn, ?_⟩
  rw [hks]
  exact callG (ar := ⟨us, ks.zip ws⟩) F hG hr hk I2 (hb.to s2 us ws I2.kIn (r.length.symm.trans l1) (rz.length.symm.trans l2)) (hb.rel r rz) (fun er s' z => passAt tks σ pins H2 s2 er s' I2 z) q2
end
end
end Fw
namespace Fw
open PySem PySem.Spec PyProof.Rows L2
/-! ### the law called, no repr being under way -/
section
variable {P : Program} {w : World} {K : PySem.W.Frag} {mg mb : Str → Option Value} {k : Nat} {fa a : Addr} {fd : FuncData} {x : Str} {sp : Sp} {s : Shared} {vs : List Value} {ns : List Int}
abbrev Fine (s : Shared) (r : Result) (s' : Shared) : Prop := r = .ok (.ret (.bool true)) ∧ OldK s.heap s'.heap ∧ s'.os = s.os ∧ AllBare s'.gens
/-- over an abstract heap that tracks the script at most -/
theorem law_over {H : Hp} (KX : K.In s.heap) (g1 : s.heap.Ns mainGlobals mg) (g2 : s.heap.Ns builtinsNs mb) (g3 : ∀ x : Str, x ≠ "__name__" → mb x = bootBuiltins x) (g4 : s.heap.NoLimit) (g5 : s.gens = #[])
    (hr : Room k callerA) (F : ∀ base : Heap, K.In base → base.Ns mainGlobals mg → FnG P w K mg base CX0 k fa fd [x] sp) (bd : ∀ (s : Shared) (u : Value), BindsTo s fd ⟨[u], []⟩ [(x, u)])
    (hO : Only H) (hok : HOk P w H s.heap) (dicts : ∀ b o es ep, s.heap.get? b = some o → o.data = .dict es ep → H b = none) (own : ∀ b o, K.lookup b = some o → H b = none)
    (hsp : sp [.ref a] H (fun v _ => v = .bl true) fun _ _ _ => False) : codeAny (model P w) callerA (.call (.ref fa) ⟨[.ref a], []⟩) (Fine s) s := by
  have nsB : ∀ {b : Addr} {m : Str → Option Value}, s.heap.Ns b m → (hidT s.heap H).Ns b m := by
    rintro b m ⟨o, es, ep, h1, h2, h3⟩
    exact ⟨o, es, ep, hidT_get h1 (dicts b o es ep h1 h2), h2, h3⟩
  have kB : K.In (hidT s.heap H) := fun b o z => hidT_get (KX b o z) (own b o z)
  obtain ⟨mc, l1, l2⟩ := g4
  have e0 : Env0 P w K mg (hidT s.heap H) callerA [] s H := ⟨rfl, ⟨kB, nsB g1, ⟨mb, nsB g2, g3⟩, ⟨mc, nsB l1, l2⟩⟩, fun _ _ z => of_hidT z, Nat.le_of_eq (hidT_size _ _), trivial, (fun _ z => nomatch z), hok, .of_eq g5⟩
  refine codeAny_mono ((F _ kB (nsB g1)).go callerA [] s H ⟨[.ref a], []⟩ [.ref a] [.ref a] _ _ hr rfl e0 (bd s _) (.cons rfl .nil) hsp) fun r s' z => ?_
  cases r with
  | error er => exact z.elim
  | ok fl =>
    cases fl with
    | next => exact z.elim
    | brk => exact z.elim
    | cont => exact z.elim
    | ret u =>
      obtain ⟨v, H', os, bare, un, hok', rv, rfl⟩ := z
      obtain rfl : u = Value.bool true := rv
      refine ⟨rfl, OldK.of_keep fun b o e => ?_, os, bare⟩
      rcases hO b with n | ⟨ob, xs, n⟩
      · exact un.keep b o e n (fun z => nomatch z) (fun z => nomatch z)
      · have q1 := (hok b _ n).1
        have q2 := (hok' b _ (un.frzs b ob _ n)).1
        rw [e] at q1
        cases q1
        exact q2
theorem law_callG (KX : K.In s.heap) (g1 : s.heap.Ns mainGlobals mg) (g2 : s.heap.Ns builtinsNs mb) (g3 : ∀ x : Str, x ≠ "__name__" → mb x = bootBuiltins x) (g4 : s.heap.NoLimit) (g5 : s.gens = #[])
    (ha : s.heap.get? a = some { cls := .type "list", data := .seq vs.toArray }) (hi : IntsAre vs ns) (hl : ns.length ≤ sizeLine) (hr : Room k callerA)
    (F : ∀ base : Heap, K.In base → base.Ns mainGlobals mg → FnG P w K mg base CX0 k fa fd [x] sp) (bd : ∀ (s : Shared) (u : Value), BindsTo s fd ⟨[u], []⟩ [(x, u)])
    (hsp : ∀ H : Hp, Only H → SqL K H a (ns.map V.int) → sp [.ref a] H (fun v _ => v = .bl true) fun _ _ _ => False) : codeAny (model P w) callerA (.call (.ref fa) ⟨[.ref a], []⟩) (Fine s) s := by
  have rv := vals_ints hi
  cases hk : K.lookup a with
  | some o =>
    have z := (KX a o hk).symm.trans ha
    cases z
    have hO : Only (fun _ => none) := fun _ => .inl rfl
    refine law_over (H := fun _ => none) KX g1 g2 g3 g4 g5 hr F bd hO (fun b u z => nomatch z) (fun _ _ _ _ _ _ => rfl) (fun _ _ _ => rfl) (hsp _ hO (.inr ⟨_, vs.toArray, _, hk, rfl, rfl, rfl, ?_, by simpa using rv⟩))
    rw [List.size_toArray, hi.length]
    exact hl
  | none =>
    let u0 : HO := .frz { cls := .type "list", data := .seq vs.toArray } (.lst (ns.map V.int))
    have hO : Only (fun b => if b = a then some u0 else none) := fun b => by
      by_cases q : b = a
      · exact .inr ⟨_, _, if_pos q⟩
      · exact .inl (if_neg q)
    refine law_over (H := fun b => if b = a then some u0 else none) KX g1 g2 g3 g4 g5 hr F bd hO (fun b u z => ?_) (fun b o es ep e d => ?_) (fun b o e => ?_) (hsp _ hO (.inl (.inr ⟨_, if_pos rfl⟩)))
    · by_cases q : b = a
      · subst q
        cases (if_pos rfl).symm.trans z
        exact ⟨ha, by rw [List.length_map]; exact hl, vs, _, rv, ha⟩
      · cases (if_neg q).symm.trans z
    · by_cases q : b = a
      · subst q
        rw [ha] at e
        cases e
        exact nomatch (show Data.seq vs.toArray _ = Data.dict es ep from d)
      · exact if_neg q
    · by_cases q : b = a
      · rw [q, hk] at e
        cases e
      · exact if_neg q
end
theorem walk_ofG {l : PySem.W.OpenLaw} {n k : Nat} {q : Program} {loose : List Str} {XP : (Str → Option Value) → Heap → Prop} {YP : World → Heap → Prop} {d : DefRec} {x : Str} (h1 : l.most = some n) (h2 : n ≤ sizeLine) (h3 : d.params.defaults = []) (hr : Room k callerA)
    (F : ∀ (w : World) (mg : Str → Option Value) (fa : Addr) (h : Heap), YP w h → h.Ns mainGlobals mg → mg d.name = some (.ref fa) → ∃ (K : PySem.W.Frag) (fd : FuncData) (sp : Sp), K.In h ∧ (∀ (s : Shared) (u : Value), BindsTo s fd ⟨[u], []⟩ [(x, u)]) ∧
        (∀ (H : Hp) (a : Addr) (ns : List Int), ns.length ≤ n → Only H → SqL K H a (ns.map V.int) → sp [.ref a] H (fun v _ => v = .bl true) fun _ _ _ => False) ∧ ∀ base : Heap, K.In base → base.Ns mainGlobals mg → FnG l.prog w K mg base CX0 k fa fd [x] sp) :
    PySem.W.WalkO q loose XP YP l.row.toRowW d [] (fun f vs => PySem.call f vs) := by
  refine Att.attach_call h1 h3 fun w s0 s1 mg mb fa o pm cd doc a vs ns G Y ho hd hcd hmg hobj hints hlen hg => ?_
  obtain ⟨K, fd, sp, KX, hb, hsp, hF⟩ := F w mg fa _ Y G.T.g hmg
  exact law_callG KX G.T.g G.T.b G.T.builtins G.T.nolimit hg hobj hints (Nat.le_trans hlen h2) hr hF hb fun H hO hS => hsp H a ns hlen hO hS
/-! ### repr of data -/
mutual
theorem Dp.noDict {K : PySem.W.Frag} {H : Hp} : ∀ {d : PyData} {v : V}, Dp K H v d → d.hasDict = false
  | _, _, .non => by simp only [PyData.hasDict]
  | _, _, .bl _ => by simp only [PyData.hasDict]
  | _, _, .int _ => by simp only [PyData.hasDict]
  | _, _, .str _ => by simp only [PyData.hasDict]
  | _, _, .lst _ r => by simp only [PyData.hasDict]; exact DpAll.noDict r
  | _, _, .tup _ r => by simp only [PyData.hasDict]; exact DpAll.noDict r
theorem DpAll.noDict {K : PySem.W.Frag} {H : Hp} : ∀ {ds : List PyData} {vs : List V}, DpAll K H vs ds → PyData.hasDictAll ds = false
  | _, _, .nil => by simp only [PyData.hasDictAll]
  | _, _, .cons a b => by simp only [PyData.hasDictAll, Dp.noDict a, DpAll.noDict b, Bool.or_self]
end
def rRepr (K : PySem.W.Frag) : List V → Hp → VK → Prop := fun xs H Q => ∃ x d, xs = [x] ∧ Dp K H x d ∧ d.showable = true ∧ d.depth ≤ 150 ∧ d.shown.length ≤ sizeLine ∧ Q (.str d.shown) H
theorem call_reprU {X : Cx} {K : PySem.W.Frag} {k : Nat} (hG : X.A.guards = some []) (hr : Room k X.A) (hK : X.K = K := by rfl) : CallR X (.builtin "repr") (rRepr K) := by
  subst hK
  intro pins s σ H xs us Q I r h
  obtain ⟨x, d, rfl, hd, hs, hdp, hz, q⟩ := h
  obtain ⟨u, rfl, ru⟩ := vals1 r
  obtain ⟨as, rd⟩ := Dp.reads I d x u hd ru
  have nd := Dp.noDict hd
  have un := hr.un
  cases hd with
  | non => cases (show u = Value.none from ru); exact PySem.P.repr_of_none ⟨.str _, H, I.tok _, ⟨_, rfl⟩, by simpa only [PyData.shown] using q⟩
  | bl b => cases (show u = Value.bool b from ru); exact PySem.P.repr_of_bool ⟨.str _, H, I.tok _, ⟨_, rfl⟩, by simpa only [PyData.shown] using q⟩
  | int i =>
    obtain ⟨t, rfl⟩ := (show ∃ t, u = Value.int i t from ru)
    exact PySem.P.repr_of_int (by simpa [PyData.showable] using hs) ⟨.str _, H, I.tok _, ⟨_, rfl⟩, by simpa only [PyData.shown] using q⟩
  | str z =>
    obtain ⟨t, rfl⟩ := (show ∃ t, u = Value.str z t from ru)
    exact PySem.P.repr_of_str ⟨.str _, H, I.tok _, ⟨_, rfl⟩, by simpa only [PyData.shown] using q⟩ (by simpa only [PyData.shown] using hz)
  | @lst a xs ds _ _ =>
    cases (show u = Value.ref a from ru)
    exact repr_of_reads' rd hs (fun z => by rw [nd] at z; cases z) hG (by omega) (fun _ _ z => z) (fun h' t tk kp => ⟨.str _, H, I.kept (t' := tk) kp, ⟨_, rfl⟩, q⟩) hz
  | @tup a xs ds _ _ =>
    cases (show u = Value.ref a from ru)
    exact repr_of_reads' rd hs (fun z => by rw [nd] at z; cases z) hG (by omega) (fun _ _ z => z) (fun h' t tk kp => ⟨.str _, H, I.kept (t' := tk) kp, ⟨_, rfl⟩, q⟩) hz
end Fw
namespace Fw
open PySem PySem.Spec PyProof.Rows L2
/-! ### how long repr of data is -/
theorem textFrom_most : ∀ (ts : List Str) (k : Nat) (acc : Str), (textFrom k acc ts).length ≤ acc.length + piled ts
  | [], k, acc => by rw [textFrom, piled_nil]; omega
  | t :: r, k, acc => by
    have h := textFrom_most r (k + 1) (acc ++ (if k > 0 then ", " else "" : String) ++ t)
    have e : (acc ++ (if k > 0 then ", " else "" : String) ++ t).length ≤ acc.length + 2 + t.length := by
      rw [strLen_append, strLen_append]
      have : (Str.ofString (if k > 0 then ", " else "")).length ≤ 2 := by split <;> decide
      omega
    rw [textFrom, piled_cons]
    omega
theorem listText_most (ts : List Str) : (listText ts).length ≤ piled ts + 2 := by
  have h := textFrom_most ts 0 "["
  unfold listText
  rw [strLen_append]
  have e1 : (Str.ofString "[").length = 1 := by decide
  have e2 : (Str.ofString "]").length = 1 := by decide
  omega
theorem tupleText_most (ts : List Str) : (tupleText ts).length ≤ piled ts + 3 := by
  unfold tupleText
  rw [strLen_append, strLen_append]
  have e1 : (Str.ofString "(").length = 1 := by decide
  have e2 : (Str.ofString (if (ts.length == 1) = true then ",)" else ")")).length ≤ 2 := by split <;> decide
  have e3 : (Str.join ", " ts).length ≤ piled ts := by
    cases ts with
    | nil => decide
    | cons t r =>
      have := join_length_add (t :: r) (by simp)
      omega
  omega
mutual
/-- numbers of at most 60 figures, texts of plain signs -/
def plain : PyData → Bool
  | .none => true
  | .bool _ => true
  | .int i => decide (i.natAbs < 10 ^ 60)
  | .str x => x.cps.toList.all fun c => decide (c < 128)
  | .list xs => plains xs
  | .tuple xs => plains xs
  | .dict _ => false
def plains : List PyData → Bool
  | [] => true
  | x :: xs => plain x && plains xs
end
mutual
/-- as many signs as repr of d has at most -/
def bulk : PyData → Nat
  | .none => 6
  | .bool _ => 6
  | .int _ => 62
  | .str x => 10 * x.length + 2
  | .list xs => 3 + bulks xs
  | .tuple xs => 3 + bulks xs
  | .dict _ => 0
def bulks : List PyData → Nat
  | [] => 0
  | x :: xs => bulk x + 2 + bulks xs
end
theorem log_of {n : Nat} (h : n < 10 ^ 60) : n.log2 < 1920 := by
  by_cases z : n = 0
  · subst z; decide
  · refine (Nat.log2_lt z).mpr (Nat.lt_of_lt_of_le h ?_)
    exact Nat.le_of_ble_eq_true (by decide +kernel)
mutual
theorem plain_shown : ∀ {d : PyData}, plain d = true → d.showable = true ∧ d.shown.length ≤ bulk d
  | .none, _ => ⟨by simp only [PyData.showable], by simp only [PyData.shown, bulk]; decide⟩
  | .bool b, _ => ⟨by simp only [PyData.showable], by simp only [PyData.shown, bulk]; cases b <;> decide⟩
  | .int i, h => by
    have h1 : i.natAbs < 10 ^ 60 := by simpa [plain] using h
    refine ⟨by simpa [PyData.showable] using log_of h1, ?_⟩
    have := int_text_length_le10 (k := 60) (by decide) h1
    simp only [PyData.shown, bulk]
    show (Str.ofString (toString i)).length ≤ _
    rw [PySem.ofString_length]
    omega
  | .str x, h => by
    refine ⟨by simp only [PyData.showable], ?_⟩
    simp only [PyData.shown, bulk]
    refine StrLaws.reprText_len x fun c hc => ?_
    have h1 := List.all_eq_true.mp (by simpa only [plain] using h) c hc
    have h2 : c < 128 := by simpa using h1
    exact Nat.lt_of_lt_of_le h2 (by decide)
  | .list xs, h => by
    obtain ⟨h1, h2⟩ := plains_shown (ds := xs) (by simpa only [plain] using h)
    refine ⟨by simpa only [PyData.showable] using h1, ?_⟩
    simp only [PyData.shown, bulk]
    have := listText_most (PyData.shownAll xs)
    omega
  | .tuple xs, h => by
    obtain ⟨h1, h2⟩ := plains_shown (ds := xs) (by simpa only [plain] using h)
    refine ⟨by simpa only [PyData.showable] using h1, ?_⟩
    simp only [PyData.shown, bulk]
    have := tupleText_most (PyData.shownAll xs)
    omega
  | .dict _, h => by simp [plain] at h
theorem plains_shown : ∀ {ds : List PyData}, plains ds = true → PyData.showableAll ds = true ∧ piled (PyData.shownAll ds) ≤ bulks ds
  | [], _ => ⟨by simp only [PyData.showableAll], by simp only [PyData.shownAll, piled_nil]; omega⟩
  | d :: ds, h => by
    have h' : plain d = true ∧ plains ds = true := by simpa [plains] using h
    obtain ⟨a1, a2⟩ := plain_shown h'.1
    obtain ⟨b1, b2⟩ := plains_shown h'.2
    refine ⟨by simp only [PyData.showableAll, a1, b1, Bool.and_self], ?_⟩
    simp only [PyData.shownAll, piled_cons, bulks]
    omega
end
theorem plains_append : ∀ (ds es : List PyData), plains (ds ++ es) = (plains ds && plains es)
  | [], es => by simp [plains]
  | d :: ds, es => by simp [plains, plains_append ds es, Bool.and_assoc]
theorem bulks_append : ∀ (ds es : List PyData), bulks (ds ++ es) = bulks ds + bulks es
  | [], es => by simp [bulks]
  | d :: ds, es => by simp [bulks, bulks_append ds es]; omega
theorem depthAll_append : ∀ (ds es : List PyData), PyData.depthAll (ds ++ es) = max (PyData.depthAll ds) (PyData.depthAll es)
  | [], es => by simp [PyData.depthAll]
  | d :: ds, es => by simp [PyData.depthAll, depthAll_append ds es, Nat.max_assoc]
section
variable {K : PySem.W.Frag} {H : Hp} {Q : VK} {v : V} {d : PyData}
theorem x_repr (h : Dd K H v d) (hp : plain d = true) (hd : d.depth ≤ 150) (hb : bulk d ≤ 10000000) (q : Q (.str d.shown) H) : rRepr K [v] H Q :=
  ⟨v, d, rfl, h.dp, (plain_shown hp).1, hd, Nat.le_trans (plain_shown hp).2 (Nat.le_trans hb (by rw [sizeLine_eq]; decide)), q⟩
theorem x_reprB {b : Bool} (q : Q (.str (if b then "True" else "False")) H) : rRepr K [.bl b] H Q :=
  x_repr (.bl b) rfl (by simp [PyData.depth]) (by simp [bulk]) (by simpa only [PyData.shown] using q)
theorem x_reprI {i : Int} (h : i.natAbs < 10 ^ 60) (q : Q (.str (toString i : String)) H) : rRepr K [.int i] H Q :=
  x_repr (.int i) (by simpa [plain] using h) (by simp [PyData.depth]) (by simp [bulk]) (by simpa only [PyData.shown] using q)
/-! ### the type of data -/
def tyN : PyData → String
  | .none => "NoneType"
  | .bool _ => "bool"
  | .int _ => "int"
  | .str _ => "str"
  | .list _ => "list"
  | .tuple _ => "tuple"
  | .dict _ => "dict"
theorem TyX.sqT {a : Addr} {xs : List V} (h : SqT K H a xs) : TyX K H (.ref a) (.type "tuple") := by
  rcases h with (h | ⟨o, h⟩) | ⟨o, its, n, h1, h2, _⟩
  · exact .base (.tup h)
  · exact .fTuple h
  · exact .kTuple h1 h2
theorem Dd.ty (h : Dd K H v d) : TyX K H v (.type (tyN d)) := by
  cases h with
  | non => exact .base .non
  | bl b => exact .base (.bl b)
  | int i => exact .base (.int i)
  | str z => exact .base (.str z)
  | lst h _ => exact .base (.lst h)
  | tup h _ => exact TyX.sqT h
theorem x_isiD {n : String} {b : Bool} (h : Dd K H v d) (e : kitB (tyN d) n = some b) (q : Q (.bl b) H) : uIsi K [v, .ty n] H Q := x_isi h.ty e q
theorem x_isiQ {n : String} {a : Addr} {xs : List V} {b : Bool} (h : SqT K H a xs) (e : kitB "tuple" n = some b) (q : Q (.bl b) H) : uIsi K [.ref a, .ty n] H Q := x_isi (TyX.sqT h) e q
theorem x_isiDT {t : Addr} {cs : List V} {us : List Value} {b : Bool} (h : Dd K H v d) (hT : H t = some (.tup cs)) (k : Paired ClsV cs us) (e : PySem.W.kitAny K (.type (tyN d)) us = some b) (q : Q (.bl b) H) : uIsi K [v, .ref t] H Q :=
  .inr ⟨v, t, cs, _, us, b, rfl, hT, k, h.ty, e, q⟩
end
/-! ### data that a call made -/
section
variable {K : PySem.W.Frag} {H0 H H' : Hp} {Ms M0 : List Addr} {L : List (Addr × HO)} {R : List Fa} {b : Addr} {o o' : HO} {v : V} {d : PyData} {vs : List V} {ds : List PyData}
theorem av_set {n : Nat} (hL : L[n]? = some (b, o)) : av (L.set n (b, o')) M0 = av L M0 := by
  have hm : (L.set n (b, o')).map (·.1) = L.map (·.1) := by
    rw [List.map_set]
    apply List.ext_getElem?
    intro i
    rw [List.getElem?_set]
    split
    · rename_i e
      subst e
      rw [List.getElem?_map, hL]
      split
      · rfl
      · rename_i h; exact absurd (by rw [List.length_map]; exact (List.getElem?_eq_some_iff.mp hL).1) h
    · rfl
  unfold av
  rw [hm]
theorem W.callD (w : W K H0 Ms M0 H L R) (n : Nat) (hL : L[n]? = some (b, o)) (e : Ex [b] H H') (h' : H' b = some o') (hd : Rp K (av L M0) H' v d) : W K H0 Ms M0 H' (L.set n (b, o')) (.rp v d :: R) :=
  (w.call n hL e h').add (by rw [av_set hL]; exact hd)
theorem W.more (w : W K H0 Ms M0 H L (.rp v d :: .al vs ds :: R)) : W K H0 Ms M0 H L (.al (vs ++ [v]) (ds ++ [d]) :: R) := by
  have h := (w.all 1 rfl).append (.cons (w.rp 0 rfl) .nil)
  exact ⟨w.ex, w.al, w.nd, w.cell, w.own, fun r hr => by
    rcases List.mem_cons.mp hr with rfl | hr
    · exact h
    · exact w.rep r (List.mem_cons_of_mem _ (List.mem_cons_of_mem _ hr))⟩
theorem w_tupleD {Q : VK} {p : Addr} (hw : W K H0 Ms M0 H L R) (h : Rp K (av L M0) H (.ref p) (.list ds)) (q : ∀ p H', H p = none → W K H0 Ms M0 H' L (.rp (.ref p) (.tuple ds) :: R) → Q (.ref p) H') : uTuple K [.ref p] H Q := by
  obtain ⟨xs, hx, rx⟩ := Rp.unL h
  exact ⟨p, xs, rfl, .inl ⟨SqL.of hx, fun l hl => q l _ hl (hw.newTup hl rx)⟩⟩
theorem w_listD {Q : VK} {p : Addr} (hw : W K H0 Ms M0 H L R) (h : Rp K (av L M0) H (.ref p) (.tuple ds)) (q : ∀ p H', H p = none → W K H0 Ms M0 H' L (.rp (.ref p) (.list ds) :: R) → Q (.ref p) H') : uList K [.ref p] H Q := by
  obtain ⟨xs, hx, rx⟩ := Rp.unT h
  exact ⟨p, xs, rfl, .inr hx, fun l hl => q l _ hl (hw.newLst hl rx)⟩
theorem x_ixDL {Q : VK} {p : Addr} {m : Int} (h : Rp K M0 H (.ref p) (.list ds)) (h0 : 0 ≤ m) (h1 : m < ds.length) (k : ∀ v d, ds[m.toNat]? = some d → Rp K M0 H v d → Q v H) : uIx K (.ref p) (.int m) H Q := by
  obtain ⟨xs, hx, hl, hw⟩ := Rp.walk h
  have hm : m.toNat < xs.length := by omega
  obtain ⟨d, h2, h3⟩ := hw m.toNat _ (List.getElem?_eq_getElem hm)
  exact x_ixL (SqL.of hx) (at_get h0 (by omega)) (k _ d h2 h3)
theorem x_ixDT {Q : VK} {p : Addr} {m : Int} (h : Rp K M0 H (.ref p) (.tuple ds)) (h0 : 0 ≤ m) (h1 : m < ds.length) (k : ∀ v d, ds[m.toNat]? = some d → Rp K M0 H v d → Q v H) : uIx K (.ref p) (.int m) H Q := by
  obtain ⟨xs, hx, hl, hw⟩ := Rp.walkT h
  have hm : m.toNat < xs.length := by omega
  obtain ⟨d, h2, h3⟩ := hw m.toNat _ (List.getElem?_eq_getElem hm)
  exact x_ixT hx (at_get h0 (by omega)) (k _ d h2 h3)
theorem W.addA (w : W K H0 Ms M0 H L R) (h : RpAll K (av L M0) H vs ds) : W K H0 Ms M0 H L (.al vs ds :: R) := w.addF (r := .al vs ds) h
end
/-! ### a written dict's keys -/
def keyOf (e : DictEntry) : Option Str := match e.key with
  | .str x _ => some x
  | _ => none
def dkeys (K : PySem.W.Frag) (a : Addr) : Option (List Str) := match K.lookup a with
  | some ⟨_, _, .dict es _, _⟩ => es.toList.mapM keyOf
  | _ => none
theorem find_keys (z : Str) : ∀ {es : List DictEntry} {ks : List Str}, es.mapM keyOf = some ks → (es.find? (·.key.isStr z)).isSome = decide (z ∈ ks) ∧ es.any (·.refKey) = false
  | [], ks, h => by
    have : ks = [] := by simpa using h.symm
    subst this
    simp
  | e :: es, ks, h => by
    simp only [List.mapM_cons] at h
    cases hk : keyOf e with
    | none => rw [hk] at h; cases h
    | some x =>
      cases hr : es.mapM keyOf with
      | none => rw [hk, hr] at h; cases h
      | some r =>
        rw [hk, hr] at h
        have e1 : ks = x :: r := (Option.some.inj h).symm
        subst e1
        obtain ⟨i1, i2⟩ := find_keys z hr
        obtain ⟨hash, key, val⟩ := e
        unfold keyOf at hk
        cases key with
        | str y t =>
          cases (Option.some.inj hk)
          refine ⟨?_, ?_⟩
          · rw [List.find?_cons]
            show (match (x == z) with | true => _ | false => _ : Option DictEntry).isSome = _
            by_cases q : x = z
            · subst q; simp
            · rw [show (x == z) = false from by simpa using q]
              show (es.find? (·.key.isStr z)).isSome = _
              rw [i1]
              have q' : ¬ z = x := fun w => q w.symm
              simp [q']
          · rw [List.any_cons, i2]; rfl
        | _ => cases hk
theorem ns_keys {K : PySem.W.Frag} {a : Addr} {ks : List Str} (h : dkeys K a = some ks) (z : Str) : ∃ r, PySem.W.nsIn K a z = some r ∧ r.isSome = decide (z ∈ ks) := by
  unfold dkeys at h
  unfold PySem.W.nsIn
  split at h
  · rename_i c d es n sl hl
    obtain ⟨h1, h2⟩ := find_keys z h
    rw [hl]
    simp only
    cases hf : es.toList.find? (·.key.isStr z) with
    | some e => exact ⟨_, rfl, by rw [← h1, hf]; rfl⟩
    | none =>
      simp only
      rw [h2]
      exact ⟨none, by simp, by rw [← h1, hf]; rfl⟩
  · cases h
def rInK (K : PySem.W.Frag) (w : World) : R2 := fun x y H Q => ∃ (d : Addr) (es : Array DictEntry) (n : Nat) (z : Str) (r : Option Value), KDict K w d es n ∧ x = .str z ∧ y = .ref d ∧ PySem.W.nsIn K d z = some r ∧ Q (.bl r.isSome) H
theorem op_inK {X : Cx} {K : PySem.W.Frag} {w : World} (hK : X.K = K := by rfl) (hw : X.w = w := by rfl) : OpR X (compareOp .In) (rInK K w) := by
  subst hK hw
  intro pins s σ H x y v u Q I rx ry h
  obtain ⟨d, es, n, z, r, D, h1, h2, h3, q⟩ := h
  exact op_in_kd D pins s σ H x y v u Q I rx ry ⟨z, r, h1, h2, h3, q⟩
theorem x_inK {K : PySem.W.Frag} {w : World} {H : Hp} {Q : VK} {d : Addr} {es : Array DictEntry} {n : Nat} {ks : List Str} {z : Str} (D : KDict K w d es n) (h : dkeys K d = some ks) (q : Q (.bl (decide (z ∈ ks))) H) : rInK K w (.str z) (.ref d) H Q := by
  obtain ⟨r, h1, h2⟩ := ns_keys h z
  exact ⟨d, es, n, z, r, D, rfl, rfl, h1, by rw [h2]; exact q⟩
theorem inV_strs (z : Str) : ∀ ks : List Str, inV (.str z) (ks.map V.str) = decide (z ∈ ks)
  | [] => by simp [inV]
  | k :: r => by
    have h := inV_strs z r
    unfold inV at h ⊢
    rw [List.map_cons, List.any_cons, h]
    show ((k == z) || _) = _
    by_cases q : k = z
    · subst q; simp
    · have q' : ¬ z = k := fun w => q w.symm
      simp [q, q']
/-! ### lists of texts compared -/
theorem u64 {k : Nat} {A : Around} (r : Room k A) : A.units + 64 < cLine := by have := r.un; omega
theorem x_eqL {K : PySem.W.Frag} {H : Hp} {Q : VK} {p q : Addr} {xs : List V} (h1 : SqL K H p xs) (h2 : SqL K H q xs) (hf : xs.all flatB = true) (k : Q (.bl true) H) : rEqV K (.ref p) (.ref q) H Q := by
  refine ⟨1, by decide, .inl ⟨p, q, xs, xs, rfl, rfl, h1, h2, ?_⟩, k⟩
  clear h1 h2
  induction xs with
  | nil => exact .nil
  | cons x r ih =>
    rw [List.all_cons] at hf
    obtain ⟨h1, h2⟩ := Bool.and_eq_true_iff.mp hf
    exact .cons (.inl ⟨rfl, h1⟩) (ih h2)
theorem lay_strs : ∀ ns : List Str, PyData.canLayAll0 (ns.map PyData.str) = ns.all fun x => PyData.canLay0 (.str x)
  | [] => by simp [PyData.canLayAll0]
  | n :: r => by simp [PyData.canLayAll0, lay_strs r]
theorem depth_strs : ∀ ns : List Str, PyData.depthAll (ns.map PyData.str) ≤ 1
  | [] => by simp [PyData.depthAll]
  | n :: r => by have := depth_strs r; simp [PyData.depthAll, PyData.depth]; omega
theorem eqv_strs : ∀ ns ms : List Str, PyData.eqvAll (ns.map PyData.str) (ms.map PyData.str) = decide (ns = ms)
  | [], [] => by simp [PyData.eqvAll]
  | [], _ :: _ => by simp [PyData.eqvAll]
  | _ :: _, [] => by simp [PyData.eqvAll]
  | n :: r, m :: t => by
    simp [PyData.eqvAll, PyData.eqv, eqv_strs r t]
    congr 1
end Fw
namespace Fw
open PySem PySem.Spec PyProof.Rows L2 L2H HotX
/-! ### try .. except X as n, its suite raising -/
section
variable {X : Cx} {Wout : WX} {i : Nat} {n : Str} {pos : Pos} {pins : List (Addr × Obj)} {A' : Around} {u : Value} {s' : Shared} {E2 E3 E4 : Value → Shared → Prop}
/-- an exception in the air at a suite's end: the name goes, then it flies on -/
theorem leave_as (hs : X.stack = X.env :: X.outer) (hf : X.env.frame = some X.env.locals) (hex : X.ex = []) (hN : X.N.Nodup) (hi : X.N[i]? = some n) (hln : X.env.kindOf n = some .local) (hA : A'.frames = some (X.env :: X.outer)) (tk : ∀ u s, XE X Wout u s → E2 u s)
    {a : Addr} {B : Heap} {sI : Shared} {σ : L2.St} {H : Hp} {cls : Value} {d : Option Addr} (J : Inv X pins σ H sI) (nb : ∀ b o, sI.heap.get? b = some o → b ∉ frs X.stack → B.get? b = some o) (up : sI.heap.UpToSlots s'.heap)
    (sky : Sky B (X.env :: X.outer) a (Zc cls d) X.env.locals s'.heap) (na : H a = none) (os : s'.os = sI.os) (ag : AllBare s'.gens) (w : Wout cls d (σ.set i none) H) :
    wpAny (model X.prog X.w) A' (noteFrame (.ref a) X.env) (fun _ s3 => wpAny (model X.prog X.w) A' (do bindName X.env n .none; unbindBehindTheSuite X.env n pos) (fun _ s4 => wpAny (model X.prog X.w) A' (passOn "try.except-as" (.ref a) X.env : Sem Flow) (fun _ _ => False) E2 s4) E3 s3) E4 s' := by
  have go : ∀ h1, HandSPX.HeldZ B (X.env :: X.outer) a (Zc cls d) X.env.locals h1 → s'.heap.UpToSlots h1 →
      wpAny (model X.prog X.w) A' (do bindName X.env n .none; unbindBehindTheSuite X.env n pos) (fun _ s4 => wpAny (model X.prog X.w) A' (passOn "try.except-as" (.ref a) X.env : Sem Flow) (fun _ _ => False) E2 s4) E3 { s' with heap := h1 } := by
    intro h1 held up1
    have J1 : Inv X pins σ H { s' with heap := h1 } := J.landed nb held.1 (up.trans up1) os ag
    obtain ⟨st1, newA, ff1, oe, vs, T, oT, ts, gA, zA, dA, tb, newT, neT, gT, dT, fl⟩ := id held
    have nT : H T = none := (J.inGround nb).gone newT
    have off : ∀ {b : Addr} {o : Obj} {fv : Array Value}, h1.get? b = some o → o.data = .fields fv → b ∉ frs (X.env :: X.outer) := by
      intro b o fv e dd m
      obtain ⟨_, o', e', hno⟩ := ff1.mem m
      cases e.symm.trans e'
      exact hno fv dd
    have offA := off gA dA
    have offT := off gT dT
    have isL : X.env.locals ∈ frs (X.env :: X.outer) := List.mem_filterMap.mpr ⟨_, List.mem_cons_self, hf⟩
    have isF : ∀ {b : Addr}, b ∈ X.fs → b ∈ frs (X.env :: X.outer) := by
      intro b m
      obtain ⟨e, he, q⟩ := List.mem_filterMap.mp m
      exact List.mem_filterMap.mpr ⟨e, List.mem_cons_of_mem _ he, q⟩
    -- the exception and its traceback's entry as pins
    have J2 : Inv X ((a, oe) :: (T, oT) :: pins) σ H { s' with heap := h1 } := by
      refine ⟨J1.ok, J1.os, J1.bare, J1.base, J1.loc, J1.cell, J1.free, J1.freeC, fun p hp => ?_, J1.hok, J1.len⟩
      rcases List.mem_append.mp hp with hp | hp
      · exact J1.pin p (List.mem_append_left _ hp)
      rcases List.mem_cons.mp hp with rfl | hp
      · exact ⟨gA, na, (fun z => offA (by rw [show a = X.env.locals from z]; exact isL)), (fun z => offA (isF z)), fun v z => nomatch (dA.symm.trans z)⟩
      rcases List.mem_cons.mp hp with rfl | hp
      · exact ⟨gT, nT, (fun z => offT (by rw [show T = X.env.locals from z]; exact isL)), (fun z => offT (isF z)), fun v z => nomatch (dT.symm.trans z)⟩
      · exact J1.pin p (List.mem_append_right _ hp)
    refine gone_ok J2 hN hi hln fun s4 J4 => ?_
    have p1 := J4.pin (a, oe) (List.mem_append_right _ List.mem_cons_self)
    have p2 := J4.pin (T, oT) (List.mem_append_right _ (List.mem_cons_of_mem _ List.mem_cons_self))
    have a4 : s4.heap.get? a = some oe := p1.1
    have t4 : s4.heap.get? T = some oT := p2.1
    have J5 : Inv X pins (σ.set i none) H s4 := ⟨J4.ok, J4.os, J4.bare, J4.base, J4.loc, J4.cell, J4.free, J4.freeC, fun p hp => J4.pin p (by
      rcases List.mem_append.mp hp with z | z
      · exact List.mem_append_left _ z
      · exact List.mem_append_right _ (List.mem_cons_of_mem _ (List.mem_cons_of_mem _ z))), J4.hok, J4.len⟩
    have apart : ∀ {b : Addr} {o : Obj}, sI.heap.get? b = some o → b ≠ a ∧ b ≠ T := by
      intro b o e
      by_cases m : b ∈ frs X.stack
      · rw [hs] at m
        exact ⟨fun z => offA (z ▸ m), fun z => offT (z ▸ m)⟩
      · have q := nb b o e m
        exact ⟨(fun z => nomatch (z ▸ q : B.get? a = some o).symm.trans newA), (fun z => nomatch (z ▸ q : B.get? T = some o).symm.trans newT)⟩
    obtain ⟨G, in1, in2⟩ := restrict s4.heap fun b => decide (b ≠ a ∧ b ≠ T)
    have fromG : ∀ b o, G.get? b = some o → s4.heap.get? b = some o ∧ b ≠ a ∧ b ≠ T := by
      intro b o e
      by_cases q : b ≠ a ∧ b ≠ T
      · exact ⟨(in1 b (decide_eq_true q)).symm.trans e, q⟩
      · exact nomatch (in2 b (decide_eq_false q)).symm.trans e
    have toG : ∀ b o, b ≠ a → b ≠ T → s4.heap.get? b = some o → G.get? b = some o := fun b o h1 h2 e => (in1 b (decide_eq_true ⟨h1, h2⟩)).trans e
    have J6 : Inv X pins (σ.set i none) H { s4 with heap := G } := by
      refine J5.less (fun b o e => (fromG b o e).1) toG ⟨oe, vs, a4, dA⟩ ⟨oT, ts, t4, dT⟩ na nT (fun b o e => ?_) fun p hp => apart (J.pin p hp).1
      obtain ⟨o', q⟩ := J.base.there b o e (by rw [hex]; exact fun z => nomatch z)
      exact apart q
    have noB : ∀ b, ¬ (b ≠ a ∧ b ≠ T) → (PySem.W.hideAll G (frs X.stack)).get? b = none := by
      intro b q
      cases e : (PySem.W.hideAll G (frs X.stack)).get? b with
      | none => rfl
      | some o => exact absurd (fromG b o (PySem.W.of_hideAll _ e)).2 q
    have held4 : HandSPX.HeldZ (PySem.W.hideAll G (frs X.stack)) (X.env :: X.outer) a (Zc cls d) X.env.locals s4.heap := by
      have ff := funFrames_none (B := PySem.W.hideAll G (frs X.stack)) J5.stack fun b m => PySem.W.hideAll_none _ m
      rw [hs] at ff
      exact ⟨fun b o e => (fromG b o (PySem.W.of_hideAll _ e)).1, noB a (fun z => z.1 rfl), by rw [hs]; exact ff, oe, vs, T, oT, ts, a4, zA, dA, tb, noB T (fun z => z.2 rfl), neT, t4, dT, fl⟩
    unfold PySem.passOn
    refine wpAny_bind (wpAny_field a4 dA tb ?_)
    rw [if_neg (show ¬ ((Value.ref T == Value.none) = true) from by simp)]
    have up4 : wpAny (model X.prog X.w) A' (setFlight (.ref a) X.env.frame) (fun _ s7 => wpAny (model X.prog X.w) A' (throw (.ref a) : Sem Flow) (fun _ _ => False) E2 s7) E2 s4 := by
      rw [hf]
      refine HandSPX.setFlight_onZ held4 fun h7 held7 up7 => wpAny_throw (tk _ _ ?_)
      refine ⟨a, PySem.W.hideAll G (frs X.stack), { s4 with heap := G }, pins, _, H, cls, d, rfl, J6, fun b o e m => PySem.W.hideAll_get _ e m, ?_, .inr (.inr (by rw [hs] at held7 ⊢; exact held7)), na, rfl, J5.bare, w⟩
      exact Heap.UpToSlots.trans (Heap.UpToSlots.of_keeps fun b o e => (fromG b o e).1) up7
    first
      | exact wpAny_bind (wpAny_pure (wpAny_bind up4))
      | exact wpAny_bind up4
  rcases sky with ⟨k1, k2, k3, oe, vs, e0, z0, d0, v1⟩ | fly | held
  · exact HandSPX.look_newZ Zc.steady hA k3 hf e0 k1 k2 d0 v1 z0 go
  · exact HandSPX.looks_onZ Zc.steady hA hf fly go
  · exact HandSPX.againZ hf held.2.2.2 (go s'.heap held (Heap.UpToSlots.refl _))
end
/-- what the clause wishes -/
def wAs (K : PySem.W.Frag) (c c0 : Value) (i : Nat) (ts : Addr → Option Addr → TS) (Wout : WX) (D : Ends) : WX := fun cls d σ H =>
  ∃ b, PySem.W.exmOne K cls c = some b ∧ (b = true → cls = c0 ∧ ∀ a, H a = none → ts a d { nx := fun σ' H' => D.nx (σ'.set i none) H', rt := D.rt, bk := fun σ' H' => D.bk (σ'.set i none) H', ct := fun σ' H' => D.ct (σ'.set i none) H' } (σ.set i (some (.ref a))) H) ∧
    (b = false → Wout cls d σ H)
/-- the name is gone behind it -/
def wGone (i : Nat) (W : WX) : WX := fun cls d σ H => W cls d (σ.set i none) H
abbrev asX (X : Cx) (a : Addr) (pn : List (Addr × Obj)) (xe : Value → Shared → Prop) : Cx := (suiteX X a pn).wish xe
section
variable {X : Cx} {x n : Str} {c : Value} {i : Nat} {body suite : List Stmt} {b₀ : Stmt} {np pos pos' : Pos} {tb : WX → TS} {ts : Addr → Option Addr → TS} {Wout : WX} {c0 : Value}
theorem ps_try_asX {K : PySem.W.Frag} (hK : X.K = K) (hs : X.stack = X.env :: X.outer) (hf : X.env.frame = some X.env.locals) (hex : X.ex = []) (hN : X.N.Nodup) (hi : X.N[i]? = some n) (hln : X.env.kindOf n = some .local) (hc : Names X x c)
    (hpa : ∀ hd : Option Value, PassesOwnAt (model X.prog X.w) (X.A.mark hd) X.A X.env X.xe) (tk : L2.Takes X Wout)
    (hb : ∀ (W : WX) (pn : List (Addr × Obj)) (xe : Value → Shared → Prop), L2N.Takes (X.tr pn xe) W → PassesOwn (model X.prog X.w) X.A X.env xe → PSs (X.tr pn xe) body (tb W))
    (hsu : ∀ (a : Addr) (oe : Obj) (d : Option Addr) (pn : List (Addr × Obj)) (xe : Value → Shared → Prop), L2N.Zn c0 d oe → Hot1 (X.A.mark (some (.ref a))) (a, oe) → L2.Takes (asX X a ((a, oe) :: pn) xe) (wGone i Wout) → PSs (asX X a ((a, oe) :: pn) xe) (b₀ :: suite) (ts a d)) :
    PS X (.Try body [.ExceptHandler (some (.Name x np)) (some n) (b₀ :: suite) pos'] [] [] pos) (fun D σ H => tb (wAs K c c0 i ts Wout D) D σ H) := by
  subst hK
  refine ⟨fun pins s σ H D I h => ?_⟩
  have ok := I.ok
  have hfr : X.A.frames = some (X.env :: X.outer) := ok.frames.trans (congrArg some hs)
  refine wpAny_Try_except (wpAny_mono ((hb (wAs X.K c c0 i ts Wout D) (X.pn ++ pins) (fun e s₁ => wpAny (model X.prog X.w) X.A (noteFrame e X.env) (fun _ s₂ => wpAny (model X.prog X.w) X.A (setFlight e none) (fun _ s₃ =>
    wpAny (model X.prog X.w) X.A (handleBy e X.env [.ExceptHandler (some (.Name x np)) (some n) (b₀ :: suite) pos']) (SP X pins D) X.xe s₃) X.xe s₂) X.xe s₁) (fun u s' xx => ?caught) PassesOwn.looking).run [] s σ H D (I.toTry _) h) (fun f s1 hsp => ?thru) (fun e s1 he => he))
  case thru =>
    cases f with
    | next =>
      obtain ⟨σ', H', J', q⟩ := hsp
      exact wpAny_execs_nil ⟨σ', H', J'.ofTry ok, q⟩
    | brk =>
      obtain ⟨σ', H', J', q⟩ := hsp
      exact ⟨σ', H', J'.ofTry ok, q⟩
    | cont =>
      obtain ⟨σ', H', J', q⟩ := hsp
      exact ⟨σ', H', J'.ofTry ok, q⟩
    | ret u =>
      obtain ⟨v, σ', H', J', r, q⟩ := hsp
      exact ⟨v, σ', H', J'.ofTry ok, r, q⟩
  case caught =>
    obtain ⟨a, B, sI, pins', σ', H', cls, d, rfl, J', nb, up, sky, na, os, ag, b, hb1, hyes, hno⟩ := xx
    have J : Inv X pins σ' H' sI := J'.ofTry ok
    rw [show (X.tr (X.pn ++ pins) _).stack = X.env :: X.outer from hs] at sky
    show wpAny (model X.prog X.w) X.A (noteFrame (.ref a) X.env) _ _ _
    refine L2N.Sky.land L2N.Zn.steady hfr hf sky fun h3 fl3 up3 => ?_
    have J3 : Inv X pins σ' H' { s' with heap := h3 } := J.landed nb fl3.1 (up.trans up3) os ag
    obtain ⟨oe3, vs3, he3, hz3, hd3⟩ := fl3.there
    have nfr : a ∉ frs (X.env :: X.outer) := fun hm => by
      obtain ⟨_, o', e', hnf⟩ := fl3.2.2.1.mem hm
      cases he3.symm.trans e'
      exact hnf _ hd3
    have nL : a ≠ X.env.locals := fun z => nfr (List.mem_filterMap.mpr ⟨X.env, List.mem_cons_self, by rw [hf, z]⟩)
    have nF : a ∉ X.fs := fun hm => by
      obtain ⟨e, he, q⟩ := List.mem_filterMap.mp hm
      exact nfr (List.mem_filterMap.mpr ⟨e, List.mem_cons_of_mem _ he, q⟩)
    have S3 := J3.suite he3 hd3 na nL nF
    refine wpAny_handleBy_cons (codeAny_handlers_test ?_) (by intro q; cases q)
    have LT : PySem.W.Looks (model X.prog X.w) h3 (typeOf (.ref a)) cls := fun A Q E s k q => wpAny_typeOf_ref (k _ _ he3) (by rw [hz3.1]; exact q)
    have LM := PySem.W.exm_one (M := model X.prog X.w) J3.kIn LT hb1
    have test : ∀ {Q : Value → Shared → Prop} {E : Value → Shared → Prop}, Q c { s' with heap := h3 } → wpAny (model X.prog X.w) (X.A.mark (some (.ref a))) (eval (.Name x np) X.env) Q E { s' with heap := h3 } := fun {Q E} q => by
      obtain ⟨hg, hdbg, hm | ⟨hm, hv, hnn⟩⟩ := hc
      · exact ld_glob (X := X.suite a ((a, oe3) :: (X.pn ++ pins))) S3 hg hm q hdbg
      · exact ld_blt (X := X.suite a ((a, oe3) :: (X.pn ++ pins))) S3 hg hm hv q hnn hdbg
    refine test (LM.here ?_)
    cases b with
    | false =>
      show wpAny _ X.A (handleBy (.ref a) X.env []) _ _ _
      refine wpAny_handleBy_nil ?_
      have fl4 : HandSPX.FlyingZ B (X.env :: X.outer) a (Zc cls d) h3 := flyingZ_imp (fun o z => z.zc) fl3
      obtain ⟨_, _, _, oe, vs, T, oT, ts', he, hz, hd, h1, hr⟩ := id fl3
      unfold PySem.passOn
      refine wpAny_bind (wpAny_field he hd h1 ?_)
      rw [if_neg (show ¬ ((Value.ref T == Value.none) = true) from by simp)]
      have fin : wpAny (model X.prog X.w) X.A (setFlight (.ref a) X.env.frame) (fun _ s4 => wpAny (model X.prog X.w) X.A (throw (.ref a) : Sem Flow) (SP X pins D) X.xe s4) X.xe { s' with heap := h3 } := by
        rw [hf]
        refine HandSPX.setFlight_upZ fl4 fun h4 hh4 up4 => wpAny_throw (tk _ _ ?_)
        exact ⟨a, B, sI, pins, σ', H', cls, d, rfl, J, nb, (up.trans up3).trans up4, .inr (.inr (by rw [hs]; exact hh4)), na, os, ag, hno rfl⟩
      first
        | exact wpAny_bind (wpAny_pure (wpAny_bind fin))
        | exact wpAny_bind fin
    | true =>
      obtain ⟨hcc, hyes2⟩ := hyes rfl
      subst hcc
      refine codeAny_handlers_suite_as (HandSPX.lands_againZ fl3 fun h4 fl4 up4 => ?_)
      obtain ⟨oe4, vs4, he4, hz4, hd4⟩ := fl4.there
      have J4 : Inv X pins σ' H' { s' with heap := h4 } := J.landed nb fl4.1 ((up.trans up3).trans up4) os ag
      have S4 := suiteX_of (J4.suite he4 hd4 na nL nF)
      refine store_ok (X := suiteX X a ((a, oe4) :: (X.pn ++ pins))) (v := .ref a) S4 hN hi (.inl hln) rfl (fun s5 S5 => ?_) (.inr hln)
      have hot : Hot1 (X.A.mark (some (.ref a))) (a, oe4) := ⟨rfl, vs4, hd4, hz4.2.2 vs4 hd4⟩
      refine wpAny_mono ((hsu a oe4 d (X.pn ++ pins) _ hz4 hot (fun u2 s2 x2 => ?_)).run [] s5 _ _ _ (S5.wish _) (hyes2 a na)) (fun f s6 hsp => ?_) (fun e6 s6 z => z)
      · obtain ⟨a2, B2, sI2, pn2, σ2, H2, cls2, d2, rfl, I2, nb2, up2, sky2, na2, os2, ag2, w2⟩ := x2
        have sky3 : Sky B2 (X.env :: X.outer) a2 (Zc cls2 d2) X.env.locals s2.heap := by rw [← hs]; exact sky2
        exact leave_as (A' := X.A.mark (some (.ref a))) (pos := pos') (E2 := notedBy (model X.prog X.w) (X.A.mark (some (.ref a))) X.env (cameBackBy (model X.prog X.w) X.A X.env X.xe)) hs hf hex hN hi hln hfr (fun u s xe => hpa _ _ _ (tk u s xe)) (unsuiteX I2.unwish ok) nb2 up2 sky3 na2 os2 ag2 w2
      · have hsp := SP.unwish hsp
        have fin : ∀ {σ6 : L2.St} {H6 : Hp} {Q : Shared → Prop}, Inv (suiteX X a ((a, oe4) :: (X.pn ++ pins))) [] σ6 H6 s6 → (∀ s7, Inv X pins (σ6.set i none) H6 s7 → Q s7) →
            wpAny (model X.prog X.w) X.A (do bindName X.env n .none; unbindBehindTheSuite X.env n pos') (fun _ s7 => Q s7) X.xe s6 := fun {σ6 H6 Q} S6 hq => gone_ok (unsuiteX S6 ok) hN hi hln hq
        cases f with
        | next =>
          obtain ⟨σ6, H6, S6, q6⟩ := hsp
          exact fin S6 fun s7 J7 => ⟨_, _, J7, q6⟩
        | brk =>
          obtain ⟨σ6, H6, S6, q6⟩ := hsp
          exact fin S6 fun s7 J7 => ⟨_, _, J7, q6⟩
        | cont =>
          obtain ⟨σ6, H6, S6, q6⟩ := hsp
          exact fin S6 fun s7 J7 => ⟨_, _, J7, q6⟩
        | ret u =>
          obtain ⟨v6, σ6, H6, S6, r6, q6⟩ := hsp
          exact fin S6 fun s7 J7 => ⟨_, _, _, J7, r6, q6⟩
end
theorem ps_raiseHA {X : Cx} {W : WX} {e : Expr} {t : L2.St → Hp → XK → Prop} {i : Nat} {n : Str} {np pos : Pos} {a : Addr} {oe : Obj} {cls0 : Value} (hot : Hot1 X.A (a, oe)) (hp : (a, oe) ∈ X.pn) (hcl : oe.cls = cls0) (hrs : Raises X cls0) (hN : X.N[i]? = some n) (hk : X.env.kindOf n = some .local) (tk : L2.Takes X W) (he : PMk5 X e t)
    (hd0 : (n == ("__debug__" : Str)) = false := by decide) : PS X (.Raise (some e) (some (.Name n np)) pos) (fun _ σ H => σ[i]? = some (some (.ref a)) ∧ t σ H fun cls d H' => W cls d σ H') := ps_raiseHF (p := (a, oe)) hot hp hcl hrs hN hk tk he hd0
theorem pe_ixDK {X : Cx} {K : PySem.W.Frag} {w : World} {W : WX} {a b : Expr} {ta tb : TE} {pos : Pos} (hc : X.calm = true) (tk : L2N.Takes X W) (ha : PE X a ta) (hb : PE X b tb) (hs : PlainIx b) (hK : X.K = K := by rfl) (hw : X.w = w := by rfl) : PE X (.Subscript a b pos) (tIxDX K w W ta tb) := hK ▸ hw ▸ pe_ixDXN hc tk ha hb hs
theorem raises_KeyError {X : Cx} : Raises X (.type "KeyError") := fun _ _ _ => ⟨PySem.W.Looks.of_pure (by kernel_rfl), PySem.W.Looks.of_pure (by kernel_rfl)⟩
theorem names_KeyError {X : Cx} (hg : Gl X "KeyError") (hm : X.mg "KeyError" = none) : Names X "KeyError" (.type "KeyError") := ⟨hg, by decide, .inr ⟨hm, by decide +kernel, by decide⟩⟩
end Fw
namespace Fw
open PySem PySem.Spec PyProof.Rows L2
/-! ### texts by their lengths -/
theorem rep_len (u : Str) (k : Nat) : (Txt.mul u (k : Int)).length = u.length * k := by
  have h := len_mul u (k : Int)
  rw [if_neg (by simp)] at h
  exact Int.ofNat_inj.mp (by rw [h]; simp)
/-- a text times a number -/
def rMulS : R2 := fun x y H Q => ∃ (u : Str) (k : Nat), x = .str u ∧ y = .int k ∧ k ≤ 100000 ∧ u.length * k ≤ 1000000 ∧ Q (.str (Txt.mul u k)) H
theorem op_mulS {X : Cx} : OpR X (binaryOp .Mult) rMulS := by
  intro pins s σ H x y v u Q I rx ry h
  obtain ⟨z, k, rfl, rfl, hk, hz, q⟩ := h
  obtain ⟨t, rfl⟩ := rx
  obtain ⟨t2, rfl⟩ := ry
  refine SB.mul ⟨?_, fun h1 h2 => ?_, fun h1 h2 => ?_⟩ fun t' j => ⟨.str _, H, I.tok _, ⟨_, rfl⟩, q⟩
  · rw [Bool.or_eq_false_iff]
    exact ⟨decide_eq_false (by omega), decide_eq_false (by omega)⟩
  · have hk1 : 1 ≤ k := by omega
    have hz2 : z.length ≤ 1000000 := Nat.le_trans (Nat.le_mul_of_pos_right _ (by omega)) hz
    intro hgt
    have h3 : (92233720368547 : Int) ≤ (2 ^ 63 - 1) / (k : Int) := Int.le_ediv_of_mul_le (by omega) (by omega)
    omega
  · rw [Int.toNat_natCast]
    exact decide_eq_false (by rw [sizeLine_eq]; omega)
/-- a text turned about -/
def RevS (x : V) (H : Hp) (Q : VK) : Prop := ∃ z : Str, x = .str z ∧ z.length ≤ 1000000 ∧ ∀ y : Str, y.length = z.length → Q (.str y) H
def tRevS (te : TE) : TE := fun σ H Q => te σ H fun x H1 => RevS x H1 Q
theorem pe_revS {X : Cx} {e : Expr} {te : TE} {k : Nat} {p1 p2 p3 pos : Pos} (he : PE X e te) : PE X (.Subscript e (.Slice none none (some (.UnaryOp .USub (.Constant (.int 1) k p1) p2)) p3) pos) (tRevS te) := by
  refine ⟨fun pins s σ H Q I h => Subscript_ (thn (he.run pins s σ H _ I h) fun v s1 ⟨x, H1, I1, r1, q1⟩ => ?_)⟩
  obtain ⟨z, rfl, hz, q⟩ := q1
  obtain ⟨t, rfl⟩ := r1
  have hst : PO X (some (.UnaryOp .USub (.Constant (.int 1) k p1) p2)) (tPart (tUn (rU fun i => .int (-i)) (tC (.int 1)))) := po_some (pe_un un_neg pe_int)
  refine wpAny_Slice (thn (po_none.run pins s1 σ H1 (fun o H2 => o = none ∧ H2 = H1) I1 ⟨rfl, rfl⟩) fun vl s2 ⟨l, H2, I2, pl, el, e2⟩ => ?_)
  subst el e2
  refine thn (po_none.run pins s2 σ H2 (fun o H3 => o = none ∧ H3 = H2) I2 ⟨rfl, rfl⟩) fun vu s3 ⟨u, H3, I3, pu, eu, e3⟩ => ?_
  subst eu e3
  refine thn (hst.run pins s3 σ H3 (fun o H4 => o = some (-1) ∧ H4 = H3) I3 ⟨1, rfl, -1, rfl, rfl, rfl⟩) fun vs s4 ⟨o, H4, I4, ps, eo, e4⟩ => ?_
  subst eo e4
  obtain ⟨l', rfl, hl⟩ := IsPart.raw pl
  obtain ⟨u', rfl, hu⟩ := IsPart.raw pu
  obtain ⟨st, rfl, hs1⟩ := IsPart.raw ps
  have el : l' = none := by cases l' with | none => rfl | some _ => cases hl
  have eu : u' = none := by cases u' with | none => rfl | some _ => cases hu
  subst el eu
  obtain ⟨tk, rfl⟩ : ∃ tk, st = some (-1, tk) := by
    cases st with
    | none => cases hs1
    | some p => obtain ⟨j, tk⟩ := p; cases hs1; exact ⟨tk, rfl⟩
  have I5 : Inv X pins σ H4 { s4 with heap := s4.heap.push { cls := .type "slice", data := .fields #[partValue none, partValue none, partValue (some (-1, tk))] } } := I4.kept (t' := s4.toks) fun b ob q => Heap.get?_push_of_some _ q
  refine tail_any (ops := [.str z t, .ref s4.heap.objs.size]) (typeIs_str _ z t) F.slot_str_getitem.lookup (wpAny_getItem_str_slice (l := none) (u := none) (st := some (-1, tk)) ⟨_, Heap.get?_push_size _ rfl, rfl, rfl⟩ rfl ?_) (by with_unfolding_all rfl)
  have hl := step_rev_len z tk
  have e : sliceMade z t none none (some (-1, tk)) = Made.str (Txt.sliceBy z none none (-1, tk)) := by
    unfold sliceMade Txt.sliceBy
    rw [if_neg (by simp), if_neg (by simp)]
  rw [e]
  exact ⟨by rw [sizeLine_eq, hl]; omega, .str _, H4, I5.tok _, ⟨_, rfl⟩, q _ hl⟩
section
variable {σ : L2.St} {H : Hp} {K : PySem.W.Frag} {Q : VK} {u z : Str} {n m : Nat} {i : Int} {te : TE}
theorem x_truB {b : Bool} {F : Bool → Prop} (k : F b) : ∃ c, TruV K (.bl b) H c ∧ F c := ⟨b, rfl, k⟩
theorem x_revS (k : te σ H fun x H1 => RevS x H1 Q) : tRevS te σ H Q := k
theorem x_revP (h : z.length ≤ 1000000) (k : ∀ y : Str, y.length = z.length → Q (.str y) H) : RevS (.str z) H Q := ⟨z, rfl, h, k⟩
theorem x_slP {lo hi : Option Int} (h : u.length ≤ 1000000) (k : ∀ y : Str, y.length ≤ u.length → Q (.str y) H) : uSl K (.str u) lo hi H Q :=
  .inr (.inl ⟨u, rfl, Nat.le_trans h (by rw [sizeLine_eq]; decide), k _ (cutS_length u lo hi)⟩)
theorem x_slX {lo hi : Option Int} (h : u.length ≤ 1000000) (k : Q (.str (cutS u lo hi)) H) : uSl K (.str u) lo hi H Q :=
  .inr (.inl ⟨u, rfl, Nat.le_trans h (by rw [sizeLine_eq]; decide), k⟩)
theorem x_addP (h : u.length + z.length ≤ 1000000) (k : ∀ y : Str, y.length = u.length + z.length → Q (.str y) H) : uAdd K (.str u) (.str z) H Q :=
  x_addS (Nat.le_trans h (by rw [sizeLine_eq]; decide)) (k _ (strLen_append u z))
theorem x_ixP (h : u.length ≤ 1000000) (h0 : 0 ≤ i) (h1 : i < u.length) (k : ∀ y : Str, y.length = 1 → Q (.str y) H) : uIx K (.str u) (.int i) H Q :=
  x_ixS (Nat.le_trans h (by rw [sizeLine_eq]; decide)) (at_get h0 (by rw [Array.length_toList]; exact h1)) (k _ rfl)
theorem x_mulP (h0 : 0 ≤ i) (h1 : i ≤ 100000) (h2 : u.length * i.toNat ≤ 1000000) (k : ∀ y : Str, y.length = u.length * i.toNat → Q (.str y) H) : rMulS (.str u) (.int i) H Q := by
  obtain ⟨j, rfl⟩ : ∃ j : Nat, i = j := ⟨i.toNat, by omega⟩
  rw [Int.toNat_natCast] at h2 k
  exact ⟨u, j, rfl, rfl, by omega, h2, k _ (rep_len u j)⟩
theorem x_upP (h : u.length ≤ 100000) (k : ∀ y : Str, y.length ≤ 3 * u.length → Q (.str y) H) : (fun (x : V) (xs : List V) (H : Hp) (Q : VK) => ∃ a, x = .str a ∧ xs = [] ∧ a.length ≤ 5592405 ∧ Q (.str (Txt.upper a)) H) (.str u) [] H Q := ⟨u, rfl, rfl, by omega, k _ (len_upper u)⟩
end
end Fw
namespace Fw
open PySem PySem.Spec PyProof.Rows L2
/-! ### a call that is handed all cells -/
section
variable {K : PySem.W.Frag} {H0 H H' : Hp} {Ms M0 : List Addr} {L L' : List (Addr × HO)} {R R' : List Fa}
theorem W.back (w : W K H0 Ms M0 H L R) (w' : W K H (L.map (·.1)) M0 H' L' R') : W K H0 Ms M0 H' L' (R' ++ R) := by
  have inL : ∀ a ∈ L.map (·.1), a ∈ Ms ∨ (H0 a = none ∧ a ∉ M0) := fun a ha => by
    obtain ⟨q, hq, rfl⟩ := List.mem_map.mp ha
    exact w.own q hq
  refine ⟨fun a o n e => ?_, w'.al, w'.nd, w'.cell, fun p hp => ?_, fun r hr => ?_⟩
  · refine w'.ex a o (fun ha => ?_) (w.ex a o n e)
    rcases inL a ha with h | h
    · exact n h
    · exact nomatch h.1.symm.trans e
  · rcases w'.own p hp with h | h
    · exact inL _ h
    · by_cases hm : p.1 ∈ Ms
      · exact .inl hm
      · exact .inr ⟨w.fresh h.1 hm, h.2⟩
  · rcases List.mem_append.mp hr with hr | hr
    · exact w'.rep r hr
    · refine Fa.ext (fun a o e => ?_) (w.rep r hr)
      obtain ⟨n, e⟩ := del_some e
      have n1 : a ∉ L.map (·.1) := fun z => n (List.mem_append_left _ z)
      have n2 : a ∉ M0 := fun z => n (List.mem_append_right _ z)
      rw [del_out]
      · exact w'.ex a o n1 e
      · intro z
        rcases List.mem_append.mp z with z | z
        · obtain ⟨q, hq, rfl⟩ := List.mem_map.mp z
          rcases w'.own q hq with h | h
          · exact n1 h
          · exact nomatch h.1.symm.trans e
        · exact n2 z
/-- all cells handed on -/
theorem W.hand (w : W K H0 Ms M0 H L R) : W K H (L.map (·.1)) M0 H L R :=
  ⟨Ex.refl, w.al, w.nd, w.cell, fun p hp => .inl (List.mem_map.mpr ⟨p, hp, rfl⟩), w.rep⟩
/-- the cells in another order -/
theorem W.perm (w : W K H0 Ms M0 H L R) (h : L'.Perm L) : W K H0 Ms M0 H L' R := by
  have hm : ∀ x, x ∈ L'.map (·.1) ↔ x ∈ L.map (·.1) := fun x => (h.map _).mem_iff
  refine ⟨w.ex, w.al, (h.map _).nodup_iff.mpr w.nd, fun p hp => w.cell p (h.mem_iff.mp hp), fun p hp => w.own p (h.mem_iff.mp hp), fun r hr => Fa.ext (del_sub fun x hx => ?_) (w.rep r hr)⟩
  rcases List.mem_append.mp hx with z | z
  · exact List.mem_append_left _ ((hm x).mp z)
  · exact List.mem_append_right _ z
end
/-! ### texts, sign by sign -/
theorem str_ext {x y : Str} (h : x.cps.toList = y.cps.toList) : x = y := by
  obtain ⟨a⟩ := x
  obtain ⟨b⟩ := y
  exact congrArg Str.mk (Array.toList_inj.mp h)
abbrev cd (x : Str) : List Nat := x.cps.toList
theorem cd_len (x : Str) : (cd x).length = x.length := Array.length_toList
theorem cd_app (x y : Str) : cd (x ++ y) = cd x ++ cd y := by
  show (x.cps ++ y.cps).toList = _
  simp
theorem cd_cut (z : Str) (i j : Nat) (hi : i ≤ z.length) (hj : j ≤ z.length) : cd (cutS z (some (i : Int)) (some (j : Int))) = ((cd z).drop i).take (j - i) := by
  unfold cutS
  rw [HT.sIx_nat, HT.sIx_nat, Nat.min_eq_left hi, Nat.min_eq_left hj]
theorem cd_cutTo (z : Str) (j : Nat) (hj : j ≤ z.length) : cd (cutS z none (some (j : Int))) = (cd z).take j := by
  unfold cutS
  rw [HT.sIx_none, HT.sIx_nat, Nat.min_eq_left hj]
  simp
theorem cd_cutFrom (z : Str) (i : Nat) (hi : i ≤ z.length) : cd (cutS z (some (i : Int)) none) = (cd z).drop i := by
  unfold cutS
  rw [HT.sIx_nat, HT.sIx_none, Nat.min_eq_left hi]
  show ((cd z).drop i).take (z.length - i) = _
  rw [List.take_of_length_le (by rw [List.length_drop, cd_len]; omega)]
/-- the sign at i, none behind the last one -/
def signAt (z : Str) (i : Nat) : Str := match (cd z)[i]? with
  | some c => ⟨#[c]⟩
  | none => ⟨#[]⟩
theorem cut_sign (z : Str) (i : Nat) (hi : i ≤ z.length) : cutS z (some (i : Int)) (some ((i : Int) + 1)) = signAt z i := by
  refine str_ext ?_
  by_cases h : i + 1 ≤ z.length
  · have e : ((i : Int) + 1) = ((i + 1 : Nat) : Int) := by omega
    rw [e]
    refine (cd_cut z i (i + 1) hi h).trans ?_
    have hl : i < (cd z).length := by rw [cd_len]; omega
    unfold signAt
    rw [List.getElem?_eq_getElem hl, Nat.add_sub_cancel_left, List.drop_eq_getElem_cons hl]
    rfl
  · have e : i = z.length := by omega
    have hn : (cd z)[i]? = none := List.getElem?_eq_none (by rw [cd_len]; omega)
    unfold signAt
    rw [hn]
    unfold cutS
    rw [HT.sIx_nat, Nat.min_eq_left hi, e, List.drop_eq_nil_of_le (by show (cd z).length ≤ _; rw [cd_len]; exact Nat.le_refl _)]
    simp
theorem lit_eq {x : Str} {l : List Nat} (h : cd x = l) : x = ⟨l.toArray⟩ := str_ext (by rw [show x.cps.toList = l from h])
end Fw
namespace Fw
open PySem PySem.Spec PyProof.Rows L2
/-! ### trees -/
inductive Tr where
  | mk (n : Str) (o : Int) (ps : List Tr)
mutual
def Tr.data : Tr → PyData
  | .mk n o ps => .tuple [.str n, .int o, .tuple (datas ps)]
def datas : List Tr → List PyData
  | [] => []
  | t :: r => t.data :: datas r
end
mutual
def Tr.size : Tr → Nat
  | .mk _ _ ps => 1 + sizes ps
def sizes : List Tr → Nat
  | [] => 0
  | t :: r => t.size + sizes r
end
mutual
def Tr.high : Tr → Nat
  | .mk _ _ ps => 1 + highs ps
def highs : List Tr → Nat
  | [] => 0
  | t :: r => max t.high (highs r)
end
/-- a NAME -/
structure NameOk (x : Str) : Prop where
  l1 : 1 ≤ x.length
  l6 : x.length ≤ 6
  small : ∀ c ∈ cd x, 97 ≤ c ∧ c ≤ 122
  no : x ≠ "own"
mutual
inductive TrOk : Tr → Prop
  | mk {n : Str} {o : Int} {ps : List Tr} : NameOk n → 0 ≤ o → o < 1000000 → ps.length ≤ 2 → TrsOk ps → TrOk (.mk n o ps)
inductive TrsOk : List Tr → Prop
  | nil : TrsOk []
  | cons {t : Tr} {r : List Tr} : TrOk t → TrsOk r → TrsOk (t :: r)
end
theorem datas_length : ∀ ts : List Tr, (datas ts).length = ts.length
  | [] => by simp only [datas, List.length_nil]
  | t :: r => by simp only [datas, List.length_cons, datas_length r]
theorem datas_append : ∀ ts us : List Tr, datas (ts ++ us) = datas ts ++ datas us
  | [], us => by simp only [datas, List.nil_append]
  | t :: r, us => by simp only [datas, List.cons_append, datas_append r us]
theorem sizes_append : ∀ ts us : List Tr, sizes (ts ++ us) = sizes ts + sizes us
  | [], us => by simp only [sizes, List.nil_append, Nat.zero_add]
  | t :: r, us => by simp only [sizes, List.cons_append, sizes_append r us, Nat.add_assoc]
theorem highs_append : ∀ ts us : List Tr, highs (ts ++ us) = max (highs ts) (highs us)
  | [], us => by simp only [highs, List.nil_append, Nat.zero_max]
  | t :: r, us => by simp only [highs, List.cons_append, highs_append r us, Nat.max_assoc]
theorem TrsOk.append : ∀ {ts us : List Tr}, TrsOk ts → TrsOk us → TrsOk (ts ++ us)
  | _, _, .nil, h => h
  | _, _, .cons a b, h => .cons a (TrsOk.append b h)
theorem datas_get : ∀ {ts : List Tr} {i : Nat} {d : PyData}, (datas ts)[i]? = some d → ∃ t, ts[i]? = some t ∧ d = t.data
  | [], i, d, h => by simp [datas] at h
  | t :: r, 0, d, h => by simp [datas] at h; exact ⟨t, rfl, h.symm⟩
  | t :: r, i + 1, d, h => by
    simp only [datas, List.getElem?_cons_succ] at h
    obtain ⟨u, h1, h2⟩ := datas_get h
    exact ⟨u, by simpa using h1, h2⟩
theorem datas_map (ts : List Tr) : datas ts = ts.map Tr.data := by
  induction ts with
  | nil => simp only [datas, List.map_nil]
  | cons t r ih => simp only [datas, List.map_cons, ih]
theorem TrsOk.mem {ts : List Tr} (h : TrsOk ts) : ∀ t ∈ ts, TrOk t := by
  induction ts with
  | nil => exact fun _ z => nomatch z
  | cons u r ih =>
    cases h with
    | cons a b =>
      intro t ht
      rcases List.mem_cons.mp ht with rfl | ht
      · exact a
      · exact ih b t ht
theorem sizes_mem {ts : List Tr} : ∀ t ∈ ts, t.size ≤ sizes ts := by
  induction ts with
  | nil => exact fun _ z => nomatch z
  | cons u r ih =>
    intro t ht
    simp only [sizes]
    rcases List.mem_cons.mp ht with rfl | ht
    · omega
    · have := ih t ht
      omega
theorem highs_mem {ts : List Tr} : ∀ t ∈ ts, t.high ≤ highs ts := by
  induction ts with
  | nil => exact fun _ z => nomatch z
  | cons u r ih =>
    intro t ht
    simp only [highs]
    rcases List.mem_cons.mp ht with rfl | ht
    · omega
    · have := ih t ht
      omega
theorem TrOk.parts {n : Str} {o : Int} {ps : List Tr} (h : TrOk (.mk n o ps)) : NameOk n ∧ 0 ≤ o ∧ o < 1000000 ∧ ps.length ≤ 2 ∧ TrsOk ps := by
  cases h with
  | mk a b c d e => exact ⟨a, b, c, d, e⟩
/-! ### their texts -/
mutual
/-- as the laws spell a tree -/
def Tr.text : Tr → Str
  | .mk n o ps => (n ++ Txt.mul (":" ++ Str.ofString (toString o)) (if decide (0 < o) = true then 1 else 0)) ++ Txt.mul (("(" ++ Txt.join "," (texts ps)) ++ ")") (if decide (ps ≠ []) = true then 1 else 0)
def texts : List Tr → List Str
  | [] => []
  | t :: r => t.text :: texts r
end
theorem texts_map (ts : List Tr) : texts ts = ts.map Tr.text := by
  induction ts with
  | nil => simp only [texts, List.map_nil]
  | cons t r ih => simp only [texts, List.map_cons, ih]
theorem mul0 (u : Str) : Txt.mul u 0 = ⟨#[]⟩ := rfl
theorem mul1 (u : Str) : Txt.mul u 1 = u := rfl
theorem num_len {o : Int} (h0 : 0 ≤ o) (h1 : o < 1000000) : (Str.ofString (toString o)).length ≤ 7 := by
  have := int_text_length_le10 (a := o) (k := 6) (by decide) (by omega)
  rw [PySem.ofString_length]
  omega
mutual
theorem text_len : ∀ {t : Tr}, TrOk t → t.text.length ≤ 20 * t.size
  | .mk n o ps, h => by
    obtain ⟨h1, h2, h3, h4, h5⟩ := h.parts
    have ih := texts_len h5
    have hn := h1.l6
    have ho := num_len h2 h3
    have e1 : (Str.ofString ":").length = 1 := by decide
    have e2 : (Str.ofString "(").length = 1 := by decide
    have e3 : (Str.ofString ")").length = 1 := by decide
    have e4 : (Str.ofString ",").length = 1 := by decide
    have hj : (Txt.join "," (texts ps)).length ≤ 20 * sizes ps + 1 := by
      have e : (Txt.join "," (texts ps)).length = ((texts ps).map (·.length)).sum + ((texts ps).length - 1) * 1 := by
        have := size_glued "," (texts ps)
        rw [e4] at this
        exact this
      have hl : (texts ps).length = ps.length := by rw [texts_map, List.length_map]
      omega
    have m1 : (Txt.mul (":" ++ Str.ofString (toString o)) (if decide (0 < o) = true then 1 else 0)).length ≤ 8 := by
      split
      · rw [mul1, strLen_append]; omega
      · rw [mul0]; show 0 ≤ _; omega
    have m2 : (Txt.mul (("(" ++ Txt.join "," (texts ps)) ++ ")") (if decide (ps ≠ []) = true then 1 else 0)).length ≤ 20 * sizes ps + 3 := by
      split
      · rw [mul1, strLen_append, strLen_append]; omega
      · rw [mul0]; show 0 ≤ _; omega
    simp only [Tr.text, Tr.size]
    rw [strLen_append, strLen_append]
    omega
theorem texts_len : ∀ {ts : List Tr}, TrsOk ts → ((texts ts).map (·.length)).sum ≤ 20 * sizes ts
  | [], _ => by simp [texts, sizes]
  | t :: r, h => by
    cases h with
    | cons a b =>
      have h1 := text_len a
      have h2 := texts_len b
      simp only [texts, sizes, List.map_cons, List.sum_cons]
      omega
end
theorem name_lay {n : Str} (h : NameOk n) : PyData.canLay0 (.str n) = true := by
  simp only [PyData.canLay0, PyData.strOk]
  rw [← Array.all_toList]
  refine List.all_eq_true.mpr fun c hc => ?_
  have := h.small c hc
  exact decide_eq_true (by omega)
mutual
theorem data_lay : ∀ {t : Tr}, TrOk t → PyData.canLay0 t.data = true ∧ t.data.depth = 2 * t.high
  | .mk n o ps, h => by
    obtain ⟨h1, _, _, _, h5⟩ := h.parts
    obtain ⟨a, b⟩ := datas_lay h5
    simp only [Tr.data, Tr.high, PyData.canLay0, PyData.canLayAll0, PyData.depth, PyData.depthAll]
    have := name_lay h1
    simp only [PyData.canLay0] at this
    rw [this, a]
    exact ⟨rfl, by omega⟩
theorem datas_lay : ∀ {ts : List Tr}, TrsOk ts → PyData.canLayAll0 (datas ts) = true ∧ PyData.depthAll (datas ts) = 2 * highs ts
  | [], _ => by simp [datas, highs, PyData.canLayAll0, PyData.depthAll]
  | t :: r, h => by
    cases h with
    | cons a b =>
      obtain ⟨c1, c2⟩ := data_lay a
      obtain ⟨d1, d2⟩ := datas_lay b
      simp only [datas, highs, PyData.canLayAll0, PyData.depthAll, c1, d1, c2, d2]
      exact ⟨rfl, by omega⟩
end
theorem parts_shaped {ts : List Tr} (h : TrsOk ts) (hh : highs ts ≤ 31) : SeqAt.shaped (.tuple (datas ts)) = true := by
  obtain ⟨a, b⟩ := datas_lay h
  unfold SeqAt.shaped
  simp only [PyData.canLay0, PyData.depth, a, b, Bool.true_and]
  exact decide_eq_true (by omega)
/-! ### more steps -/
section
variable {σ : L2.St} {H H0 : Hp} {K : PySem.W.Frag} {Q : VK} {p q b : Addr} {xs : List V} {m n : Int} {Ms M0 : List Addr} {L : List (Addr × HO)} {R : List Fa} {ds : List PyData} {o : HO}
/-- several ways to a value, one way on -/
theorem x_via {te : TE} (C : VK → Prop) (h : ∀ Q', C Q' → te σ H Q') (k : C Q) : te σ H Q := h Q k
/-- several ways through a statement, one way on -/
theorem x_seqVia {t1 t2 : TS} {D : Ends} (C : (L2.St → Hp → Prop) → Prop) (h : ∀ N, C N → t1 { D with nx := N } σ H) (k : C (t2 D)) : tSeq t1 t2 D σ H := h _ k
theorem x_mulB {u : Str} {b : Bool} (h : u.length ≤ 1000000) (k : Q (.str (Txt.mul u (if b = true then 1 else 0))) H) : rMulS (.str u) (.int (if b = true then 1 else 0)) H Q := by
  cases b
  · exact ⟨u, 0, rfl, rfl, by decide, by omega, k⟩
  · exact ⟨u, 1, rfl, rfl, by decide, by omega, k⟩
theorem x_neD {x y : V} {d e : PyData} (h1 : Dp K H x d) (h2 : Dp K H y e) (s1 : SeqAt.shaped d = true) (s2 : SeqAt.shaped e = true) (q : Q (.bl (!PyData.eqv d e)) H) : uNe K x y H Q := .inr ⟨d, e, h1, h2, s1, s2, q⟩
theorem x_eqD {x y : V} {d e : PyData} (h1 : Dp K H x d) (h2 : Dp K H y e) (s1 : SeqAt.shaped d = true) (s2 : SeqAt.shaped e = true) (q : Q (.bl (PyData.eqv d e)) H) : uEq K x y H Q := .inr ⟨d, e, h1, h2, s1, s2, q⟩
theorem x_strI {i : Int} (h : i.natAbs < 10 ^ 60) (k : Q (.str (Str.ofString (toString i))) H) : (fun (xs : List V) (H : Hp) (Q : VK) => ∃ i, xs = [.int i] ∧ i.natAbs.log2 < 1920 ∧ Q (.str (toString i)) H) [.int i] H Q := ⟨i, rfl, log_of h, k⟩
/-- a tree: its name, number and parts -/
theorem W.tree {v : V} {n : Str} {o : Int} {ps : List Tr} (hw : W K H0 Ms M0 H L R) (i : Nat) (h : R[i]? = some (.rp v (Tr.mk n o ps).data)) : ∃ a pt : Addr, v = .ref a ∧ W K H0 Ms M0 H L (.tp a [.str n, .int o, .ref pt] :: .rp (.ref pt) (.tuple (datas ps)) :: R) := by
  have h := hw.rep _ (List.mem_of_getElem? h)
  simp only [Tr.data] at h
  have h : Dd K (del H (av L M0)) v (.tuple [.str n, .int o, .tuple (datas ps)]) := h
  cases h with
  | @tup a xs _ q r =>
    obtain ⟨v1, vs, rfl, h1, r⟩ := RpAll.cons_inv (K := K) (M0 := av L M0) (H := H) r
    obtain ⟨v2, vs, rfl, h2, r⟩ := RpAll.cons_inv (K := K) (M0 := av L M0) (H := H) r
    obtain ⟨v3, vs, rfl, h3, r⟩ := RpAll.cons_inv (K := K) (M0 := av L M0) (H := H) r
    cases RpAll.nil_inv (K := K) (M0 := av L M0) (H := H) r
    cases Rp.str_inv h1
    cases Rp.int_inv h2
    have h3' := h3
    cases h3 with
    | @tup pt _ _ q3 r3 => exact ⟨a, pt, rfl, (hw.addF (r := .rp (.ref pt) (.tuple (datas ps))) h3').addF (r := .tp a _) q⟩
theorem ite_min (a b : Int) : (if b < a then b else a) = min a b := by
  rw [Int.min_def]
  split <;> split <;> omega
theorem ite_max (a b : Int) : (if b > a then b else a) = max a b := by
  rw [Int.max_def]
  split <;> split <;> omega
theorem x_minM (k : Q (.int (min m n)) H) : uMin K [.int m, .int n] H Q := x_min2 (by rw [ite_min]; exact k)
theorem x_maxM (k : Q (.int (max m n)) H) : uMax K [.int m, .int n] H Q := x_max2 (by rw [ite_max]; exact k)
theorem w_tupleA (hw : W K H0 Ms M0 H L R) (h : H p = some (.lst xs)) (hd : RpAll K (av L M0) H xs ds) (k : ∀ p H', H p = none → W K H0 Ms M0 H' L (.rp (.ref p) (.tuple ds) :: R) → Q (.ref p) H') : uTuple K [.ref p] H Q :=
  ⟨p, xs, rfl, .inl ⟨SqL.of h, fun l hl => k l _ hl (hw.newTup hl hd)⟩⟩
theorem W.knA (hw : W K H0 Ms M0 H L R) (i : Nat) (h : R[i]? = some (.kn p o)) : del H (av L M0) p = some o := hw.rep _ (List.mem_of_getElem? h)
theorem W.knNe (hw : W K H0 Ms M0 H L R) (i j : Nat) {o' : HO} (h : R[i]? = some (.kn p o)) (hj : L[j]? = some (b, o')) : p ≠ b := fun e => by
  have h1 := (del_some (hw.knA i h)).1
  exact h1 (List.mem_append_left _ (List.mem_map.mpr ⟨_, List.mem_of_getElem? hj, e.symm⟩))
/-- facts that don't touch M stand without b of M, too -/
theorem fa_in {M : List Addr} {r : Fa} (h : r.ok K (del H M)) (hb : b ∈ M) : r.ok K (del H (b :: M)) := Fa.ext (del_sub fun x hx => (List.mem_cons.mp hx).elim (fun e => e ▸ hb) id) h
end
end Fw
namespace Fw
open PySem PySem.Spec PyProof.Rows L2
theorem DdAll.item {K : PySem.W.Frag} {H : Hp} : ∀ {vs : List V} {ds : List PyData} {i : Nat} {v : V}, DdAll K H vs ds → vs[i]? = some v → ∃ d, ds[i]? = some d ∧ Dd K H v d
  | _, _, _, _, .nil, e => by simp at e
  | _, _, 0, _, .cons a _, e => by simp at e; subst e; exact ⟨_, rfl, a⟩
  | _, _, i + 1, _, .cons _ b, e => by
    obtain ⟨d, h1, h2⟩ := DdAll.item (i := i) b (by simpa using e)
    exact ⟨d, by simpa using h1, h2⟩
theorem texts_take {ps : List Tr} {i : Nat} {t : Tr} (h : ps[i]? = some t) : texts (ps.take (i + 1)) = texts (ps.take i) ++ [t.text] := by
  rw [texts_map, texts_map, List.take_add_one, h, List.map_append]
  rfl
end Fw
namespace Fw
open PySem PySem.Spec PyProof.Rows L2
section
variable {σ : L2.St} {H : Hp} {Q : VK} {K : PySem.W.Frag} {c : TT} {tb : TS} {D : Ends} {i m : Nat}
/-! ### while -/
def WhB (I : Nat → L2.St → Hp → Prop) (m : Nat) (tb : TS) (D : Ends) (σ : L2.St) (H1 : Hp) : Prop :=
  ∃ N : L2.St → Hp → Prop, (∀ σ' H', N σ' H' → ∃ m', m' < m ∧ I m' σ' H') ∧ tb { D with nx := N, ct := N, bk := D.nx } σ H1
theorem w_while (I : Nat → L2.St → Hp → Prop) (m0 : Nat) (h0 : I m0 σ H) (hs : ∀ m σ H, I m σ H → c σ H fun b H1 => if b = true then WhB I m tb D σ H1 else D.nx σ H1) : tWhile c tb D σ H := ⟨I, ⟨m0, h0⟩, hs⟩
theorem x_whB {I : Nat → L2.St → Hp → Prop} (k : tb (Ends.mk (fun σ' H' => ∃ m', m' < m ∧ I m' σ' H') D.rt D.nx (fun σ' H' => ∃ m', m' < m ∧ I m' σ' H')) σ H) : WhB I m tb D σ H := ⟨_, fun _ _ h => h, k⟩
theorem x_aug {te : TE} {ti : TIp} {x : V} (h : σ[i]? = some (some x)) (k : te σ H fun y H1 => ti x y H1 fun z H2 => D.nx (σ.set i (some z)) H2) : tAug i te ti D σ H := ⟨x, h, k⟩
theorem x_ipI {f : Int → Int → Int} {a b : Int} (k : Q (.int (f a b)) H) : ipI f (.int a) (.int b) H Q := ⟨a, b, rfl, rfl, k⟩
theorem x_orT {ta tc : TE} (k : ta σ H fun x H1 => ∃ k, TruV K x H1 k ∧ if k = true then Q x H1 else tc σ H1 Q) : tOrT K ta tc σ H Q := k
theorem x_truS {u : Str} {F : Bool → Prop} (h : u.length ≤ 1000000) (k : F (decide (u.length ≠ 0))) : ∃ c, TruV K (.str u) H c ∧ F c := by
  refine ⟨_, ⟨Nat.le_trans h (by rw [sizeLine_eq]; decide), rfl⟩, ?_⟩
  have e : ((u.length : Int) != 0) = decide (u.length ≠ 0) := by
    by_cases z : u.length = 0
    · rw [z]; rfl
    · rw [decide_eq_true z]
      simpa using z
  rw [e]
  exact k
end
theorem pe_orK {X : Cx} {K : PySem.W.Frag} {a b : Expr} {rest : List Expr} {ta tb : TE} {pos : Pos} (ha : PE X a ta) (hb : PE X (.BoolOp .Or (b :: rest) pos) tb) (hK : X.K = K := by rfl) : PE X (.BoolOp .Or (a :: b :: rest) pos) (tOrT K ta tb) := hK ▸ pe_orT ha hb
end Fw
namespace Fw
open PySem PySem.Spec PyProof.Rows L2
section
variable {K : PySem.W.Frag} {H0 H H' : Hp} {Ms M0 : List Addr} {L L' : List (Addr × HO)} {R R' : List Fa} {a b c : Addr × HO}
/-- all cells handed on; they stay where they are -/
theorem W.handM (w : W K H0 Ms M0 H L R) : W K H (L.map (·.1)) (L.map (·.1) ++ M0) H L R := by
  refine ⟨Ex.refl, fun x hx => ?_, w.nd, w.cell, fun p hp => .inl (List.mem_map.mpr ⟨p, hp, rfl⟩), fun r hr => Fa.ext (del_sub fun x hx => ?_) (w.rep r hr)⟩
  · exact w.alloc' x hx
  · rcases List.mem_append.mp hx with z | z
    · exact List.mem_append_left _ z
    · exact z
theorem W.lessM {A : List Addr} (w : W K H0 Ms (A ++ M0) H L R) : W K H0 Ms M0 H L R := by
  refine ⟨w.ex, fun x hx => w.al x (List.mem_append_right _ hx), w.nd, w.cell, fun p hp => ?_, fun r hr => Fa.ext (del_sub fun x hx => ?_) (w.rep r hr)⟩
  · exact (w.own p hp).imp id fun z => ⟨z.1, fun y => z.2 (List.mem_append_right _ y)⟩
  · rcases List.mem_append.mp hx with z | z
    · exact List.mem_append_left _ z
    · exact List.mem_append_right _ (List.mem_append_right _ z)
theorem W.backM (w : W K H0 Ms M0 H L R) (w' : W K H (L.map (·.1)) (L.map (·.1) ++ M0) H' L' R') : W K H0 Ms M0 H' L' (R' ++ R) := w.back w'.lessM
theorem W.exBack (w : W K H0 Ms M0 H L R) (e : Ex (L.map (·.1)) H H') : Ex Ms H0 H' := fun x o n z => by
  refine e x o (fun hx => ?_) (w.ex x o n z)
  obtain ⟨q, hq, rfl⟩ := List.mem_map.mp hx
  rcases w.own q hq with h | h
  · exact n h
  · exact nomatch h.1.symm.trans z
theorem W.fresh2 {p : Addr} (w : W K H0 Ms M0 H L R) (h : H p = none) (hs : ∀ x ∈ Ms, x ∈ M0) : H0 p = none := w.fresh h fun z => w.al p (hs p z) h
theorem W.rotL (w : W K H0 Ms M0 H (a :: b :: c :: L) R) : W K H0 Ms M0 H (b :: c :: a :: L) R := w.perm (by
  refine .trans (.cons b (.swap a c L)) ?_
  exact .swap a b (c :: L))
theorem W.rotR (w : W K H0 Ms M0 H (a :: b :: c :: L) R) : W K H0 Ms M0 H (c :: a :: b :: L) R := w.perm (by
  refine .trans (.swap a c (b :: L)) ?_
  exact .cons a (.swap b c L))
end
end Fw
namespace Fw
open PySem PySem.Spec PyProof.Rows L2
/-! ### an own exception class called: the exception as a value -/
section
variable {M : Model} {A : Around} {E : Value → Shared → Prop} {h : Heap} {g : Array GenState} {d : Drawn} {t : Nat} {os : OsState} {nm q : Str} {C N0 : Addr} {bs bm tN : List Value} {hdct : Bool} {sn : List Str} {sub : List Value} {ab : Bool} {col : Option Bool} {dd : Option Addr} {k0 k1 k2 k3 k5 : Option Value} {x : Str} {B N nI iI iN : String} {tl : List Value} {kw : List (Str × Value)}
theorem ask_newK (F : ExcBaseFacts N nI iN tN) (hN : bm.contains (.type N) = true) {rest : List Value} {Q : Unit → Shared → Prop} (hC : h.get? C = some (excClassObj nm q C N0 bs bm hdct sn sub ab col dd k0 k1 k2 k3 k5 nI)) (hq : Q () ⟨h, g, d, t, os⟩) :
    wpAny M A (checkBuiltinCall nI ⟨.ref C :: rest, kw⟩) Q E ⟨h, g, d, t, os⟩ := by
  have has : (Value.ref C :: bm).contains (.type N) = true := by rw [List.contains_cons, hN, Bool.or_true]
  have star := F.noStar
  simp only [checkBuiltinCall, F.newKind, F.newSplit, F.newRow]
  repeat (first | refine wpAny_loadPart_at hC ?_ | (refine wpAny_isSubtype_exc hC ?_; rw [has]) | refine wpAny_staticBase_exc hC ?_ | refine wpAny_madeBy_exc hC ?_ | simp only [bne_self_eq_false, Bool.false_eq_true, if_false] | wp_step)
  exact hq
theorem ask_typeK {rest : List Value} {Q : Unit → Shared → Prop} (hC : h.get? C = some (excClassObj nm q C N0 bs bm hdct sn sub ab col dd k0 k1 k2 k3 k5 nI))
    (hq : Q () ⟨h, g, d, t, os⟩) : wpAny M A (checkBuiltinCall "type.__call__" ⟨.ref C :: rest, kw⟩) Q E ⟨h, g, d, t, os⟩ := by
  have f3 := tc_sub
  have hT : (⟨h, g, d, t, os⟩ : Shared).TypeIs (.ref C) "type" := ⟨_, hC, rfl⟩
  simp only [checkBuiltinCall, tc_kind, tc_split]
  repeat (any_goals (first | assumption | with_reducible refine wpAny_loadPart_at hC ?_ | with_reducible refine wpAny_onRaise ?_ | with_reducible refine wpAny_map ?_ | wp_step))
end
section
variable {prog : Program} {w : World} {A : Around} {E : Value → Shared → Prop} {R : Result → Shared → Prop} {h : Heap} {g : Array GenState} {d : Drawn} {t : Nat} {os : OsState} {nm q : Str} {C N0 : Addr} {bs bm tN : List Value} {hdct : Bool} {sn : List Str} {sub : List Value} {ab : Bool} {col : Option Bool} {dd : Option Addr} {k0 k1 k2 k3 k5 : Option Value} {x : Str} {B N nI iI iN : String} {tl : List Value} {kw : List (Str × Value)}
theorem run_newKw (F : ExcBaseFacts N nI iN tN) (hN : bm.contains (.type N) = true) (hA : bm.contains (.type "AttributeError") = false) (hM : bm.contains (.type "NameError") = false) {rest : List Value} (hC : h.get? C = some (excClassObj nm q C N0 bs bm hdct sn sub ab col dd k0 k1 k2 k3 k5 nI))
    (hq : R (.ok (.ret (.ref (h.objs.size + 1)))) ⟨(h.push (PySem.W.kdv_tup rest)).push (PySem.HandSPX.excO C h.objs.size), g, d, t, os⟩) (hrest : rest.length ≤ sizeLine) :
    codeAny (model prog w) A (.builtin nI ⟨.ref C :: rest, kw⟩) R ⟨h, g, d, t, os⟩ := by
  have ends := F.ends
  have has : (Value.ref C :: bm).contains (.type N) = true := by rw [List.contains_cons, hN, Bool.or_true]
  have noa : (Value.ref C :: bm).contains (.type "AttributeError") = false := by rw [List.contains_cons, hA]; rfl
  have non : (Value.ref C :: bm).contains (.type "NameError") = false := by rw [List.contains_cons, hM]; rfl
  refine codeAny_builtinAt F.entry ?_
  unfold Builtin.«BaseException.__new__»
  refine PySem.wpAt_bind ?_
  show PySem.wpAt _ _ _ (stack >>= _) _ _ _
  refine PySem.wpAt_bind (PySem.wpAt_stack fun p below => PySem.wpAt_of_wpAny ?_)
  wp_walk
  refine PySem.wpAt_of_wpAny ?_
  rw [F.owner]
  repeat (first | with_reducible refine wpAny_madeHere_exc F.canon hC ?_ | with_reducible refine wpAny_loadPart_at hC ?_ | (with_reducible refine wpAny_isSubtype_exc hC ?_; first | rw [has] | rw [noa] | rw [non]) | wp_step)
  show R _ _
  rw [Heap.size_push]
  exact hq
theorem run_clsK (F : ExcBaseFacts N nI iN tN) (hN : bm.contains (.type N) = true) (hA : bm.contains (.type "AttributeError") = false) (hM : bm.contains (.type "NameError") = false) {rest : List Value} {fI : Addr} (hC : h.get? C = some (excClassObj nm q C N0 bs bm hdct sn sub ab col dd k0 k1 k2 k3 k5 nI))
    (hi : PySem.W.Looks (model prog w) h (typeLookup (.ref C) "__init__") (some (.ref fI))) (hb : ∀ self, PySem.W.Looks (model prog w) h (bindSpecial (.ref fI) self) (.ref fI, [self])) (hrest : rest.length ≤ sizeLine)
    (hq : codeAny (model prog w) (A.under (.builtin "type.__call__" ⟨.ref C :: rest, kw⟩)) (.call (.ref fI) ⟨.ref (h.objs.size + 1) :: rest, kw⟩) (PySem.W.InitBack (h.objs.size + 1) R) ⟨(h.push (PySem.W.kdv_tup rest)).push (PySem.HandSPX.excO C h.objs.size), g, d, t, os⟩) :
    codeAny (model prog w) A (.call (.ref C) ⟨rest, kw⟩) R ⟨h, g, d, t, os⟩ := by
  have f1 := tc_lookup
  have f2 := tc_bind (.ref C)
  have isT : (⟨h, g, d, t, os⟩ : Shared).TypeIs (.ref C) "type" := ⟨_, hC, rfl⟩
  refine codeAny_of_tree ?_
  show wpAny _ _ (callAny (.ref C) _) _ _ _
  repeat (any_goals (first | assumption | with_reducible refine wpAny_loadPart_at hC ?_ | wp_step))
  refine ⟨rfl, codeAny_call_builtin_at (Code.quiet_builtin _ (by decide +kernel)) entry_typeCall (ask_typeK hC ?_)⟩
  show wpAny _ _ (Builtin.«type.__call__» ⟨.ref C :: rest, kw⟩) _ _ _
  repeat (first | with_reducible refine wpAny_loadPart_at hC ?_ | with_reducible refine wpAny_madeBy_exc hC ?_ | wp_step)
  refine codeAny_call_builtin_code (Code.quiet_builtin _ F.quiet) (ask_newK F hN hC (run_newKw F hN hA hM hC ?_ hrest))
  show wpAny _ _ _ _ _ _
  have k : ∀ b o, h.get? b = some o → ((h.push (PySem.W.kdv_tup rest)).push (PySem.HandSPX.excO C h.objs.size)).get? b = some o := fun b o e => Heap.get?_push_of_some _ (Heap.get?_push_of_some _ e)
  have hC1 := k _ _ hC
  have hget : ((h.push (PySem.W.kdv_tup rest)).push (PySem.HandSPX.excO C h.objs.size)).get? (h.objs.size + 1) = some (PySem.HandSPX.excO C h.objs.size) := by heap_get
  have me : (Value.ref C :: bm).contains (.ref C) = true := by simp
  unfold isInstance
  repeat (first | with_reducible refine wpAny_loadPart_at hget ?_ | (with_reducible refine wpAny_isSubtype_exc hC1 ?_; rw [me]) | wp_step)
  show wpAny _ _ (typeLookup (.ref C) _) _ _ _
  refine (hi.keeps k).at (wpAny_holding (wpAny_bind (((hb (.ref (h.objs.size + 1))).keeps k).at (wpAny_bind (wpAny_call (codeAny_mono hq fun r s' z => ?_))))))
  rcases r with e | (v | _ | _ | _) <;> first | exact z | exact z.elim | skip
  obtain ⟨rfl, z⟩ := z
  first
    | exact wpAny_pure (wpAny_pure z)
    | (wp_walk; exact z)
end
/-- the class at C, called x, its own __init__ laying the fields fs: n things by place, those of ks by name -/
structure Cl (P : Program) (w : World) (K : PySem.W.Frag) (mg : Str → Option Value) (base : Heap) (x : Str) (C : Addr) (n : Nat) (ks : List Str) (fs : List V → List V → List (Str × V)) : Prop where
  ex : ∃ (fI : Addr) (fd : FuncData) (ps : List Str) (g : List Value → List Value → List Value) (gV : List V → List V → List V) (sp : Sp) (xB : Str) (B nI iI : String) (tl : List Value), Bs xB B nI iI tl ∧ Own K C nI tl ∧
    PySem.W.findIn K (.ref C) "__init__" = some (some (.ref fI)) ∧ PySem.W.typeIn K (.ref fI) = some (.type "function") ∧ FnOk P w K mg base CX0 1 fI fd ps sp ∧ KBn K fd ps (n + 1) ks g gV ∧ mg x = some (.ref C) ∧ n ≤ 1000 ∧
    ∀ (vs zs : List V) (a : Addr) (H : Hp) (Q : VK) (E : XK), vs.length = n → zs.length = ks.length → H a = none → (∀ d, H d = none → d ≠ a → Q .non (upd (upd H d (exd d (fs vs zs))) a (exo a C (some d)))) → sp (gV (.ref a :: vs) zs) (upd H a (exo a C none)) Q E
def MkK (C : Addr) (fs : List (Str × V)) (H : Hp) (Q : VK) : Prop := ∀ a d, H a = none → H d = none → d ≠ a → Q (.ref a) (upd (upd H d (.xd fs)) a (exk a (.ref C) (some d)))
def tMade (C : Addr) (n m : Nat) (fs : List V → List V → List (Str × V)) (ta tk : TA) : TE := fun σ H Q => ta σ H fun vs H1 => tk σ H1 fun zs H2 => vs.length = n ∧ zs.length = m ∧ MkK C (fs vs zs) H2 Q
theorem x_made {C : Addr} {n m : Nat} {fs : List V → List V → List (Str × V)} {ta tk : TA} {σ : L2.St} {H : Hp} {Q : VK} (q : ta σ H fun vs H1 => tk σ H1 fun zs H2 => vs.length = n ∧ zs.length = m ∧ MkK C (fs vs zs) H2 Q) : tMade C n m fs ta tk σ H Q := q
section
variable {X : Cx} {x : Str} {C : Addr} {n j : Nat} {ks : List Str} {fs : List V → List V → List (Str × V)} {e : Expr} {es : List Expr} {kws : List Keyword} {ta tk : TA} {p pos : Pos}
theorem run_made {pins : List (Addr × Obj)} {σ : L2.St} {H : Hp} {s : Shared} {Q : VK} {us ws : List Value} {vs zs : List V} (F : Cl X.prog X.w X.K X.mg X.base x C n ks fs) (hr : Room j X.A) (hk : 2 ≤ j) (hx : Passes CX0 X (fun _ _ _ => False))
    (I : Inv X pins σ H s) (r : Vals vs us) (rz : Vals zs ws) (l1 : vs.length = n) (l2 : zs.length = ks.length)
    (q : ∀ a d, H a = none → H d = none → d ≠ a → Q (.ref a) (upd (upd H d (.xd (fs vs zs))) a (exk a (.ref C) (some d)))) : wpAny (model X.prog X.w) X.A (call (.ref C) us (ks.zip ws)) (EP X pins σ Q) X.xe s := by
  obtain ⟨fI, fd, ps, g, gV, sp, xB, B, nI, iI, tl, F, T, iC, tI, F1, hb, hm, hn, hsp⟩ := F.ex
  obtain ⟨nm, N, qn, bs, bm, hd, sn, sub, ab, col, dd, k0, k1, k2, k3, k5, hC, hT⟩ := PySem.W.excInit_of I.kIn T.inn
  obtain ⟨hp, g0, dr, tk, os⟩ := s
  have hsz : hp.objs.size ≤ hp.objs.size + 1 := Nat.le_succ _
  have kk : ∀ b o, hp.get? b = some o → ((hp.push (PySem.W.kdv_tup us)).push (PySem.HandSPX.excO C hp.objs.size)).get? b = some o := fun b o e => Heap.get?_push_of_some _ (Heap.get?_push_of_some _ e)
  have hget : ((hp.push (PySem.W.kdv_tup us)).push (PySem.HandSPX.excO C hp.objs.size)).get? (hp.objs.size + 1) = some (PySem.HandSPX.excO C hp.objs.size) := by heap_get
  have hna : H (hp.objs.size + 1) = none := I.hok.fresh hsz
  have I2 := I.laid (t' := tk) (a := hp.objs.size + 1) (o := exo (hp.objs.size + 1) C none) kk hsz (exo_ok hget)
  have r1 : Vals (V.ref (hp.objs.size + 1) :: vs) (Value.ref (hp.objs.size + 1) :: us) := .cons rfl r
  have r2 := hb.rel r1 rz
  have hus : us.length ≤ sizeLine := by rw [← Paired.length r, sizeLine_eq]; omega
  have bd := hb.to ⟨(hp.push (PySem.W.kdv_tup us)).push (PySem.HandSPX.excO C hp.objs.size), g0, dr, tk, os⟩ (Value.ref (hp.objs.size + 1) :: us) ws I2.kIn (by rw [List.length_cons, ← Paired.length r, l1]) (rz.length.symm.trans l2)
  obtain ⟨N, iN, tN, FN, hN⟩ := F.new
  have hq := hsp vs zs (hp.objs.size + 1) H (fun v H2 => v = .non ∧ ∃ (d : Addr), H2 (hp.objs.size + 1) = some (exo (hp.objs.size + 1) C (some d)) ∧ H2 d = some (exd d (fs vs zs)) ∧ H d = none ∧ d ≠ hp.objs.size + 1 ∧ H2 = upd (upd H d (exd d (fs vs zs))) (hp.objs.size + 1) (exo (hp.objs.size + 1) C (some d))) (fun _ _ _ => False) l1 l2 hna
    (fun d h1 h2 => ⟨rfl, d, upd_same, (upd_ne h2).trans upd_same, h1, h2, rfl⟩)
  refine wpAny_call (run_clsK FN ((hT _).trans hN) ((hT _).trans F.noA) ((hT _).trans F.noN) hC (PySem.W.looks_findIn I.kIn iC) (fun self => PySem.W.bind_fn I.kIn self tI) hus
    (codeAny_mono (F1.run _ X.stack _ _ ⟨Value.ref (hp.objs.size + 1) :: us, ks.zip ws⟩ _ _ _ (fun _ _ _ => False) ((hr.mono hk).make C us (ks.zip ws)) (I2.env0.make C us (ks.zip ws)) bd r2 hq) fun r s' hq' => ?_))
  cases r with
  | error er => exact hx pins σ _ _ er s' I2 hq'
  | ok fl =>
    cases fl with
    | ret u =>
      obtain ⟨v, H2, os2, bare2, un2, hok2, rv, ev, d, ea, ed, hd1, hne, eH⟩ := hq'
      subst ev
      obtain ⟨h2, g2, d2, t2, os'⟩ := s'
      obtain ⟨t0, G, J, kG, ge, hoe, na⟩ := mk_end0 (d2 := d2) (t2 := t2) I hsz kk un2 hok2 os2 bare2 ea ed hd1
      have J2 := J.laidN (h' := h2) (t' := t2) (o := exk (hp.objs.size + 1) (.ref C) (some d)) kG ge na (exk_ok hoe ⟨rfl, rfl⟩ rfl)
      refine ⟨rv, V.ref (hp.objs.size + 1), _, J2, rfl, ?_⟩
      have e : upd (upd (L2.del H2 (hp.objs.size + 1)) d (.xd (fs vs zs))) (hp.objs.size + 1) (exk (hp.objs.size + 1) (.ref C) (some d)) = upd (upd H d (.xd (fs vs zs))) (hp.objs.size + 1) (exk (hp.objs.size + 1) (.ref C) (some d)) := by
        funext b
        by_cases h1 : b = hp.objs.size + 1
        · rw [h1, upd_same, upd_same]
        · rw [upd_ne h1, upd_ne h1]
          by_cases h2 : b = d
          · rw [h2, upd_same, upd_same]
          · rw [upd_ne h2, upd_ne h2, del_ne h1, eH, upd_ne h1, upd_ne h2]
      rw [e]
      exact q _ d hna hd1 hne
    | next => exact False.elim hq'
    | brk => exact False.elim hq'
    | cont => exact False.elim hq'
theorem pe_made (F : Cl X.prog X.w X.K X.mg X.base x C n [] fs) (hr : Room j X.A) (hk : 2 ≤ j) (hx : Passes CX0 X (fun _ _ _ => False)) (hg : Gl X x) (ha : PA X (e :: es) ta)
    (hdb : (x == ("__debug__" : Str)) = false := by decide) (he : starEach (e :: es) X.env = (false, eval e X.env) :: starEach es X.env := by rfl) (hpl : (backTo pos (starEach es X.env)).any (·.1) = false := by rfl) :
    PE X (.Call (.Name x p) (e :: es) [] pos) (tMade C n 0 fs ta tNil) := by
  obtain ⟨fI, fd, ps, g, gV, sp, xB, B, nI, iI, tl, _, T, _, _, _, _, hm, _⟩ := F.ex
  refine ⟨fun pins s σ H Q I h => ?_⟩
  refine wpAny_Call_Name_kw (ld_glob I hg hm ?_ hdb)
  refine PySem.W.callWith_K (h₀ := X.base) I.ok.mod.kin T.kp (thn (ha.run pos pins s σ H _ I h) fun us s1 ⟨vs, H1, I1, r1, l1, l2, q1⟩ => ⟨I1.kIn, ?_⟩) he hpl
  exact run_made (ws := []) F hr hk hx I1 r1 .nil l1 l2 q1
theorem pe_madeK (F : Cl X.prog X.w X.K X.mg X.base x C 0 ks fs) (hr : Room j X.A) (hk : 2 ≤ j) (hx : Passes CX0 X (fun _ _ _ => False)) (hg : Gl X x) (hkw : PK X kws tk) (hall : (backToKw pos (keywordEach kws X.env)).all (·.1.isSome) = true := by rfl) (hks : (backToKw pos (keywordEach kws X.env)).filterMap (·.1) = ks := by rfl)
    (hdb : (x == ("__debug__" : Str)) = false := by decide)
    (hpl : ((backTo pos (starEach [] X.env)).any (·.1) || (backToKw pos (keywordEach kws X.env)).any (·.1.isNone)) = false := by rfl) :
    PE X (.Call (.Name x p) [] kws pos) (tMade C 0 ks.length fs tNil tk) := by
  obtain ⟨fI, fd, ps, g, gV, sp, xB, B, nI, iI, tl, _, T, _, _, _, _, hm, _⟩ := F.ex
  refine ⟨fun pins s σ H Q I h => ?_⟩
  refine wpAny_Call_Name_kw (ld_glob I hg hm ?_ hdb)
  refine PySem.W.callWith_KW0 (h₀ := X.base) I.ok.mod.kin T.kp hall ?_ hpl
  refine thn (hkw.run pos pins s σ H _ I h) fun ws s2 ⟨zs, H2, I2, rz, l1, l2, q2⟩ => ⟨I2.kIn, ?_⟩
  rw [hks]
  exact run_made (us := []) F hr hk hx I2 .nil rz l1 l2 q2
end
/-! ### exceptions as things -/
/-- v is an exception of the class at C with the fields fs -/
def ob (v : V) (C : Addr) (fs : List (Str × V)) (H : Hp) : Prop := ∃ a d : Addr, v = .ref a ∧ H a = some (exk a (.ref C) (some d)) ∧ H d = some (.xd fs)
theorem ob_mono {v : V} {C : Addr} {fs : List (Str × V)} {H H' : Hp} (e : Ext H H') (h : ob v C fs H) : ob v C fs H' := by
  obtain ⟨a, d, h1, h2, h3⟩ := h
  exact ⟨a, d, h1, e _ _ h2, e _ _ h3⟩
abbrev Fa.ob (v : V) (C : Addr) (fs : List (Str × V)) : Fa := .px (Fw.ob v C fs) ob_mono
section
variable {K : PySem.W.Frag} {H0 H : Hp} {Ms M0 : List Addr} {L : List (Addr × HO)} {R : List Fa} {C : Addr} {fs : List (Str × V)} {Q : VK} {v : V}
theorem W.ob (w : W K H0 Ms M0 H L R) (i : Nat) (h : R[i]? = some (.ob v C fs)) : Fw.ob v C fs H := ob_mono del_all (w.px i h)
theorem W.addX {q : Hp → Prop} {m : ∀ {H H' : Hp}, Ext H H' → q H → q H'} (w : W K H0 Ms M0 H L R) (h : q (del H (av L M0))) : W K H0 Ms M0 H L (.px q m :: R) := w.addF (r := .px q m) h
theorem w_made (hw : W K H0 Ms M0 H L R) (q : ∀ v H', W K H0 Ms M0 H' L (.ob v C fs :: R) → Q v H') :
    MkK C fs H Q := by
  refine fun a d ha hd hne => q _ _ ?_
  have w1 := hw.new hd (.xd fs)
  have ha1 : upd H d (.xd fs) a = none := by rw [upd_ne (Ne.symm hne)]; exact ha
  have w2 := w1.new ha1 (exk a (.ref C) (some d))
  have w3 := (w2.keep fun z => hw.al a z ha).keep fun z => hw.al d z hd
  exact (w3.addX (q := Fw.ob (.ref a) C fs) (m := ob_mono) ⟨a, d, rfl, w3.knA 1 rfl, w3.knA 0 rfl⟩).sub fun r hr => by
    rcases List.mem_cons.mp hr with rfl | hr
    · exact List.mem_cons_self ..
    · exact List.mem_cons_of_mem _ (List.mem_cons_of_mem _ (List.mem_cons_of_mem _ hr))
theorem x_isO {c : V} {u : Value} {b : Bool} {nI : String} {tl : List Value} (h : Fw.ob v C fs H) (T : Own K C nI tl) (k : ClsV c u) (e : PySem.W.kitOne K (.ref C) u = some b) (q : Q (.bl b) H) : uIsX K [v, c] H Q := by
  obtain ⟨a, d, rfl, h2, h3⟩ := h
  exact ⟨a, C, d, nI, tl, fs, b, h2, h3, T, q, .inl ⟨c, u, rfl, k, e⟩⟩
theorem x_fldO {f : Str} {y : V} {nI : String} {tl : List Value} (h : Fw.ob v C fs H) (T : Own K C nI tl) (hf : PySem.W.findIn K (.ref C) f = some none) (hl : fs.lookup f = some y) (q : Q y H) :
    ∃ (a C dd : Addr) (nI : String) (tl : List Value) (fs : List (Str × V)) (z : V), v = .ref a ∧ H a = some (exk a (.ref C) (some dd)) ∧ H dd = some (.xd fs) ∧ Own K C nI tl ∧ PySem.W.findIn K (.ref C) f = some none ∧ fs.lookup f = some z ∧ Q z H := by
  obtain ⟨a, d, rfl, h2, h3⟩ := h
  exact ⟨a, C, d, nI, tl, fs, y, rfl, h2, h3, T, hf, hl, q⟩
end
/-! the two makes of classes -/
section
variable {P : Program} {w : World} {K : PySem.W.Frag} {mg : Str → Option Value} {base : Heap} {x f g xB : Str} {C fI : Addr} {fd : FuncData} {B nI iI : String} {tl : List Value} {n : Nat} {ks : List Str}
def fs1 (f : Str) (l : List V) : List (Str × V) := [(f, l.headD .non)]
def fs2 (f g : Str) (l : List V) : List (Str × V) := [(g, l.getD 1 .non), (f, l.headD .non)]
theorem cl1 (F : Bs xB B nI iI tl) (T : Own K C nI tl) (iC : PySem.W.findIn K (.ref C) "__init__" = some (some (.ref fI))) (tI : PySem.W.typeIn K (.ref fI) = some (.type "function")) (F1 : FnOk P w K mg base CX0 1 fI fd ["self", f] (spInit1 C f)) (hm : mg x = some (.ref C))
    (hb : KBn K fd ["self", f] (n + 1) ks (fun us ws => us ++ ws) (fun vs zs => vs ++ zs)) (hn : n + ks.length = 1) : Cl P w K mg base x C n ks (fun vs zs => fs1 f (vs ++ zs)) := by
  refine ⟨fI, fd, _, _, _, _, xB, B, nI, iI, tl, F, T, iC, tI, F1, hb, hm, by omega, fun vs zs a H Q E l1 l2 ha q => ?_⟩
  have hl : (vs ++ zs).length = 1 := by rw [List.length_append]; omega
  obtain ⟨v, e⟩ : ∃ v, vs ++ zs = [v] := by
    match vs ++ zs, hl with
    | [v], _ => exact ⟨v, rfl⟩
  refine ⟨a, v, by rw [List.cons_append, e], upd_same, fun d hd hne => ?_⟩
  rw [upd_ne hne] at hd
  have h := q d hd hne
  rw [e] at h
  have e2 : upd (upd (upd H a (exo a C none)) d (exd d [(f, v)])) a (exo a C (some d)) = upd (upd H d (exd d [(f, v)])) a (exo a C (some d)) := by
    funext b
    by_cases h1 : b = a
    · rw [h1, upd_same, upd_same]
    · rw [upd_ne h1, upd_ne h1]
      by_cases h2 : b = d
      · rw [h2, upd_same, upd_same]
      · rw [upd_ne h2, upd_ne h2, upd_ne h1]
  rw [e2]
  exact h
theorem cl2 (F : Bs xB B nI iI tl) (T : Own K C nI tl) (iC : PySem.W.findIn K (.ref C) "__init__" = some (some (.ref fI))) (tI : PySem.W.typeIn K (.ref fI) = some (.type "function")) (F1 : FnOk P w K mg base CX0 1 fI fd ["self", f, g] (spInit2 C f g)) (hm : mg x = some (.ref C))
    (hb : KBn K fd ["self", f, g] (n + 1) ks (fun us ws => us ++ ws.reverse) (fun vs zs => vs ++ zs.reverse)) (hn : n + ks.length = 2) : Cl P w K mg base x C n ks (fun vs zs => fs2 f g (vs ++ zs.reverse)) := by
  refine ⟨fI, fd, _, _, _, _, xB, B, nI, iI, tl, F, T, iC, tI, F1, hb, hm, by omega, fun vs zs a H Q E l1 l2 ha q => ?_⟩
  have hl : (vs ++ zs.reverse).length = 2 := by rw [List.length_append, List.length_reverse]; omega
  obtain ⟨v, y, e⟩ : ∃ v y, vs ++ zs.reverse = [v, y] := by
    match vs ++ zs.reverse, hl with
    | [v, y], _ => exact ⟨v, y, rfl⟩
  refine ⟨a, v, y, by rw [List.cons_append, e], upd_same, fun d hd hne => ?_⟩
  rw [upd_ne hne] at hd
  have h := q d hd hne
  rw [e] at h
  have e2 : upd (upd (upd (upd H a (exo a C none)) d (exd d [(f, v)])) a (exo a C (some d))) d (exd d [(g, y), (f, v)]) = upd (upd H d (exd d [(g, y), (f, v)])) a (exo a C (some d)) := by
    funext b
    by_cases h2 : b = d
    · rw [h2, upd_same, upd_ne hne, upd_same]
    · rw [upd_ne h2]
      by_cases h1 : b = a
      · rw [h1, upd_same, upd_same]
      · rw [upd_ne h1, upd_ne h1, upd_ne h2, upd_ne h2, upd_ne h1]
  rw [e2]
  exact h
end
end Fw
namespace Fw
open PySem PySem.Spec PyProof.Rows L2
/-! ### further steps -/
theorem x_gSub {to ti : TE} {t : TSet} {v : V} {σ : L2.St} {H : Hp} {QS : L2.St → Hp → Prop} (q : to σ H fun o H2 => ti σ H2 fun k H3 => t o k v H3 fun H4 => QS σ H4) : gSub to ti t v σ H QS := q
theorem x_iZipA {K : PySem.W.Frag} {ta : TA} {σ : L2.St} {H : Hp} {R : It → Hp → Prop} (q : ta σ H fun vs H1 => ∃ a b xs ys, vs = [.ref a, .ref b] ∧ ((SqL K H1 a xs ∧ SqL K H1 b ys ∧ R (Itz K a b) H1) ∨ (SqT K H1 a xs ∧ SqT K H1 b ys ∧ R (RZ.ItzT K a b) H1))) : RZ.iZipA K ta σ H R := q
theorem walk_zipT {K : PySem.W.Frag} {a b : Addr} {xs ys : List V} {n : Nat} (hn : n = min xs.length ys.length) : Walk (RZ.ItzT K a b) n (fun H => SqT K H a xs ∧ SqT K H b ys) (YPair (fun i => xs[i]?) (fun i => ys[i]?)) := by
  subst hn
  refine ⟨fun i _ hi q => ?_, fun _ q => ⟨xs, ys, q.1, q.2, by omega⟩, fun i H v H' _ q y => ?_⟩
  · have h1 : i < xs.length := by omega
    have h2 : i < ys.length := by omega
    exact ⟨xs, ys, xs[i], ys[i], q.1, q.2, by simp [h1], by simp [h2]⟩
  · obtain ⟨T, x, z, h1, h2, h3, h4, h5⟩ := y
    exact ⟨T, x, z, h1, h2, h3, h4 xs q.1, h5 ys q.2⟩
section
variable {K : PySem.W.Frag} {H0 H : Hp} {Ms M0 : List Addr} {L : List (Addr × HO)} {R R' : List Fa}
theorem W.subS (w : W K H0 Ms M0 H L R) (h : R'.Sublist R) : W K H0 Ms M0 H L R' := w.sub fun _ hr => h.subset hr
theorem w_repD {p : Addr} {ds : List PyData} {Q : VK} (n : Nat) (hw : W K H0 Ms M0 H L R) (h1 : Rp K (av L M0) H (.ref p) (.list ds)) (h2 : n ≤ 100) (h3 : ds.length ≤ 100) (k : ∀ p H', H p = none → W K H0 Ms M0 H' L (.rp (.ref p) (.list (List.replicate n ds).flatten) :: R) → Q (.ref p) H') : uMul K (.ref p) (.int (n : Int)) H Q := by
  obtain ⟨xs, hx, rx⟩ := Rp.unL h1
  have key : ∀ n, RpAll K (av L M0) H (List.replicate n xs).flatten (List.replicate n ds).flatten := fun n => by
    induction n with
    | zero => exact .nil
    | succ n ih => rw [List.replicate_succ, List.replicate_succ, List.flatten_cons, List.flatten_cons]; exact rx.append ih
  refine .inr (.inl ⟨p, n, xs, rfl, rfl, hx, by omega, by omega, ?_, fun l hl => k l _ hl (hw.newLst hl (key n))⟩)
  rw [rx.length, Int.toNat_natCast]
  exact sz_of (Nat.le_trans (Nat.mul_le_mul h3 h2) (by decide))
end
end Fw
namespace Fw
open PySem PySem.Spec PyProof.Rows
open PySem.Sem (wp)
/-! ### strict zip over two iterators of any kind -/
abbrev IsZipS (h : Heap) (z TI TO : Addr) (f0 : Value) : Prop := h.get? z = some { cls := .type "zip", data := .fields #[f0, .bool false, .bool true, .ref TI, .ref TO] }
section
variable {prog : Program} {w : World} {A : Around} {E : Value → Shared → Prop} {s : Shared} {z TI TO i1 i2 it : Addr} {fp fp1 fp2 : List Addr} {n n1 n2 i : Nat} {P P1 P2 : Nat → Value → Prop} {St St1 St2 : Nat → Heap → Prop} {a1 a2 : Value}
theorem orEnd_of_next {Q : Option Value → Shared → Prop} (h : wpAny (model prog w) A (pyNext (.ref it)) Q E s) : wpAny (model prog w) A (Builtin.SmallTypes.nextOrEnd (.ref it)) Q E s := fun Γ p hΓ => by
  have h := h Γ p hΓ
  simp only [pyNext, Sem.wp_bind', Sem.wp_attempt] at h
  simp only [Builtin.SmallTypes.nextOrEnd, Builtin.SmallTypes.nextOf, Sem.wp_bind', Sem.wp_attempt]
  refine Sem.wp_mono _ Γ _ (fun a p' s' h' => ?_) (fun e p' s' h' => h') p s h
  cases a with
  | none =>
    have h' : wp (model prog w) Γ (unsupported "iter:the-iterator's-class-has-lost-its-__next__-amid-the-walk" : Sem (Option Value)) _ _ p' s' := h'
    exact (by simpa [unsupported] using h' : False).elim
  | some v => simpa using h'
/-- an iterator: what it draws, to its end -/
structure DrE (prog : Program) (w : World) (A : Around) (it : Addr) (fp : List Addr) (n : Nat) (P : Nat → Value → Prop) (St : Nat → Heap → Prop) : Prop where
  live : ∀ i h, St i h → ∃ o, h.get? it = some o
  frame : ∀ i h h', St i h → (∀ b ∈ fp, ∀ o, h.get? b = some o → h'.get? b = some o) → St i h'
  item : ∀ i (s : Shared) (Q : Option Value → Shared → Prop) (E : Value → Shared → Prop), i < n → St i s.heap →
    (∀ x h' tk, P i x → St (i + 1) h' → Heap.SameBut it s.heap h' → Q (some x) { s with heap := h', toks := tk }) → wpAny (model prog w) A (Builtin.SmallTypes.nextOrEnd (.ref it)) Q E s
  done : ∀ (s : Shared) (Q : Option Value → Shared → Prop) (E : Value → Shared → Prop), St n s.heap →
    (∀ h', Heap.ExtBut it s.heap h' → Q none { s with heap := h' }) → wpAny (model prog w) A (Builtin.SmallTypes.nextOrEnd (.ref it)) Q E s
theorem DrE.over (D : DrE prog w A it fp n P St) {i : Nat} {h h' : Heap} {x : Addr} (st : St i h) (hs : Heap.SameBut x h h') (hx : x ∉ fp) : St i h' :=
  D.frame i h h' st fun b hb o e => hs.extBut b o (fun q => hx (q ▸ hb)) e
theorem dre (D : Draws prog w A it fp n P St) : DrE prog w A it fp n P St where
  live := D.live
  frame := D.frame
  item := fun i s Q E hlt st hQ => by
    unfold Builtin.SmallTypes.nextOrEnd
    exact wpAny_bind (wpAny_attempt (D.item i s _ _ hlt st fun x h' tk hx sn hs => wpAny_pure (hQ x h' tk hx sn hs)))
  done := fun s Q E st hQ => by
    unfold Builtin.SmallTypes.nextOrEnd
    refine wpAny_bind (wpAny_attempt (D.done s _ _ st fun h' e hx he => ?_))
    obtain ⟨o, ho, hc⟩ := he
    refine wpAny_bind (wpAny_isInstance (T := "StopIteration") (b := true) ⟨o, ho, hc⟩ isSubtype_stop ?_)
    exact wpAny_pure (hQ _ hx)
theorem orEnd_item {Q : Option Value → Shared → Prop} (D : DrE prog w A it fp n P St) (hlt : i < n) (st : St i s.heap)
    (hQ : ∀ x h' tk, P i x → St (i + 1) h' → Heap.SameBut it s.heap h' → Q (some x) { s with heap := h', toks := tk }) : wpAny (model prog w) A (Builtin.SmallTypes.nextOrEnd (.ref it)) Q E s := D.item i s Q E hlt st hQ
theorem orEnd_done {Q : Option Value → Shared → Prop} (D : DrE prog w A it fp n P St) (st : St n s.heap)
    (hQ : ∀ h', Heap.ExtBut it s.heap h' → Q none { s with heap := h' }) : wpAny (model prog w) A (Builtin.SmallTypes.nextOrEnd (.ref it)) Q E s := D.done s Q E st hQ
theorem stop_it {Q : Fin → Shared → Prop} (hh : A.handled = none) (hE : ∀ h' e, (∀ c o, s.heap.get? c = some o → h'.get? c = some o) → (∃ o, h'.get? e = some o ∧ o.cls = .type "StopIteration") → E (.ref e) { s with heap := h' }) :
    wpAny (model prog w) A (Builtin.SmallTypes.stopIteration : Sem Fin) Q E s := by
  unfold Builtin.SmallTypes.stopIteration
  show wpAny _ _ (newExc (.type "StopIteration") [] >>= _) _ _ _
  refine wpAny_bind ?_
  simp only [newExc, newTuple]
  refine wpAny_bind (wpAny_newObj_type ?_ (by size_fits))
  refine wpAny_bind (m := firstArgMember _ _) (wpAny_of_eq (a := Value.none) (by first | rfl | (simp only [firstArgMember]; rfl)) ?_)
  refine wpAny_newObj_type ?_ (by size_fits)
  simp only [raiseNew]
  refine wpAny_bind (wpAny_handled ?_)
  first | rw [show A.in1.handled = none from hh] | rw [hh]
  refine wpAny_bind (wpAny_pure (wpAny_throw ?_))
  exact hE _ _ (fun c o e => Heap.get?_push_of_some _ (Heap.get?_push_of_some _ e)) ⟨_, Heap.get?_push_size _ rfl, rfl⟩
theorem zipS_next_item {Q : Value → Shared → Prop} (S : ZipSep2 z TI TO i1 i2 fp1 fp2) (D1 : DrE prog w A i1 fp1 n1 P1 St1) (D2 : DrE prog w A i2 fp2 n2 P2 St2)
    (hz : IsZipS s.heap z TI TO .none) (hTI : IsTupOf2 s.heap TI (.ref i1) (.ref i2)) (hTO : IsTupOf2 s.heap TO a1 a2) (st1 : St1 i s.heap) (st2 : St2 i s.heap) (hlt1 : i < n1) (hlt2 : i < n2)
    (hQ : ∀ x1 x2 h' tk, P1 i x1 → P2 i x2 → IsZipS h' z TI TO (rawInt s.heap.objs.size) → IsTupOf2 h' TO x1 x2 → St1 (i + 1) h' → St2 (i + 1) h' → IsTupOf2 h' s.heap.objs.size x1 x2 → h'.objs.size = s.heap.objs.size + 1 →
      (∀ c o, c ≠ z → c ≠ TO → c ≠ i1 → c ≠ i2 → s.heap.get? c = some o → h'.get? c = some o) → Q (.ref s.heap.objs.size) { s with heap := h', toks := tk }) :
    wpAny (model prog w) A (Builtin.«zip.__next__» ⟨[.ref z], []⟩) (fun fin s' => ∃ v, fin = .done (.ret v) ∧ Q v s') E s := by
  obtain ⟨hp, g, d, tk0, os⟩ := s
  show wpAny _ _ (field (.ref z) 2 >>= _) _ _ _
  refine wpAny_bind (wpAny_field hz rfl (x := .bool true) rfl ?_)
  show wpAny _ _ (field (.ref z) 3 >>= _) _ _ _
  refine wpAny_bind (wpAny_field hz rfl (x := .ref TI) rfl ?_)
  refine wpAny_bind (wpAny_seqItems hTI rfl ?_)
  show wpAny _ _ (Builtin.SmallTypes.ownedTupleIsFree (.ref z) >>= _) _ _ _
  refine wpAny_bind ?_
  unfold Builtin.SmallTypes.ownedTupleIsFree
  refine wpAny_bind (wpAny_field hz rfl (x := .none) rfl (wpAny_pure ?_))
  simp only [if_true]
  refine wpAny_bind (wpAny_rule ?_)
  refine wpAny_bind (wpAny_field hz rfl (x := .ref TO) rfl ?_)
  refine wpAny_bind (wpAny_setField_rec hz (by simp) fun g0 hz0 hs0 => ?_)
  replace hz0 : IsZipS g0 z TI TO .ellipsis := hz0
  replace hs0 : Heap.SameBut z hp g0 := hs0
  refine wpAny_bind ?_
  simp only [List.zipIdx_cons, List.zipIdx_nil, List.forIn_cons, List.forIn_nil]
  refine wpAny_bind (wpAny_bind (wpAny_onRaise ?_))
  show wpAny _ _ (Builtin.SmallTypes.nextOrEnd (.ref i1)) _ _ ⟨g0, g, d, tk0, os⟩
  refine orEnd_item (s := ⟨g0, g, d, tk0, os⟩) D1 hlt1 (D1.over st1 hs0 S.zf1) fun x1 p1 tk1 hx1 sn1 hp1 => ?_
  replace hp1 : Heap.SameBut i1 g0 p1 := hp1
  have hU1 : IsTupOf2 p1 TO a1 a2 := hp1.extBut _ _ S.Ti1 (hs0.extBut _ _ S.TOz hTO)
  refine wpAny_bind (wpAny_seqItems (s := ⟨p1, g, d, tk1, os⟩) hU1 rfl ?_)
  refine wpAny_bind (updateSeq_IsTupOf2 (s := ⟨p1, g, d, tk1, os⟩) hU1 fun g1 hT1 hs1 => ?_)
  replace hT1 : IsTupOf2 g1 TO x1 a2 := hT1
  replace hs1 : Heap.SameBut TO p1 g1 := hs1
  refine wpAny_bind (wpAny_letGo (wpAny_pure ?_))
  refine wpAny_bind (wpAny_bind (wpAny_onRaise ?_))
  show wpAny _ _ (Builtin.SmallTypes.nextOrEnd (.ref i2)) _ _ ⟨g1, g, d, tk1, os⟩
  refine orEnd_item (s := ⟨g1, g, d, tk1, os⟩) D2 hlt2 (D2.over (D2.over (D2.over st2 hs0 S.zf2) hp1 S.sep1_2) hs1 S.Tf2) fun x2 p2 tk2 hx2 sn2 hp2 => ?_
  replace hp2 : Heap.SameBut i2 g1 p2 := hp2
  have hU2 : IsTupOf2 p2 TO x1 a2 := hp2.extBut _ _ S.Ti2 hT1
  refine wpAny_bind (wpAny_seqItems (s := ⟨p2, g, d, tk2, os⟩) hU2 rfl ?_)
  refine wpAny_bind (updateSeq_IsTupOf2 (s := ⟨p2, g, d, tk2, os⟩) hU2 fun g2 hT2 hs2 => ?_)
  replace hT2 : IsTupOf2 g2 TO x1 x2 := hT2
  replace hs2 : Heap.SameBut TO p2 g2 := hs2
  refine wpAny_bind (wpAny_letGo (wpAny_pure (wpAny_pure ?_)))
  refine wpAny_bind (wpAny_seqItems (s := ⟨g2, g, d, tk2, os⟩) hT2 rfl ?_)
  refine wpAny_bind (wpAny_newTuple ?_)
  have hsz : g2.objs.size = hp.objs.size := by rw [hs2.1, hp2.1, hs1.1, hp1.1, hs0.1]
  have hzz : IsZipS g2 z TI TO .ellipsis := (hs2.extBut _ _ S.TOz.symm (hp2.extBut _ _ S.zi2 (hs1.extBut _ _ S.TOz.symm (hp1.extBut _ _ S.zi1 hz0))))
  have hkk : ∀ c o, c ≠ z → c ≠ TO → c ≠ i1 → c ≠ i2 → hp.get? c = some o → g2.get? c = some o := fun c o cz cT c1 c2 e =>
    (hs2.extBut _ _ cT (hp2.extBut _ _ c2 (hs1.extBut _ _ cT (hp1.extBut _ _ c1 (hs0.extBut _ _ cz e)))))
  have hj1 : St1 (i + 1) g2 := (D1.over (D1.over (D1.over sn1 hs1 S.Tf1) hp2 S.sep2_1) hs2 S.Tf1)
  have hj2 : St2 (i + 1) g2 := (D2.over sn2 hs2 S.Tf2)
  have hzlt : z < g2.objs.size := Heap.lt_size hzz
  show wpAny _ _ (Builtin.SmallTypes.ownedTupleHandOut (.ref z) (.ref g2.objs.size) >>= _) _ _ ⟨g2.push { cls := .type "tuple", data := .seq #[x1, x2] }, g, d, tk2, os⟩
  refine wpAny_bind ?_
  unfold Builtin.SmallTypes.ownedTupleHandOut
  have hz₆ : IsZipS (g2.push { cls := .type "tuple", data := .seq #[x1, x2] }) z TI TO .ellipsis := Heap.get?_push_of_some _ hzz
  refine wpAny_bind (wpAny_setField_rec hz₆ (by simp) fun h₇ hz₇ hs₇ => ?_)
  replace hz₇ : IsZipS h₇ z TI TO (rawInt g2.objs.size) := hz₇
  refine wpAny_setField_rec hz₇ (by simp) fun h₈ hz₈ hs₈ => ?_
  replace hz₈ : IsZipS h₈ z TI TO (rawInt g2.objs.size) := hz₈
  replace hs₇ : Heap.SameBut z (g2.push { cls := .type "tuple", data := .seq #[x1, x2] }) h₇ := hs₇
  replace hs₈ : Heap.SameBut z h₇ h₈ := hs₈
  have up : ∀ c o, c ≠ z → g2.get? c = some o → h₈.get? c = some o := fun c o c1 e => hs₈.extBut _ _ c1 (hs₇.extBut _ _ c1 (Heap.get?_push_of_some _ e))
  have hT₈ : IsTupOf2 h₈ g2.objs.size x1 x2 := hs₈.extBut _ _ (Nat.ne_of_gt hzlt) (hs₇.extBut _ _ (Nat.ne_of_gt hzlt) (Heap.get?_push_size _ rfl))
  have hz8 : h₈.objs.size = g2.objs.size + 1 := by rw [hs₈.1, hs₇.1, Heap.size_push]
  rw [hsz] at hz₈ hT₈ hz8
  refine wpAny_pure ⟨_, rfl, ?_⟩
  show Q (.ref g2.objs.size) ⟨h₈, g, d, tk2, os⟩
  rw [hsz]
  exact hQ x1 x2 h₈ tk2 hx1 hx2 hz₈ (up _ _ S.TOz hT2) (D1.frame _ _ _ hj1 fun b hb o e => up b o (fun q => S.zf1 (q ▸ hb)) e) (D2.frame _ _ _ hj2 fun b hb o e => up b o (fun q => S.zf2 (q ▸ hb)) e) hT₈ hz8 fun c o cz cT c1 c2 e => up c o cz (hkk c o cz cT c1 c2 e)
theorem zipS_next_end {Q : Fin → Shared → Prop} (hh : A.handled = none) (S : ZipSep2 z TI TO i1 i2 fp1 fp2) (D1 : DrE prog w A i1 fp1 n P1 St1) (D2 : DrE prog w A i2 fp2 n P2 St2)
    (hz : IsZipS s.heap z TI TO .none) (hTI : IsTupOf2 s.heap TI (.ref i1) (.ref i2)) (st1 : St1 n s.heap) (st2 : St2 n s.heap)
    (hE : ∀ h' e, (∀ c o, c ≠ z → c ≠ TO → c ≠ i1 → c ≠ i2 → s.heap.get? c = some o → h'.get? c = some o) → (∃ o, h'.get? e = some o ∧ o.cls = .type "StopIteration") → E (.ref e) { s with heap := h' }) :
    wpAny (model prog w) A (Builtin.«zip.__next__» ⟨[.ref z], []⟩) Q E s := by
  obtain ⟨hp, g, d, tk0, os⟩ := s
  show wpAny _ _ (field (.ref z) 2 >>= _) _ _ _
  refine wpAny_bind (wpAny_field hz rfl (x := .bool true) rfl ?_)
  show wpAny _ _ (field (.ref z) 3 >>= _) _ _ _
  refine wpAny_bind (wpAny_field hz rfl (x := .ref TI) rfl ?_)
  refine wpAny_bind (wpAny_seqItems hTI rfl ?_)
  show wpAny _ _ (Builtin.SmallTypes.ownedTupleIsFree (.ref z) >>= _) _ _ _
  refine wpAny_bind ?_
  unfold Builtin.SmallTypes.ownedTupleIsFree
  refine wpAny_bind (wpAny_field hz rfl (x := .none) rfl (wpAny_pure ?_))
  simp only [if_true]
  refine wpAny_bind (wpAny_rule ?_)
  refine wpAny_bind (wpAny_field hz rfl (x := .ref TO) rfl ?_)
  refine wpAny_bind (wpAny_setField_rec hz (by simp) fun g0 hz0 hs0 => ?_)
  replace hz0 : IsZipS g0 z TI TO .ellipsis := hz0
  replace hs0 : Heap.SameBut z hp g0 := hs0
  refine wpAny_bind ?_
  simp only [List.zipIdx_cons, List.zipIdx_nil, List.forIn_cons, List.forIn_nil]
  refine wpAny_bind (wpAny_bind (wpAny_onRaise ?_))
  show wpAny _ _ (Builtin.SmallTypes.nextOrEnd (.ref i1)) _ _ ⟨g0, g, d, tk0, os⟩
  refine orEnd_done (s := ⟨g0, g, d, tk0, os⟩) D1 (D1.over st1 hs0 S.zf1) fun q1 hq1 => ?_
  replace hq1 : Heap.ExtBut i1 g0 q1 := hq1
  have hzq : IsZipS q1 z TI TO .ellipsis := hq1 _ _ S.zi1 hz0
  refine wpAny_bind (wpAny_setField_rec (s := ⟨q1, g, d, tk0, os⟩) hzq (by simp) fun q2 _ hq2 => ?_)
  replace hq2 : Heap.SameBut z q1 q2 := hq2
  refine wpAny_bind ?_
  refine wpAny_mono (Q := fun _ _ => False) (E := E) ?_ (fun _ _ z => z.elim) (fun _ _ z => z)
  show wpAny (model prog w) A (do
    if (0 : Nat) > 0 then
      rule "zip.__next__.shorter"; raiseError "ValueError" s!"zip() argument {0 + 1} is shorter than {if (0 == 1) = true then "argument 1" else s!"arguments 1-{0}"}"
    for (it, j) in ([Value.ref i1, Value.ref i2].drop 1).zipIdx 1 do
      if (← Builtin.SmallTypes.nextOrEnd it).isSome then
        rule "zip.__next__.longer"; raiseError "ValueError" s!"zip() argument {j + 1} is longer than {if (j == 1) = true then "argument 1" else s!"arguments 1-{j}"}"
    rule "zip.__next__.all-ended"; Builtin.SmallTypes.stopIteration) _ _ ⟨q2, g, d, tk0, os⟩
  dsimp only
  rw [if_neg (by decide)]
  simp only [List.drop_succ_cons, List.drop_zero, List.zipIdx_cons, List.zipIdx_nil, List.forIn_cons, List.forIn_nil]
  have hst2 : St2 n q2 := D2.frame _ _ _ st2 fun b hb o e => hq2.extBut _ _ (fun q => S.zf2 (q ▸ hb)) (hq1 _ _ (fun q => S.sep1_2 (q ▸ hb)) (hs0.extBut _ _ (fun q => S.zf2 (q ▸ hb)) e))
  refine wpAny_bind (wpAny_bind (wpAny_bind (orEnd_done (s := ⟨q2, g, d, tk0, os⟩) D2 hst2 fun q3 hq3 => ?_)))
  replace hq3 : Heap.ExtBut i2 q2 q3 := hq3
  rw [if_neg (by simp)]
  refine wpAny_pure (wpAny_pure (wpAny_bind (wpAny_rule ?_)))
  refine stop_it (s := ⟨q3, g, d, tk0, os⟩) hh fun h' e hk he => ?_
  exact hE h' e (fun c o cz cT c1 c2 x => hk _ _ (hq3 _ _ c2 (hq2.extBut _ _ cz (hq1 _ _ c1 (hs0.extBut _ _ cz x))))) he
theorem pyNext_zipS_item {Q : Option Value → Shared → Prop} (S : ZipSep2 z TI TO i1 i2 fp1 fp2) (D1 : DrE prog w A.in1 i1 fp1 n1 P1 St1) (D2 : DrE prog w A.in1 i2 fp2 n2 P2 St2)
    (hz : IsZipS s.heap z TI TO .none) (hTI : IsTupOf2 s.heap TI (.ref i1) (.ref i2)) (hTO : IsTupOf2 s.heap TO a1 a2) (st1 : St1 i s.heap) (st2 : St2 i s.heap) (hlt1 : i < n1) (hlt2 : i < n2)
    (hQ : ∀ x1 x2 h' tk, P1 i x1 → P2 i x2 → IsZipS h' z TI TO (rawInt s.heap.objs.size) → IsTupOf2 h' TO x1 x2 → St1 (i + 1) h' → St2 (i + 1) h' → IsTupOf2 h' s.heap.objs.size x1 x2 → h'.objs.size = s.heap.objs.size + 1 →
      (∀ c o, c ≠ z → c ≠ TO → c ≠ i1 → c ≠ i2 → s.heap.get? c = some o → h'.get? c = some o) → Q (some (.ref s.heap.objs.size)) { s with heap := h', toks := tk }) :
    wpAny (model prog w) A (pyNext (.ref z)) Q E s := by
  have hT : s.TypeIs (.ref z) "zip" := ⟨_, hz, rfl⟩
  unfold pyNext
  exact wpAny_bind (wpAny_attempt (wpAny_callSpecial?_slot (name := Str.ofString "__next__") hT F.slot_zip_next
    (wpAny_call_entry F.slot_zip_next hT F.entry_zip_next
      (zipS_next_item S D1 D2 hz hTI hTO st1 st2 hlt1 hlt2 fun x1 x2 h' tk y1 y2 b1 b2 d1 d2 b5 b6 b7 => wpAny_pure (hQ x1 x2 h' tk y1 y2 b1 b2 d1 d2 b5 b6 b7)) (F.args_zip_next_1 _))))
theorem pyNext_zipS_end {Q : Option Value → Shared → Prop} (hh : A.handled = none) (S : ZipSep2 z TI TO i1 i2 fp1 fp2) (D1 : DrE prog w A.in1 i1 fp1 n P1 St1) (D2 : DrE prog w A.in1 i2 fp2 n P2 St2)
    (hz : IsZipS s.heap z TI TO .none) (hTI : IsTupOf2 s.heap TI (.ref i1) (.ref i2)) (st1 : St1 n s.heap) (st2 : St2 n s.heap)
    (hQ : ∀ h', (∀ c o, c ≠ z → c ≠ TO → c ≠ i1 → c ≠ i2 → s.heap.get? c = some o → h'.get? c = some o) → Q none { s with heap := h' }) : wpAny (model prog w) A (pyNext (.ref z)) Q E s := by
  have hT : s.TypeIs (.ref z) "zip" := ⟨_, hz, rfl⟩
  unfold pyNext
  refine wpAny_bind (wpAny_attempt (wpAny_callSpecial?_slot (name := Str.ofString "__next__") hT F.slot_zip_next
    (wpAny_call_entry F.slot_zip_next hT F.entry_zip_next (zipS_next_end (A := A.in1) hh S D1 D2 hz hTI st1 st2 fun h' e hk he => ?_) (F.args_zip_next_1 _))))
  obtain ⟨o, ho, hc⟩ := he
  refine wpAny_bind (wpAny_isInstance (T := "StopIteration") (b := true) ⟨o, ho, hc⟩ isSubtype_stop ?_)
  exact wpAny_pure (hQ _ hk)
theorem letGo_zipS {elts : List Expr} {x1} {pos : Pos} {T : Addr} {Q : Unit → Shared → Prop} (hz : IsZipS s.heap z TI TO (rawInt T))
    (hQ : ∀ h', IsZipS h' z TI TO .none → Heap.SameBut z s.heap h' → Q () { s with heap := h' }) :
    wpAny (model prog w) A (letOwnedTupleGo (.Tuple elts x1 pos) (.ref z) (.ref T)) Q E s := by
  unfold letOwnedTupleGo
  refine wpAny_bind (wpAny_load hz ?_)
  show wpAny _ _ (if (["enumerate", "zip", "dict_itemiterator", "dict_reverseitemiterator", "odict_iterator", "itertools.zip_longest", "itertools.pairwise"].contains "zip" &&
      (#[rawInt T, .bool false, .bool true, .ref TI, .ref TO] : Array Value)[0]? == some (rawInt T)) = true then _ else _) Q E s
  rw [if_pos (by simp)]
  refine wpAny_bind (wpAny_rule ?_)
  show wpAny _ _ (setField (.ref z) 0 .none) Q E s
  exact wpAny_setField_rec hz (by simp) fun h' hz' hs' => hQ h' hz' hs'
theorem pyIter_zipS {f0 : Value} {Q : Value → Shared → Prop} (hz : IsZipS s.heap z TI TO f0) (h : Q (.ref z) s) : wpAny (model prog w) A (pyIter (.ref z)) Q E s := by
  have hT : s.TypeIs (.ref z) "zip" := ⟨_, hz, rfl⟩
  refine wpAny_pyIter_slot hT F.slot_zip_iter (wpAny_call_entry F.slot_zip_iter hT F.entry_zip_iter ?_ (F.args_zip_iter_1 _))
  show wpAny _ _ (ret (.ref z)) _ _ s
  exact wpAny_pure ⟨_, rfl, "zip", _, hT, F.slot_zip_next.lookup, h⟩
end
end Fw
namespace Fw
open PySem PySem.Spec PyProof.Rows
open PySem.Sem (wp)
section
variable {prog : Program} {w : World} {A : Around} {E : Value → Shared → Prop} {s : Shared}
theorem object_init_meetsK {T newId : String} {self a : Value} {rest : List Value} {kw : List (Str × Value)} (hl : typeLookup (.type T) "__init__" = pure (some (.builtin "object.__init__")))
    (hm : Bind.madeBy (.type T) = pure (some newId)) (hne : (some newId != some "object.__new__") = true) :
    Meets (Builtin.«object.__init__» ⟨self :: a :: rest, kw⟩) (fun _ R s => s.TypeIs self T ∧ R (.ok (.ret .none)) s) := by
  refine Meets.of_wp fun prog w A R s hs => ?_
  obtain ⟨hT, hq⟩ := hs
  repeat (any_goals (first | assumption | wp_step))
  exact ⟨_, rfl, hq⟩
theorem callType_newK {T newId : String} {Bn : Builtin} {a : Value} {args : List Value} {kw : List (Str × Value)} {S : PySem.Spec} {Q : Value → Shared → Prop} (ft : TypeCalled T newId "object.__init__")
    (hne : (some newId != some "object.__new__") = true) (hct : checkTypeCall T ⟨a :: args, kw⟩ = pure ()) (hcn : checkBuiltinCall newId ⟨.type T :: a :: args, kw⟩ = pure ())
    (hok : ∀ obj, argsOk "object.__init__" ⟨obj :: a :: args, kw⟩) (entryN : entryFor table newId = some Bn) (g : Meets (Bn ⟨.type T :: a :: args, kw⟩) S)
    (h : S A.in1 (wants (fun obj s₁ => s₁.TypeIs obj T ∧ Q obj s₁) E) s) : wpAny (model prog w) A (call (.type T) (a :: args) kw) Q E s := by
  obtain ⟨c, tl, hmro⟩ := ft.mro
  have hmade := ft.made
  have hsub := ft.sub
  refine wpAny_call (codeAny_of_tree ?_)
  show wpAny _ _ (callAny (.type T) _) _ _ _
  refine wpAny_pure ⟨Code.quiet_builtin _ (by decide +kernel), codeAny_builtin F.entry_type_call ?_⟩
  rw [Around.under_plain (weight_type_call_type T (a :: args) kw) (units_type_call_type T (a :: args) kw)]
  have h1 := ft.notType
  have h2 := ft.canCreate
  repeat (any_goals (first | assumption | wp_step))
  refine codeAny_mono (codeAny_call_builtin ft.plain entryN (wpAny_of_eq hcn (g prog w A.in1 _ s h))) fun r s₁ hr => ?_
  cases r with
  | error e => exact hr
  | ok fl =>
    cases fl with
    | ret obj =>
      have hT := hr.1
      have hli := ft.init.lookup
      have hbi := ft.init.bind obj
      repeat (any_goals (first | assumption | wp_step))
      refine codeAny_mono (codeAny_call_builtin ft.init.plain F.entry_object_init (ft.init.check _ _ _ _ _ _ _ _ hT (hok obj) (object_init_meetsK ft.init.lookup ft.made hne prog w A.in1 _ s₁ ⟨hT, (show wants (fun r s₂ => r = .none ∧ Q obj s₂) E (.ok (.ret .none)) s₁ from ⟨rfl, hr.2⟩)⟩))) fun r₂ s₂ hr₂ => ?_
      cases r₂ with
      | error e => exact hr₂
      | ok fl₂ =>
        cases fl₂ with
        | ret r =>
          obtain ⟨rfl, hq⟩ := hr₂
          repeat (any_goals (first | assumption | wp_step))
        | _ => exact hr₂.elim
    | _ => exact hr.elim
end
abbrev kwS (b : Bool) : List (Str × Value) := [("strict", .bool b)]
theorem tc_zipK (a b : Value) (k : Bool) : checkTypeCall "zip" ⟨[a, b], kwS k⟩ = pure () := by kernel_rfl
theorem nc_zipK (a b : Value) (k : Bool) : checkBuiltinCall "zip.__new__" ⟨[.type "zip", a, b], kwS k⟩ = pure () := by kernel_rfl
theorem oi_3K (obj a b : Value) (k : Bool) : argsOk "object.__init__" ⟨[obj, a, b], kwS k⟩ := by unfold argsOk; kernel_rfl
abbrev gzZS (h : Heap) (o1 o2 : Obj) : Heap := (gzO2 h o1 o2).push { cls := .type "zip", data := .fields #[.none, .bool false, .bool true, .ref ((h.push o1).push o2).objs.size, .ref (gzT2 h o1 o2).objs.size] }
theorem meets_zip_newK {v1 v2 : Value} {o1 o2 : Obj} {H1 H2 : Heap → Prop} (B1 : Begins v1 o1 H1) (B2 : Begins v2 o2 H2) :
    Meets (Builtin.«zip.__new__» ⟨[.type "zip", v1, v2], kwS true⟩) (fun _ R s => (H1 s.heap ∧ H2 s.heap) ∧
      R (.ok (.ret (.ref (gzO2 s.heap o1 o2).objs.size))) { s with heap := gzZS s.heap o1 o2 }) :=
  .of_wp fun prog w A R s h => by
    obtain ⟨hp, g, d, tk, os⟩ := s; obtain ⟨⟨h1, h2⟩, h⟩ := h
    have hsub := sub_zip
    have q1 : ∀ {A' : Around} {E : Value → Shared → Prop} {Q : Value → Shared → Prop}, Q (.ref hp.objs.size) ⟨(hp.push o1), g, d, tk, os⟩ → wpAny (model prog w) A' (pyIter v1) Q E ⟨hp, g, d, tk, os⟩ :=
      fun q => B1.iter prog w _ _ ⟨hp, g, d, tk, os⟩ _ (B1.keeps _ _ h1 fun b o' e => e) q
    have q2 : ∀ {A' : Around} {E : Value → Shared → Prop} {Q : Value → Shared → Prop}, Q (.ref (hp.push o1).objs.size) ⟨((hp.push o1).push o2), g, d, tk, os⟩ → wpAny (model prog w) A' (pyIter v2) Q E ⟨(hp.push o1), g, d, tk, os⟩ :=
      fun q => B2.iter prog w _ _ ⟨(hp.push o1), g, d, tk, os⟩ _ (B2.keeps _ _ h2 fun b o' e => (Heap.get?_push_of_some _ e)) q
    wp_walk using q1, q2
    exact ⟨_, rfl, h⟩
section
variable {prog : Program} {w : World} {A : Around} {E : Value → Shared → Prop} {s : Shared}
theorem zipK_begins {v1 v2 : Value} {o1 o2 : Obj} {H1 H2 : Heap → Prop} {Q : Value → Shared → Prop} (B1 : Begins v1 o1 H1) (B2 : Begins v2 o2 H2) (h1 : H1 s.heap) (h2 : H2 s.heap)
    (h : ∀ h', IsZipS h' (s.heap.objs.size + 4) (s.heap.objs.size + 2) (s.heap.objs.size + 3) .none → IsTupOf2 h' (s.heap.objs.size + 2) (.ref s.heap.objs.size) (.ref (s.heap.objs.size + 1)) →
      IsTupOf2 h' (s.heap.objs.size + 3) .none .none → h'.get? s.heap.objs.size = some o1 → h'.get? (s.heap.objs.size + 1) = some o2 → h'.objs.size = s.heap.objs.size + 5 →
      (∀ c o, s.heap.get? c = some o → h'.get? c = some o) → Q (.ref (s.heap.objs.size + 4)) { s with heap := h' }) :
    wpAny (model prog w) A (call (.type "zip") [v1, v2] (kwS true)) Q E s := by
  refine callType_newK F.called_zip (by decide) (tc_zipK _ _ _) (nc_zipK _ _ _) (fun obj => oi_3K obj _ _ _) F.entry_zip_new
    (meets_zip_newK B1 B2) ⟨⟨h1, h2⟩, ?_⟩
  have z1 : (s.heap.push o1).objs.size = s.heap.objs.size + 1 := by rw [Heap.size_push]
  have z2 : ((s.heap.push o1).push o2).objs.size = s.heap.objs.size + 2 := by rw [Heap.size_push, z1]
  have zT : (gzT2 s.heap o1 o2).objs.size = s.heap.objs.size + 3 := by rw [Heap.size_push, z2]
  have zO : (gzO2 s.heap o1 o2).objs.size = s.heap.objs.size + 4 := by rw [Heap.size_push, zT]
  have zZ : (gzZS s.heap o1 o2).objs.size = s.heap.objs.size + 5 := by rw [Heap.size_push, zO]
  have gZ : (gzZS s.heap o1 o2).get? (gzO2 s.heap o1 o2).objs.size = some { cls := .type "zip", data := .fields #[.none, .bool false, .bool true, .ref ((s.heap.push o1).push o2).objs.size, .ref (gzT2 s.heap o1 o2).objs.size] } := Heap.get?_push_size _ rfl
  have gO : (gzZS s.heap o1 o2).get? (gzT2 s.heap o1 o2).objs.size = some { cls := .type "tuple", data := .seq #[.none, .none] } := Heap.get?_push_of_some _ (Heap.get?_push_size _ rfl)
  have gT : (gzZS s.heap o1 o2).get? ((s.heap.push o1).push o2).objs.size = some { cls := .type "tuple", data := .seq #[.ref s.heap.objs.size, .ref (s.heap.push o1).objs.size] } := Heap.get?_push_of_some _ (Heap.get?_push_of_some _ (Heap.get?_push_size _ rfl))
  have g1 : (gzZS s.heap o1 o2).get? s.heap.objs.size = some o1 := Heap.get?_push_of_some _ (Heap.get?_push_of_some _ (Heap.get?_push_of_some _ (Heap.get?_push_of_some _ (Heap.get?_push_size _ B1.free))))
  have g2 : (gzZS s.heap o1 o2).get? (s.heap.push o1).objs.size = some o2 := Heap.get?_push_of_some _ (Heap.get?_push_of_some _ (Heap.get?_push_of_some _ (Heap.get?_push_size _ B2.free)))
  rw [zO, zT, z2] at gZ
  rw [zT] at gO
  rw [z2, z1] at gT
  rw [z1] at g2
  show _ ∧ _
  rw [zO]
  exact ⟨⟨_, gZ, rfl⟩, h _ gZ gT gO g1 g2 zZ fun c o e => Heap.get?_push_of_some _ (Heap.get?_push_of_some _ (Heap.get?_push_of_some _ (Heap.get?_push_of_some _ (Heap.get?_push_of_some _ e))))⟩
end
/-! zip of two iterators that are there -/
structure Selfs (v : Value) (H : Heap → Prop) : Prop where
  iter : ∀ (prog : Program) (w : World) (A : Around) (E : Value → Shared → Prop) (s : Shared) (Q : Value → Shared → Prop), H s.heap → Q v s → wpAny (model prog w) A (pyIter v) Q E s
abbrev gsT (h : Heap) (v1 v2 : Value) : Heap := h.push { cls := .type "tuple", data := .seq #[v1, v2] }
abbrev gsO (h : Heap) (v1 v2 : Value) : Heap := (gsT h v1 v2).push { cls := .type "tuple", data := .seq #[.none, .none] }
abbrev gsZ (h : Heap) (v1 v2 : Value) : Heap := (gsO h v1 v2).push { cls := .type "zip", data := .fields #[.none, .bool false, .bool true, .ref h.objs.size, .ref (gsT h v1 v2).objs.size] }
theorem meets_zip_newS {v1 v2 : Value} {H1 H2 : Heap → Prop} (B1 : Selfs v1 H1) (B2 : Selfs v2 H2) :
    Meets (Builtin.«zip.__new__» ⟨[.type "zip", v1, v2], kwS true⟩) (fun _ R s => (H1 s.heap ∧ H2 s.heap) ∧
      R (.ok (.ret (.ref (gsO s.heap v1 v2).objs.size))) { s with heap := gsZ s.heap v1 v2 }) :=
  .of_wp fun prog w A R s h => by
    obtain ⟨hp, g, d, tk, os⟩ := s; obtain ⟨⟨h1, h2⟩, h⟩ := h
    have hsub := sub_zip
    have q1 : ∀ {A' : Around} {E : Value → Shared → Prop} {Q : Value → Shared → Prop}, Q v1 ⟨hp, g, d, tk, os⟩ → wpAny (model prog w) A' (pyIter v1) Q E ⟨hp, g, d, tk, os⟩ :=
      fun q => B1.iter prog w _ _ ⟨hp, g, d, tk, os⟩ _ h1 q
    have q2 : ∀ {A' : Around} {E : Value → Shared → Prop} {Q : Value → Shared → Prop}, Q v2 ⟨hp, g, d, tk, os⟩ → wpAny (model prog w) A' (pyIter v2) Q E ⟨hp, g, d, tk, os⟩ :=
      fun q => B2.iter prog w _ _ ⟨hp, g, d, tk, os⟩ _ h2 q
    wp_walk using q1, q2
    exact ⟨_, rfl, h⟩
section
variable {prog : Program} {w : World} {A : Around} {E : Value → Shared → Prop} {s : Shared}
theorem zipS_begins {v1 v2 : Value} {H1 H2 : Heap → Prop} {Q : Value → Shared → Prop} (B1 : Selfs v1 H1) (B2 : Selfs v2 H2) (h1 : H1 s.heap) (h2 : H2 s.heap)
    (h : ∀ h', IsZipS h' (s.heap.objs.size + 2) s.heap.objs.size (s.heap.objs.size + 1) .none → IsTupOf2 h' s.heap.objs.size v1 v2 →
      IsTupOf2 h' (s.heap.objs.size + 1) .none .none → h'.objs.size = s.heap.objs.size + 3 →
      (∀ c o, s.heap.get? c = some o → h'.get? c = some o) → Q (.ref (s.heap.objs.size + 2)) { s with heap := h' }) :
    wpAny (model prog w) A (call (.type "zip") [v1, v2] (kwS true)) Q E s := by
  refine callType_newK F.called_zip (by decide) (tc_zipK _ _ _) (nc_zipK _ _ _) (fun obj => oi_3K obj _ _ _) F.entry_zip_new
    (meets_zip_newS B1 B2) ⟨⟨h1, h2⟩, ?_⟩
  have zT : (gsT s.heap v1 v2).objs.size = s.heap.objs.size + 1 := by rw [Heap.size_push]
  have zO : (gsO s.heap v1 v2).objs.size = s.heap.objs.size + 2 := by rw [Heap.size_push, zT]
  have zZ : (gsZ s.heap v1 v2).objs.size = s.heap.objs.size + 3 := by rw [Heap.size_push, zO]
  have gZ : (gsZ s.heap v1 v2).get? (gsO s.heap v1 v2).objs.size = some { cls := .type "zip", data := .fields #[.none, .bool false, .bool true, .ref s.heap.objs.size, .ref (gsT s.heap v1 v2).objs.size] } := Heap.get?_push_size _ rfl
  have gO : (gsZ s.heap v1 v2).get? (gsT s.heap v1 v2).objs.size = some { cls := .type "tuple", data := .seq #[.none, .none] } := Heap.get?_push_of_some _ (Heap.get?_push_size _ rfl)
  have gT : (gsZ s.heap v1 v2).get? s.heap.objs.size = some { cls := .type "tuple", data := .seq #[v1, v2] } := Heap.get?_push_of_some _ (Heap.get?_push_of_some _ (Heap.get?_push_size _ rfl))
  rw [zO, zT] at gZ
  rw [zT] at gO
  show _ ∧ _
  rw [zO]
  exact ⟨⟨_, gZ, rfl⟩, h _ gZ gT gO zZ fun c o e => Heap.get?_push_of_some _ (Heap.get?_push_of_some _ (Heap.get?_push_of_some _ e))⟩
end
/-! enumerate(x, start=k) -/
abbrev kwE (k : Int) (t : Tok) : List (Str × Value) := [("start", .int k t)]
theorem tc_enK (a : Value) (k : Int) (t : Tok) : checkTypeCall "enumerate" ⟨[a], kwE k t⟩ = pure () := by kernel_rfl
theorem nc_enK (a : Value) (k : Int) (t : Tok) : checkBuiltinCall "enumerate.__new__" ⟨[.type "enumerate", a], kwE k t⟩ = pure () := by kernel_rfl
theorem oi_2K (obj a : Value) (k : Int) (t : Tok) : argsOk "object.__init__" ⟨[obj, a], kwE k t⟩ := by unfold argsOk; kernel_rfl
theorem meets_enumerate_newK {v : Value} {o : Obj} {H : Heap → Prop} (B : Begins v o H) (k : Int) (t : Tok) (hfit : Builtin.SmallTypes.fitsIndex k = true) :
    Meets (Builtin.«enumerate.__new__» ⟨[.type "enumerate", v], kwE k t⟩) (fun _ R s => H s.heap ∧
      R (.ok (.ret (.ref (s.heap.push o).objs.size))) { s with heap := (s.heap.push o).push { cls := .type "enumerate", data := .fields #[.none, .bool false, .ref s.heap.objs.size, rawInt k, .none, .none] } }) :=
  .of_wp fun prog w A R s h => by
    obtain ⟨hp, g, d, tk, os⟩ := s; obtain ⟨h1, h⟩ := h
    have hsub := sub_enumerate
    have hnf : (!Builtin.SmallTypes.fitsIndex k) = false := by rw [hfit]; rfl
    have q1 : ∀ {A' : Around} {E : Value → Shared → Prop} {Q : Value → Shared → Prop}, Q (.ref hp.objs.size) ⟨hp.push o, g, d, tk, os⟩ → wpAny (model prog w) A' (pyIter v) Q E ⟨hp, g, d, tk, os⟩ :=
      fun q => B.iter prog w _ _ ⟨hp, g, d, tk, os⟩ _ h1 q
    wp_walk using q1
    refine wpAny_stack_any fun st => wpAny_pure ?_
    split
    · rename_i c _ _ _ _ _
      cases (c == Value.type "enumerate")
      · wp_walk using q1
        exact ⟨_, rfl, h⟩
      · wp_walk using q1
        exact ⟨_, rfl, h⟩
    · wp_walk using q1
      exact ⟨_, rfl, h⟩
section
variable {prog : Program} {w : World} {A : Around} {E : Value → Shared → Prop} {s : Shared}
theorem enumK_begins {v : Value} {o : Obj} {H : Heap → Prop} {k : Int} {t : Tok} {Q : Value → Shared → Prop} (B : Begins v o H) (h1 : H s.heap) (hk0 : -(2 ^ 63) ≤ k) (hk1 : k < 2 ^ 63)
    (h : ∀ h', IsEnum h' (s.heap.objs.size + 1) s.heap.objs.size k .none → h'.get? s.heap.objs.size = some o → h'.objs.size = s.heap.objs.size + 2 →
      (∀ b o, s.heap.get? b = some o → h'.get? b = some o) → Q (.ref (s.heap.objs.size + 1)) { s with heap := h' }) :
    wpAny (model prog w) A (call (.type "enumerate") [v] (kwE k t)) Q E s := by
  refine callType_newK F.called_enumerate (by decide) (tc_enK _ _ _) (nc_enK _ _ _) (fun obj => oi_2K obj _ _ _) F.entry_enumerate_new
    (meets_enumerate_newK B k t (fits_start hk0 hk1)) ⟨h1, ?_⟩
  have hz : (s.heap.push o).objs.size = s.heap.objs.size + 1 := Heap.size_push ..
  show _ ∧ _
  rw [hz]
  have he : IsEnum ((s.heap.push o).push { cls := .type "enumerate", data := .fields #[.none, .bool false, .ref s.heap.objs.size, rawInt k, .none, .none] }) (s.heap.objs.size + 1) s.heap.objs.size k .none := by
    have := Heap.get?_push_size (s.heap.push o) (o := { cls := .type "enumerate", data := .fields #[.none, .bool false, .ref s.heap.objs.size, rawInt k, .none, .none] }) rfl
    rw [hz] at this; exact this
  refine ⟨⟨_, he, rfl⟩, h _ he (Heap.get?_push_of_some _ (Heap.get?_push_size _ B.free)) (by rw [Heap.size_push, hz]) fun b o x => Heap.get?_push_of_some _ (Heap.get?_push_of_some _ x)⟩
end
end Fw
namespace Fw
open PySem PySem.Spec PyProof.Rows L2
/-! ### lists and tuples, forwards and backwards, as what is drawn -/
inductive Kd | l | t | rl | rt
def Kd.rev : Kd → Bool
  | .l => false
  | .t => false
  | _ => true
def rdK (K : PySem.W.Frag) (H : Hp) (a : Addr) (xs : List V) : Kd → Prop
  | .l => SqL K H a xs
  | .t => SqT K H a xs
  | .rl => SqL K H a xs.reverse
  | .rt => SqT K H a xs.reverse
def stI (h : Heap) (it a : Addr) (n i : Nat) : Kd → Prop
  | .l => h.IsListIter it a i
  | .t => h.IsTupleIter it a i
  | .rl => h.IsRevIter it a ((n : Int) - 1 - i)
  | .rt => RT.IsRt h it a ((n : Int) - 1 - i)
def rawK (h : Heap) (a : Addr) (items : Array Value) : Kd → Prop
  | .l => h.IsList a items
  | .t => h.IsTuple a items
  | .rl => h.IsList a items
  | .rt => h.IsTuple a items
def ordK (items : Array Value) (i : Nat) : Kd → Option Value
  | .l => items[i]?
  | .t => items[i]?
  | .rl => items[items.size - 1 - i]?
  | .rt => items[items.size - 1 - i]?
section
variable {prog : Program} {w : World} {A : Around} {h h' : Heap} {it a : Addr} {n i : Nat} {items : Array Value}
theorem stI.at {k : Kd} (x : stI h it a n i k) (e : ∀ o, h.get? it = some o → h'.get? it = some o) : stI h' it a n i k := by
  cases k
  · exact Heap.IsListIter.at x e
  · exact Heap.IsTupleIter.at x e
  · exact Heap.IsRevIter.at x e
  · exact RT.IsRt.at x e
theorem stI.live {k : Kd} (x : stI h it a n i k) : ∃ o, h.get? it = some o ∧ ∀ v, o.data ≠ .cell v := by
  cases k
  all_goals
    obtain ⟨o, ho, hc, hd⟩ := x
    exact ⟨o, ho, fun v q => by rw [hd] at q; cases q⟩
theorem rawK.at {k : Kd} (x : rawK h a items k) (e : ∀ o, h.get? a = some o → h'.get? a = some o) : rawK h' a items k := by
  cases k
  · exact Heap.IsList.at x e
  · exact Heap.IsTuple.at x e
  · exact Heap.IsList.at x e
  · exact Heap.IsTuple.at x e
theorem drK (k : Kd) (hh : A.handled = none) (hne : a ≠ it) (hz : items.size ≤ sizeLine) : DrE prog w A it [it, a] items.size (fun i v => ordK items i k = some v) (fun i h => stI h it a items.size i k ∧ rawK h a items k) := by
  cases k with
  | l => exact dre (Draws.list hh it a hne items)
  | t => exact dre (Draws.tuple hh it a hne items)
  | rl =>
    refine ⟨fun _ _ st => let ⟨o, ho, _⟩ := st.1; ⟨o, ho⟩, fun _ _ _ st hk => ⟨st.1.at fun o e => hk it (by simp) o e, st.2.at fun o e => hk a (by simp) o e⟩, fun i s Q E hi st hQ => orEnd_of_next ?_, fun s Q E st hE => orEnd_of_next ?_⟩
    · have hi' : items.size - 1 - i < items.size := by omega
      have st1 : s.heap.IsRevIter it a (((items.size - 1 - i : Nat)) : Int) := by
        have := st.1
        unfold stI at this
        rw [show ((items.size - 1 - i : Nat) : Int) = (items.size : Int) - 1 - i by omega]
        exact this
      refine wpAny_pyNext_rev_item st1 st.2 (x := items[items.size - 1 - i]) (by simp [hi']) fun h' hit' hs' => ?_
      refine hQ _ h' s.toks (by simp only [ordK]; simp [hi']) ⟨?_, Heap.IsList.extBut st.2 hs'.extBut hne⟩ hs'
      unfold stI
      rw [show (items.size : Int) - 1 - ((i + 1 : Nat) : Int) = ((items.size - 1 - i : Nat) : Int) - 1 by omega]
      exact hit'
    · have st1 : s.heap.IsRevIter it a (-1) := by
        have := st.1
        unfold stI at this
        rw [show (-1 : Int) = (items.size : Int) - 1 - (items.size : Nat) by omega]
        exact this
      exact wpAny_pyNext_rev_end hh st1 hE
  | rt =>
    refine ⟨fun _ _ st => let ⟨o, ho, _⟩ := st.1; ⟨o, ho⟩, fun _ _ _ st hk => ⟨st.1.at fun o e => hk it (by simp) o e, st.2.at fun o e => hk a (by simp) o e⟩, fun i s Q E hi st hQ => orEnd_of_next ?_, fun s Q E st hE => orEnd_of_next ?_⟩
    · have hi' : items.size - 1 - i < items.size := by omega
      have st1 : RT.IsRt s.heap it a (((items.size - 1 - i : Nat)) : Int) := by
        have := st.1
        unfold stI at this
        rw [show ((items.size - 1 - i : Nat) : Int) = (items.size : Int) - 1 - i by omega]
        exact this
      refine RT.next_rt_item st1 (show IsTup s.heap a items from st.2) (x := items[items.size - 1 - i]) (by simp [hi']) hz fun h' hit' hs' => ?_
      refine hQ _ h' _ (by simp only [ordK]; simp [hi']) ⟨?_, Heap.IsTuple.extBut st.2 hs'.extBut hne⟩ hs'
      unfold stI
      rw [show (items.size : Int) - 1 - ((i + 1 : Nat) : Int) = ((items.size - 1 - i : Nat) : Int) - 1 by omega]
      exact hit'
    · have st1 : RT.IsRt s.heap it a (-1) := by
        have := st.1
        unfold stI at this
        rw [show (-1 : Int) = (items.size : Int) - 1 - (items.size : Nat) by omega]
        exact this
      exact RT.next_rt_end hh st1 hE
end
section
variable {X : Cx} {pins : List (Addr × Obj)} {σ : L2.St} {H : Hp} {s : Shared} {a : Addr} {xs ys : List V}
theorem rd_inj {k : Kd} (I : Inv X pins σ H s) (h : rdK X.K H a xs k) (h' : rdK X.K H a ys k) : xs = ys := by
  cases k
  · exact I.list_inj h h'
  · exact I.tuple_inj h h'
  · have := I.list_inj h h'
    rw [← List.reverse_reverse xs, this, List.reverse_reverse]
  · have := I.tuple_inj h h'
    rw [← List.reverse_reverse xs, this, List.reverse_reverse]
theorem rev_at {α : Type} {l : List α} {i : Nat} {x : α} (h : l.reverse[i]? = some x) : l[l.length - 1 - i]? = some x := by
  have hi : i < l.length := by
    have := (List.getElem?_eq_some_iff.mp h).1
    rwa [List.length_reverse] at this
  rw [List.getElem?_reverse hi] at h
  exact h
/-- the objects behind what is read -/
theorem rd_raw {k : Kd} (I : Inv X pins σ H s) (h : rdK X.K H a xs k) : ∃ items : Array Value, rawK s.heap a items k ∧ items.size = xs.length ∧ items.size ≤ sizeLine ∧ ∀ (i : Nat) (x : V), xs[i]? = some x → ∃ u, ordK items i k = some u ∧ RelV x u := by
  cases k with
  | l =>
    obtain ⟨its, rv, p, hz⟩ := I.list h
    exact ⟨its.toArray, p.isList, by simp [rv.length], by simpa [rv.length] using hz, fun i x hx => by
      obtain ⟨u, hu, ru⟩ := rv.get hx
      exact ⟨u, by simpa [ordK] using hu, ru⟩⟩
  | t =>
    obtain ⟨its, rv, p, hz⟩ := I.tuple h
    exact ⟨its.toArray, p, by simp [rv.length], by simpa [rv.length] using hz, fun i x hx => by
      obtain ⟨u, hu, ru⟩ := rv.get hx
      exact ⟨u, by simpa [ordK] using hu, ru⟩⟩
  | rl =>
    obtain ⟨its, rv, p, hz⟩ := I.list h
    have hl := rv.length
    rw [List.length_reverse] at hl hz
    refine ⟨its.toArray, p.isList, by simp [hl], by simpa [← hl] using hz, fun i x hx => ?_⟩
    have h2 : xs.reverse[xs.length - 1 - i]? = some x := by
      have := rev_at (l := xs.reverse) (i := i) (x := x) (by rw [List.reverse_reverse]; exact hx)
      rwa [List.length_reverse] at this
    obtain ⟨u, hu, ru⟩ := rv.get h2
    exact ⟨u, by simpa [ordK, ← hl] using hu, ru⟩
  | rt =>
    obtain ⟨its, rv, p, hz⟩ := I.tuple h
    have hl := rv.length
    rw [List.length_reverse] at hl hz
    refine ⟨its.toArray, p, by simp [hl], by simpa [← hl] using hz, fun i x hx => ?_⟩
    have h2 : xs.reverse[xs.length - 1 - i]? = some x := by
      have := rev_at (l := xs.reverse) (i := i) (x := x) (by rw [List.reverse_reverse]; exact hx)
      rwa [List.length_reverse] at this
    obtain ⟨u, hu, ru⟩ := rv.get h2
    exact ⟨u, by simpa [ordK, ← hl] using hu, ru⟩
end
end Fw
namespace Fw
open PySem PySem.Spec PyProof.Rows L2
/-! ### for .. in zip(x, y, strict=True) -/
def ItS (K : PySem.W.Frag) (k1 k2 : Kd) (a b : Addr) (n : Nat) : It :=
  ⟨fun i H => ∃ (xs ys : List V) (x y : V), rdK K H a xs k1 ∧ rdK K H b ys k2 ∧ xs.length = n ∧ ys.length = n ∧ xs[i]? = some x ∧ ys[i]? = some y,
    fun i H v H' => ∃ T x y, v = .ref T ∧ H T = none ∧ H' = upd H T (.tup [x, y]) ∧ (∀ xs, rdK K H a xs k1 → xs[i]? = some x) ∧ ∀ ys, rdK K H b ys k2 → ys[i]? = some y,
    fun i H => ∃ xs ys : List V, rdK K H a xs k1 ∧ rdK K H b ys k2 ∧ xs.length = n ∧ ys.length = n ∧ i = n⟩
theorem turn_zipS {P : Program} {w : World} {K : PySem.W.Frag} {elts : List Expr} {kk : Nat} {tpos : Pos} {k1 k2 : Kd} {a b z TI TO i1 i2 : Addr} {n : Nat} (D : ZipSep2 z TI TO i1 i2 [i1, a] [i2, b]) (ha : a ≠ i1) (hb : b ≠ i2) :
    Turn P w K (.Tuple elts kk tpos) (ItS K k1 k2 a b n) [z, TI, TO, i1, i2] z (fun i h => IsZipS h z TI TO .none ∧ IsTupOf2 h TI (.ref i1) (.ref i2) ∧ (∃ x y, IsTupOf2 h TO x y) ∧ stI h i1 a n i k1 ∧ stI h i2 b n i k2) where
  mem := by simp
  obj := fun i h st c hc => by
    obtain ⟨hz, hTI, ⟨x, y, hTO⟩, h1, h2⟩ := st
    have e' : c = z ∨ c = TI ∨ c = TO ∨ c = i1 ∨ c = i2 := by simpa using hc
    rcases e' with q | q | q | q | q
    · rw [q]; exact ⟨_, hz, fun v q => nomatch q⟩
    · rw [q]; exact ⟨_, hTI, fun v q => nomatch q⟩
    · rw [q]; exact ⟨_, hTO, fun v q => nomatch q⟩
    · rw [q]; exact h1.live
    · rw [q]; exact h2.live
  keep := fun i h h' st k => by
    obtain ⟨hz, hTI, ⟨x, y, hTO⟩, h1, h2⟩ := st
    exact ⟨k z (by simp) _ hz, k TI (by simp) _ hTI, ⟨x, y, k TO (by simp) _ hTO⟩, h1.at fun o q => k i1 (by simp) o q, h2.at fun o q => k i2 (by simp) o q⟩
  item := by
    intro X hP hw hK hc i pins s σ H E I hf st hg
    subst hP hw hK
    obtain ⟨hz, hTI, ⟨x0, y0, hTO⟩, h1, h2⟩ := st
    obtain ⟨xs, ys, x, y, hqx, hqy, hl1, hl2, hx, hy⟩ := hg
    obtain ⟨its, p, e1, z1, g1⟩ := rd_raw I hqx
    obtain ⟨its2, p2, e2, z2, g2⟩ := rd_raw I hqy
    obtain ⟨u, hu, ru⟩ := g1 i x hx
    obtain ⟨u2, hu2, ru2⟩ := g2 i y hy
    have hzl : z < s.heap.objs.size := Heap.lt_size hz
    have n1 : its.size = n := e1.trans hl1
    have n2 : its2.size = n := e2.trans hl2
    have hi : i < n := by rw [← hl1]; exact (List.getElem?_eq_some_iff.mp hx).1
    subst n1
    refine pyNext_zipS_item D (drK (prog := X.prog) (w := X.w) (A := X.A.in1) k1 (I.ok.hd hc) ha z1) (drK (prog := X.prog) (w := X.w) (A := X.A.in1) k2 (I.ok.hd hc) hb z2) hz hTI hTO ⟨h1, p⟩ ⟨by rw [n2]; exact h2, p2⟩ hi (by omega) fun v1 v2 h' tk hv1 hv2 z' TO' h1' h2' hT hsz hk => ?_
    cases hu.symm.trans hv1
    cases hu2.symm.trans hv2
    refine ⟨_, rfl, letGo_zipS (s := { s with heap := h', toks := tk }) z' fun h'' z'' sb => ?_⟩
    have hT2 : h''.get? s.heap.objs.size = some { cls := .type "tuple", data := .seq #[u, u2] } := (sb.2 _ (Nat.ne_of_gt hzl)).trans hT
    have new : ObjOk X.prog X.w (upd H s.heap.objs.size (.tup [x, y])) h'' s.heap.objs.size (.tup [x, y]) :=
      ⟨by show 2 ≤ sizeLine; decide, [u, u2], .cons ru (.cons ru2 .nil), ⟨_, hT2, rfl, _, rfl⟩⟩
    have I1 : Inv X pins σ (upd H s.heap.objs.size (.tup [x, y])) { s with heap := h'', toks := tk } :=
      I.turnedNew (t' := tk) (ch := [z, TI, TO, i1, i2]) (fun c o hb q => (sb.2 c (fun q' => hb (by simp [q']))).trans (hk c o (fun q' => hb (by simp [q'])) (fun q' => hb (by simp [q'])) (fun q' => hb (by simp [q'])) (fun q' => hb (by simp [q'])) q)) hf (Nat.le_refl _) new
    refine ⟨.ref s.heap.objs.size, _, I1, rfl, ⟨_, x, y, rfl, I.hok.fresh (Nat.le_refl _), rfl, fun l hl => by rw [rd_inj I hl hqx]; exact hx, fun l hl => by rw [rd_inj I hl hqy]; exact hy⟩, ⟨z'', ?_, ⟨u, u2, ?_⟩, ?_, ?_⟩, fun c hcm => ?_⟩
    · exact (sb.2 _ D.TIz).trans (hk _ _ D.TIz D.TITO D.TIi1 D.TIi2 hTI)
    · exact (sb.2 _ D.TOz).trans TO'
    · exact h1'.1.at fun o q => (sb.2 _ (Ne.symm D.zi1)).trans q
    · have := h2'.1
      rw [n2] at this
      exact this.at fun o q => (sb.2 _ (Ne.symm D.zi2)).trans q
    · have hlt : c < s.heap.objs.size := by
        have e' : c = z ∨ c = TI ∨ c = TO ∨ c = i1 ∨ c = i2 := by simpa using hcm
        rcases e' with q | q | q | q | q
        · rw [q]; exact hzl
        · rw [q]; exact Heap.lt_size hTI
        · rw [q]; exact Heap.lt_size hTO
        · rw [q]; obtain ⟨_, e1, _⟩ := h1.live; exact Heap.lt_size e1
        · rw [q]; obtain ⟨_, e2, _⟩ := h2.live; exact Heap.lt_size e2
      rw [upd_ne (Nat.ne_of_lt hlt)]
      exact (hf c hcm).1
  done := by
    intro X hP hw hK hc i pins s σ H E I hf st hg
    subst hP hw hK
    obtain ⟨hz, hTI, ⟨x0, y0, hTO⟩, h1, h2⟩ := st
    obtain ⟨xs, ys, hqx, hqy, hl1, hl2, rfl⟩ := hg
    obtain ⟨its, p, e1, z1, g1⟩ := rd_raw I hqx
    obtain ⟨its2, p2, e2, z2, g2⟩ := rd_raw I hqy
    have n1 : its.size = i := e1.trans hl1
    have n2 : its2.size = i := e2.trans hl2
    subst n1
    have D2 := drK (prog := X.prog) (w := X.w) (A := X.A.in1) k2 (I.ok.hd hc) hb z2
    rw [n2] at D2
    exact pyNext_zipS_end (I.ok.hd hc) D (drK (prog := X.prog) (w := X.w) (A := X.A.in1) k1 (I.ok.hd hc) ha z1) D2 hz hTI ⟨h1, p⟩ ⟨h2, p2⟩ fun h' hk => ⟨rfl, I.turnedL (t' := s.toks) (ch := [z, TI, TO, i1, i2]) (fun c o hb q =>
      hk c o (fun q' => hb (by simp [q'])) (fun q' => hb (by simp [q'])) (fun q' => hb (by simp [q'])) (fun q' => hb (by simp [q'])) q) hf⟩
  self := fun A i s Q E st h => pyIter_zipS st.1 h
theorem walk_zipS {K : PySem.W.Frag} {k1 k2 : Kd} {a b : Addr} {xs ys : List V} {n : Nat} (hn : xs.length = n) (hm : ys.length = n) : Walk (ItS K k1 k2 a b n) n (fun H => rdK K H a xs k1 ∧ rdK K H b ys k2) (YPair (fun i => xs[i]?) (fun i => ys[i]?)) := by
  refine ⟨fun i _ hi q => ?_, fun _ q => ⟨xs, ys, q.1, q.2, hn, hm, rfl⟩, fun i H v H' _ q y => ?_⟩
  · have h1 : i < xs.length := by omega
    have h2 : i < ys.length := by omega
    exact ⟨xs, ys, xs[i], ys[i], q.1, q.2, hn, hm, by simp [h1], by simp [h2]⟩
  · obtain ⟨T, x, z, h1, h2, h3, h4, h5⟩ := y
    exact ⟨T, x, z, h1, h2, h3, h4 xs q.1, h5 ys q.2⟩
/-! ### for .. in enumerate(x, start=k) -/
def ItE (K : PySem.W.Frag) (kd : Kd) (a : Addr) (c : Int) : It :=
  ⟨fun i H => ∃ (xs : List V) (x : V), rdK K H a xs kd ∧ xs[i]? = some x, fun i H v H' => ∃ T x, v = .ref T ∧ H T = none ∧ H' = upd H T (.tup [.int (c + i), x]) ∧ ∀ xs, rdK K H a xs kd → xs[i]? = some x, fun i H => ∃ xs : List V, rdK K H a xs kd ∧ xs.length = i⟩
def Kd.fwd : Kd → Prop
  | .l => True
  | .t => True
  | _ => False
theorem drawsK {prog : Program} {w : World} {A : Around} {it a : Addr} {items : Array Value} {kd : Kd} (hk : kd.fwd) (hh : A.handled = none) (hne : a ≠ it) : Draws prog w A it [it, a] items.size (fun i v => ordK items i kd = some v) (fun i h => stI h it a items.size i kd ∧ rawK h a items kd) := by
  cases kd with
  | l => exact Draws.list hh it a hne items
  | t => exact Draws.tuple hh it a hne items
  | rl => exact hk.elim
  | rt => exact hk.elim
theorem turn_enumK {P : Program} {w : World} {K : PySem.W.Frag} {elts : List Expr} {kk : Nat} {tpos : Pos} {kd : Kd} (hfw : kd.fwd) (a e it : Addr) (c : Int) (hea : e ≠ a) (hai : a ≠ it) (hne : e ≠ it) :
    Turn P w K (.Tuple elts kk tpos) (ItE K kd a c) [e, it] e (fun i h => (∃ old, IsEnum h e it (c + i) old) ∧ (∀ n, stI h it a n i kd)) where
  mem := by simp
  obj := fun i h st b hb => by
    obtain ⟨⟨old, he⟩, h1⟩ := st
    have e' : b = e ∨ b = it := by simpa using hb
    rcases e' with z | z
    · rw [z]; exact ⟨_, he, fun v q => nomatch q⟩
    · rw [z]; exact (h1 0).live
  keep := fun i h h' st k => let ⟨⟨old, he⟩, hi⟩ := st; ⟨⟨old, k e (by simp) _ he⟩, fun n => (hi n).at fun o q => k it (by simp) o q⟩
  item := by
    intro X hP hw hK hc i pins s σ H E I hf st hg
    subst hP hw hK
    obtain ⟨⟨old, he⟩, hit⟩ := st
    obtain ⟨xs, x, hq, hx⟩ := hg
    obtain ⟨its, p, e1, z1, g1⟩ := rd_raw I hq
    obtain ⟨u, hu, ru⟩ := g1 i x hx
    have hel : e < s.heap.objs.size := Heap.lt_size he
    have hil : it < s.heap.objs.size := by obtain ⟨_, q, _⟩ := (hit 0).live; exact Heap.lt_size q
    have hi : i < its.size := by rw [e1]; exact (List.getElem?_eq_some_iff.mp hx).1
    refine wpAny_pyNext_enum_itemC (drawsK (prog := X.prog) (w := X.w) (A := X.A.in1) hfw (I.ok.hd hc) hai) he ⟨hit _, p⟩ hi hne (by simp [hne, hea]) fun v h' tk hv ho hs' hT hsz hk => ?_
    cases hu.symm.trans hv
    refine ⟨_, rfl, wpAny_letOwnedTupleGo_enum (s := { s with heap := h', toks := tk + 1 }) ho fun h'' he' sb => ?_⟩
    have hT2 : h''.get? s.heap.objs.size = some { cls := .type "tuple", data := .seq #[.int (c + i) tk, u] } := (sb.2 _ (Nat.ne_of_gt hel)).trans hT
    have new : ObjOk X.prog X.w (upd H s.heap.objs.size (.tup [.int (c + i), x])) h'' s.heap.objs.size (.tup [.int (c + i), x]) :=
      ⟨by show 2 ≤ sizeLine; decide, [.int (c + i) tk, u], .cons ⟨_, rfl⟩ (.cons ru .nil), ⟨_, hT2, rfl, _, rfl⟩⟩
    have I1 : Inv X pins σ (upd H s.heap.objs.size (.tup [.int (c + i), x])) { s with heap := h'', toks := tk + 1 } :=
      I.turnedNew (ch := [e, it]) (fun b ob hb q => (sb.2 b (fun z => hb (by simp [z]))).trans (hk b ob (fun z => hb (by simp [z])) (fun z => hb (by simp [z])) q)) hf (Nat.le_refl _) new
    refine ⟨.ref s.heap.objs.size, _, I1, rfl, ⟨_, x, rfl, I.hok.fresh (Nat.le_refl _), rfl, fun ys hy => by rw [rd_inj I hy hq]; exact hx⟩, ⟨⟨u, ?_⟩, fun n => ?_⟩, fun b hb => ?_⟩
    · rw [show c + ((i + 1 : Nat) : Int) = c + i + 1 by omega]
      exact he'
    · have h5 : stI h'' it a its.size (i + 1) kd := hs'.1.at fun o q => (sb.2 it (Ne.symm hne)).trans q
      cases kd with
      | l => exact h5
      | t => exact h5
      | rl => exact hfw.elim
      | rt => exact hfw.elim
    · have hb' : b < s.heap.objs.size := by
        have e' : b = e ∨ b = it := by simpa using hb
        rcases e' with z | z
        · rw [z]; exact hel
        · rw [z]; exact hil
      rw [upd_ne (Nat.ne_of_lt hb')]
      exact (hf b hb).1
  done := by
    intro X hP hw hK hc i pins s σ H E I hf st hg
    subst hP hw hK
    obtain ⟨⟨old, he⟩, hit⟩ := st
    obtain ⟨xs, hq, hx⟩ := hg
    obtain ⟨its, p, e1, z1, g1⟩ := rd_raw I hq
    obtain ⟨f0, f1, f2, f3, f4, f5⟩ := hf it (by simp)
    have en : its.size = i := e1.trans hx
    subst en
    exact wpAny_pyNext_enum_endD (drawsK (prog := X.prog) (w := X.w) (A := X.A.in1) hfw (I.ok.hd hc) hai) he ⟨hit _, p⟩ fun h' eb => ⟨rfl, I.turned (t' := s.toks) (fun b o hb q => eb b o hb q) f0 f1 f3 f4 f5⟩
  self := fun A i s Q E st h => let ⟨⟨_, he⟩, _⟩ := st; wpAny_pyIter_enum he h
theorem walk_enumK {K : PySem.W.Frag} {kd : Kd} {a : Addr} {xs : List V} {c : Int} : Walk (ItE K kd a c) xs.length (fun H => rdK K H a xs kd) (YPair (fun i => some (.int (c + i))) (fun i => xs[i]?)) := by
  refine ⟨fun i _ hi q => ?_, fun _ q => ⟨xs, q, rfl⟩, fun i H v H' _ q y => ?_⟩
  · exact ⟨xs, xs[i], q, by simp [hi]⟩
  · obtain ⟨T, x, h1, h2, h3, h4⟩ := y
    exact ⟨T, _, x, h1, h2, h3, rfl, h4 xs q⟩
end Fw
namespace Fw
open PySem PySem.Spec PyProof.Rows L2
section
variable {M : Model} {A : Around} {E : Value → Shared → Prop} {s : Shared} {env : Env}
theorem callWith_typeK {pos : Pos} {T : String} {e : Expr} {rest : List Expr} {kws : List Keyword} {Q : Value → Shared → Prop}
    (h : wpAny M A (spliced (backTo pos (starEach (e :: rest) env))) (fun vs s₁ => wpAny M A (evalAll ((backToKw pos (keywordEach kws env)).map (·.2)))
      (fun kvs s₂ => wpAny M A (call (.type T) vs (((backToKw pos (keywordEach kws env)).filterMap (·.1)).zip kvs)) Q E s₂) E s₁) E s)
    (he : backTo pos (starEach (e :: rest) env) = (false, eval e env) :: backTo pos (starEach rest env) := by rfl)
    (hplain : (backTo pos (starEach (e :: rest) env)).any (·.1) = false := by rfl)
    (hall : (backToKw pos (keywordEach kws env)).all (·.1.isSome) = true := by rfl)
    (hkw : (backToKw pos (keywordEach kws env)).any (·.1.isNone) = false := by rfl) :
    wpAny M A (callWith pos (.type T) [] (backTo pos (starEach (e :: rest) env)) (backToKw pos (keywordEach kws env))) Q E s := by
  have key : wpAny M A (evalArgs (.type T) true (backTo pos (starEach (e :: rest) env)) (backToKw pos (keywordEach kws env))) (fun a s₁ => wpAny M A (call (.type T) ([] ++ a.pos) a.kw) Q E s₁) E s := by
    rw [he] at h ⊢
    exact evalArgs_kwB hall h
  unfold callWith
  refine wpAny_bind (wpAny_holding (wpAny_mono key (fun a s₁ h₁ => wpAny_bind (wpAny_standAt ?_)) fun _ _ x => x))
  simp only [hplain, hkw, Bool.or_false]
  refine wpAny_bind (wpAny_pure ?_)
  exact wpAny_bind (wpAny_mono h₁ (fun r s₂ hr => wpAny_bind (wpAny_holding (wpAny_point (wpAny_pure hr)))) fun _ _ x => x)
end
section
variable {X : Cx} {p pos tpos kpos kp : Pos} {e e2 : Expr} {elts : List Expr} {kk kc : Nat} {ta : TA} {te : TE} {K : PySem.W.Frag}
/-! enumerate(e, start=c) -/
def iEnumK (K : PySem.W.Frag) (c : Int) (ta : TA) : TI := fun σ H R => ta σ H fun vs H1 => ∃ a xs kd, vs = [.ref a] ∧ Kd.fwd kd ∧ rdK K H1 a xs kd ∧ R (ItE K kd a c) H1
theorem pi_enumK {c : Int} (hg : Gl X "enumerate") (hm : X.mg "enumerate" = none) (ha : PA X [e] ta) (hc0 : -(2 ^ 63) ≤ c) (hc1 : c < 2 ^ 63) (hs : starEach [e] X.env = [(false, eval e X.env)] := by rfl) (hK : X.K = K := by rfl) :
    PI X (.Tuple elts kk tpos) (.Call (.Name "enumerate" p) [e] [⟨some "start", .Constant (.int c) kc kp, kpos⟩] pos) (iEnumK K c ta) := by
  subst hK
  refine ⟨fun pins s σ H R I h => ?_⟩
  refine wpAny_Call_Name_kw (ld_blt I hg hm boot_enumerate ?_)
  refine callWith_typeK (thn (ha.run pos pins s σ H _ I h) fun us s1 ⟨vs, H1, I1, r1, q1⟩ => thn ((pk_cons (te := tC (.int c)) (pe_int (X := X)) pk_nil).run pos pins s1 σ H1 (fun zs H2 => zs = [.int c] ∧ H2 = H1) I1 ⟨rfl, rfl⟩) fun ws s2 ⟨zs, H2, I2, r2, e1, e2⟩ => ?_) (by rw [hs]; rfl) (by rw [hs]; rfl)
  subst e1 e2
  obtain ⟨a, xs, kd, ex, hfw, hq, q⟩ := q1
  subst ex
  cases r1 with
  | cons r rr =>
  cases rr
  cases r
  cases r2 with
  | cons r rr =>
  cases rr
  obtain ⟨t, rfl⟩ := r
  obtain ⟨its, rw_, e1, z1, g1⟩ := rd_raw I2 hq
  show wpAny _ _ (call (.type "enumerate") [.ref a] [("start", .int c t)]) _ _ s2
  have fin : ∀ (h' : Heap), IsEnum h' (s2.heap.objs.size + 1) s2.heap.objs.size c .none → (∀ n, stI h' s2.heap.objs.size a n 0 kd) → a < s2.heap.objs.size → (∀ b o, s2.heap.get? b = some o → h'.get? b = some o) → wpAny (model X.prog X.w) X.A (pyIter (.ref (s2.heap.objs.size + 1))) (PIE X pins σ (.Tuple elts kk tpos) R) X.xe { s2 with heap := h' } := by
    intro h' he hit hlt hk
    refine wpAny_pyIter_enum he ?_
    have I3 : Inv X pins σ H2 { s2 with heap := h' } := I2.kept (t' := s2.toks) hk
    refine ⟨s2.heap.objs.size + 1, [s2.heap.objs.size + 1, s2.heap.objs.size], _, _, H2, rfl, I3, turn_enumK hfw a (s2.heap.objs.size + 1) s2.heap.objs.size c (Nat.ne_of_gt (Nat.lt_succ_of_lt hlt)) (Nat.ne_of_lt hlt) (Nat.succ_ne_self _), ⟨⟨.none, ?_⟩, hit⟩, fun b hb => ?_, q⟩
    · rw [show c + ((0 : Nat) : Int) = c by omega]; exact he
    · have e' : b = s2.heap.objs.size + 1 ∨ b = s2.heap.objs.size := by simpa using hb
      have hle : s2.heap.objs.size ≤ b := by
        rcases e' with z | z
        · rw [z]; exact Nat.le_add_right _ _
        · rw [z]; exact Nat.le_refl _
      exact I2.fpOk hle (I2.hok.fresh hle)
  cases kd with
  | l =>
    refine enumK_begins (begins_list a its) rw_ hc0 hc1 fun h' he ho hsz hk => fin h' he (fun n => ⟨_, ho, rfl, rfl⟩) ?_ hk
    obtain ⟨o, ho, _⟩ := rw_
    exact Heap.lt_size ho
  | t =>
    refine enumK_begins (begins_tuple a its) rw_ hc0 hc1 fun h' he ho hsz hk => fin h' he (fun n => ⟨_, ho, rfl, rfl⟩) ?_ hk
    obtain ⟨o, ho, _⟩ := rw_
    exact Heap.lt_size ho
  | rl => exact hfw.elim
  | rt => exact hfw.elim
def gStM (K : PySem.W.Frag) (i m : Nat) (t : TGs) : TG := fun v σ H Q => ∃ a xs, v = .ref a ∧ SqL K H a xs ∧ i + m ≤ xs.length ∧ xs.length ≤ 16384 ∧ ∀ D, H D = none → t (xs.take i ++ [.ref D] ++ (xs.drop i).drop ((xs.drop i).length - m)) σ (upd H D (.lst ((xs.drop i).take ((xs.drop i).length - m)))) Q
theorem pg_stM {K : PySem.W.Frag} {es : List Expr} {k i m : Nat} {t : TGs} (hc : X.calm = true) (h : PGs X es t)
    (hn : (assignEach es X.env).length = i + 1 + m := by rfl) (hst : (assignEach es X.env).findIdx? (·.1) = some i := by rfl) (hK : X.K = K := by rfl) : PG X (.Tuple es k pos) (gStM K i m t) := by
  subst hK
  refine ⟨fun pins s σ H v u Q I r hw => ?_⟩
  obtain ⟨a, xs, e1, hq, hl, hz4, hw⟩ := hw
  subst e1
  cases r
  obtain ⟨its, rv, pl, hz⟩ := I.list hq
  have hl' : s.heap.IsList a its.toArray := by
    obtain ⟨o, m, e, c, d, q⟩ := pl
    exact ⟨o, e, c, m, q⟩
  have hlen : its.length = xs.length := rv.length.symm
  have hh := I.ok.hd hc
  have hlt : a ≠ s.heap.objs.size := by obtain ⟨o, ho, _⟩ := hl'; exact Nat.ne_of_lt (Heap.lt_size ho)
  rw [PyProof.Rows.assign_Tuple]
  refine wpAny_bind (wpAny_standAt ?_)
  unfold unpack
  rw [hn, hst]
  refine wpAny_bind (wpAny_holding ?_)
  unfold unpackItems
  refine wpAny_bind ?_
  unfold notIterableAtAll
  refine wpAny_bind (wpAny_specialOf hl'.typeIs slot_list_iter.lookup ?_)
  refine wpAny_pure ?_
  simp only [Bool.false_eq_true, if_false]
  refine wpAny_bind (wpAny_holding (wpAny_pyIter_list hl' ?_))
  refine wpAny_bind (wpAny_holding (PySem.W.kun_draw hlt i 0 _ _ ⟨_, Heap.get?_push_size _ rfl, rfl, rfl⟩ (hl'.push _) (by rw [List.size_toArray]; omega) fun h₁ hit₁ hs₁ => ?_))
  have hl₁ : h₁.IsList a its.toArray := (hl'.push _).extBut hs₁.extBut hlt
  rw [Nat.zero_add] at hit₁
  have hit₁' := hit₁
  obtain ⟨oi, hoi, _⟩ := hit₁'
  have hl₁' := hl₁
  obtain ⟨ol, hol, _⟩ := hl₁'
  rw [List.drop_zero]
  have hfl : (its.take i).length = i := by rw [List.length_take]; omega
  rw [if_neg (show ¬ ((its.toArray.toList.take i).length < i) by show ¬ (its.take i).length < i; rw [hfl]; omega)]
  refine wpAny_bind (wpAny_holding (PySem.W.kun_collect (s := { s with heap := h₁ }) (T := "list_iterator") (.inr (.inr (.inl rfl))) (Walks.list (A := X.A.in1) hh s.heap.objs.size a hlt its.toArray) (fun j u st => st.1.typeIs) (k := i) (by rw [List.size_toArray]; omega) ⟨hit₁, hl₁⟩ (Heap.lt_size hoi) (Heap.lt_size hol) (fun h₂ tk hk => ?_) (by rw [List.size_toArray]; omega)))
  show wpAny _ _ (if (its.drop i).length < i + 1 + m - 1 - i then _ else _) _ _ _
  have hdl : (its.drop i).length = xs.length - i := by rw [List.length_drop, hlen]
  rw [if_neg (by omega)]
  have he : ∀ b o, s.heap.get? b = some o → h₂.get? b = some o := fun b o e => hk b o (Nat.ne_of_lt (Heap.lt_size e)) (hs₁.extBut b o (Nat.ne_of_lt (Heap.lt_size e)) (Heap.get?_push_of_some _ e))
  have I2 : Inv X pins σ H { s with heap := h₂, toks := tk } := I.kept (t' := tk) he
  have hmid : (its.drop i).length - (i + 1 + m - 1 - i) = (xs.drop i).length - m := by rw [List.length_drop, List.length_drop]; omega
  show wpAny _ _ (newList ((its.drop i).take ((its.drop i).length - (i + 1 + m - 1 - i))) >>= fun d => pure (its.take i ++ [d] ++ (its.drop i).drop ((its.drop i).length - (i + 1 + m - 1 - i)))) _ _ _
  rw [hmid]
  have hrl : ((its.drop i).take ((xs.drop i).length - m)).length ≤ sizeLine := by rw [List.length_take, List.length_drop, sizeLine_eq]; omega
  refine wpAny_bind (wpAny_newList ?_ hrl)
  refine wpAny_pure ?_
  have hf : H h₂.objs.size = none := I2.hok.fresh (Nat.le_refl _)
  have I3 := I2.laid (a := h₂.objs.size) (o := .lst ((xs.drop i).take ((xs.drop i).length - m))) (h' := h₂.push { cls := .type "list", data := .seq ((its.drop i).take ((xs.drop i).length - m)).toArray 0 }) (t' := tk) (fun b u e => Heap.get?_push_of_some _ e) (Nat.le_refl _) ⟨by rw [List.length_take, List.length_drop]; omega, (its.drop i).take ((xs.drop i).length - m), 0, (rv.drop i).take _, Heap.get?_push_size _ rfl⟩
  exact h.run pins _ σ _ (xs.take i ++ [.ref h₂.objs.size] ++ (xs.drop i).drop ((xs.drop i).length - m)) _ Q I3 (((rv.take i).append (.cons (show RelV (.ref h₂.objs.size) (.ref h₂.objs.size) from rfl) .nil)).append ((rv.drop i).drop _)) (hw _ hf)
/-! zip(e, e2, strict=True) -/
theorem boot_zip' : bootBuiltins "zip" = some (.type "zip") := PyProof.Rows.boot_zip
def iZipS (K : PySem.W.Frag) (ta : TA) : TI := fun σ H R => ta σ H fun vs H1 => ∃ a b xs ys k1 k2, vs = [.ref a, .ref b] ∧ Kd.fwd k1 ∧ Kd.fwd k2 ∧ rdK K H1 a xs k1 ∧ rdK K H1 b ys k2 ∧ xs.length = ys.length ∧ R (ItS K k1 k2 a b xs.length) H1
def itO (a : Addr) : Kd → Obj
  | .l => { cls := .type "list_iterator", data := .fields #[.ref a, .int 0 0] }
  | _ => { cls := .type "tuple_iterator", data := .fields #[.ref a, .int 0 0] }
theorem beginsK {kd : Kd} (hf : Kd.fwd kd) (a : Addr) (items : Array Value) : Begins (.ref a) (itO a kd) fun h => rawK h a items kd := by
  cases kd with
  | l => exact begins_list a items
  | t => exact begins_tuple a items
  | rl => exact hf.elim
  | rt => exact hf.elim
theorem itO_st {kd : Kd} (hf : Kd.fwd kd) {h : Heap} {a it : Addr} {n : Nat} (e : h.get? it = some (itO a kd)) : stI h it a n 0 kd := by
  cases kd with
  | l => exact ⟨_, e, rfl, rfl⟩
  | t => exact ⟨_, e, rfl, rfl⟩
  | rl => exact hf.elim
  | rt => exact hf.elim
theorem rawK.lt {kd : Kd} {h : Heap} {a : Addr} {items : Array Value} (x : rawK h a items kd) : a < h.objs.size := by
  cases kd
  all_goals
    obtain ⟨o, ho, _⟩ := x
    exact Heap.lt_size ho
theorem pi_zipS (hg : Gl X "zip") (hm : X.mg "zip" = none) (ha : PA X [e, e2] ta) (hs : starEach [e, e2] X.env = (false, eval e X.env) :: starEach [e2] X.env := by rfl) (hpl : (backTo pos (starEach [e2] X.env)).any (·.1) = false := by rfl) (hK : X.K = K := by rfl) :
    PI X (.Tuple elts kk tpos) (.Call (.Name "zip" p) [e, e2] [⟨some "strict", .Constant (.bool true) kc kp, kpos⟩] pos) (iZipS K ta) := by
  subst hK
  refine ⟨fun pins s σ H R I h => ?_⟩
  refine wpAny_Call_Name_kw (ld_blt I hg hm boot_zip' ?_)
  refine callWith_typeK (thn (ha.run pos pins s σ H _ I h) fun us s1 ⟨vs, H1, I1, r1, q1⟩ => thn ((pk_cons (te := tC (.bl true)) (pe_bl (X := X)) pk_nil).run pos pins s1 σ H1 (fun zs H2 => zs = [.bl true] ∧ H2 = H1) I1 ⟨rfl, rfl⟩) fun ws s2 ⟨zs, H2, I2, r2, e1, e2⟩ => ?_) (by rw [hs]; rfl) (by rw [hs]; show (false || (backTo pos (starEach [e2] X.env)).any (·.1)) = false; rw [hpl]; rfl)
  subst e1 e2
  obtain ⟨a, b, xs, ys, k1, k2, ex, hf1, hf2, hq1, hq2, hl, q⟩ := q1
  subst ex
  cases r1 with
  | cons r rr =>
  cases rr with
  | cons r' rr =>
  cases rr
  cases r
  cases r'
  cases r2 with
  | cons r rr =>
  cases rr
  cases r
  obtain ⟨its, rw1, e1, z1, g1⟩ := rd_raw I2 hq1
  obtain ⟨its2, rw2, e2, z2, g2⟩ := rd_raw I2 hq2
  show wpAny _ _ (call (.type "zip") [.ref a, .ref b] [("strict", .bool true)]) _ _ s2
  refine zipK_begins (beginsK hf1 a its) (beginsK hf2 b its2) rw1 rw2 fun h' hz hTI hTO h1 h2 hsz hk => pyIter_zipS hz ?_
  have I3 : Inv X pins σ H2 { s2 with heap := h' } := I2.kept (t' := s2.toks) hk
  refine ⟨s2.heap.objs.size + 4, [s2.heap.objs.size + 4, s2.heap.objs.size + 2, s2.heap.objs.size + 3, s2.heap.objs.size, s2.heap.objs.size + 1], _, _, H2, rfl, I3,
    turn_zipS (zip_sep2 (fp1 := [a]) (fp2 := [b]) (fun c hc => by rw [List.mem_singleton.mp hc]; exact rw1.lt) (fun c hc => by rw [List.mem_singleton.mp hc]; exact rw2.lt)) (Nat.ne_of_lt rw1.lt) (Nat.ne_of_lt (Nat.lt_succ_of_lt rw2.lt)), ⟨hz, hTI, ⟨_, _, hTO⟩, itO_st hf1 h1, itO_st hf2 h2⟩, fun c hcm => ?_, q⟩
  have e' : c = s2.heap.objs.size + 4 ∨ c = s2.heap.objs.size + 2 ∨ c = s2.heap.objs.size + 3 ∨ c = s2.heap.objs.size ∨ c = s2.heap.objs.size + 1 := by simpa using hcm
  have hle : s2.heap.objs.size ≤ c := by
    rcases e' with z | z | z | z | z
    · rw [z]; exact Nat.le_add_right _ _
    · rw [z]; exact Nat.le_add_right _ _
    · rw [z]; exact Nat.le_add_right _ _
    · rw [z]; exact Nat.le_refl _
    · rw [z]; exact Nat.le_add_right _ _
  exact I2.fpOk hle (I2.hok.fresh hle)
/-! zip(reversed(x), reversed(y), strict=True): x a list, y a tuple, both in variables -/
theorem ld_var {pins : List (Addr × Obj)} {σ : L2.St} {H : Hp} {s : Shared} {i : Nat} {x : Str} {v : V} {Q : Value → Shared → Prop} {E : Value → Shared → Prop} (I : Inv X pins σ H s) (hN : X.N[i]? = some x) (hv : Vis X.env.scope x) (e : σ[i]? = some (some v)) (hd : (x == ("__debug__" : Str)) = false) (hcd : (x == ("__classdict__" : Str)) = false)
    (h : ∀ u, RelV v u → Q u s) : wpAny (model X.prog X.w) X.A (eval (.Name x pos) X.env) Q E s := by
  obtain ⟨m, hn, hl⟩ := I.loc
  obtain ⟨u, r, l⟩ := hl i x v hN e hv
  have fin := h u r
  rcases l with ⟨hk, hm⟩ | ⟨hk, c, hc, hcell⟩
  · exact wpAny_Name (wpAny_loadName_local I.ok.kind hk hn hm fin) hd
  · rcases hk with hk | hk
    · exact wpAny_Name (wpAny_loadName_cell I.ok.kind hk hc hcell fin) hd
    · exact wpAny_Name (wpAny_loadName_free I.ok.kind hk hc hcell fin hcd) hd
def iZipR (K : PySem.W.Frag) (i j : Nat) : TI := fun σ H R => ∃ a b xs ys, σ[i]? = some (some (.ref a)) ∧ σ[j]? = some (some (.ref b)) ∧ SqL K H a xs ∧ SqT K H b ys ∧ xs.length = ys.length ∧ R (ItS K .rl .rt a b xs.length) H
theorem pi_zipR {i j : Nat} {x y : Str} {p1 p2 p3 p4 pos1 pos2 : Pos} (hg : Gl X "zip") (hm : X.mg "zip" = none) (hg2 : Gl X "reversed") (hm2 : X.mg "reversed" = none) (hN : X.N[i]? = some x) (hv : Vis X.env.scope x) (hN2 : X.N[j]? = some y) (hv2 : Vis X.env.scope y)
    (hd : (x == ("__debug__" : Str)) = false := by decide) (hcd : (x == ("__classdict__" : Str)) = false := by decide) (hd2 : (y == ("__debug__" : Str)) = false := by decide) (hcd2 : (y == ("__classdict__" : Str)) = false := by decide) (hK : X.K = K := by rfl) :
    PI X (.Tuple elts kk tpos) (.Call (.Name "zip" p) [.Call (.Name "reversed" p1) [.Name x p2] [] pos1, .Call (.Name "reversed" p3) [.Name y p4] [] pos2] [⟨some "strict", .Constant (.bool true) kc kp, kpos⟩] pos) (iZipR K i j) := by
  subst hK
  refine ⟨fun pins s σ H R I h => ?_⟩
  obtain ⟨a, b, xs, ys, ei, ej, hq1, hq2, hl, q⟩ := h
  obtain ⟨its, rv, p', hz⟩ := I.list hq1
  obtain ⟨its2, rv2, p2', hz2⟩ := I.tuple hq2
  have hn := line63
  have hl1 := rv.length
  have hl2 := rv2.length
  refine wpAny_Call_Name_kw (ld_blt I hg hm boot_zip' ?_)
  refine callWith_typeK ?_
  refine args_cons (Call_ (ld_blt I hg2 hm2 PyProof.Rows.boot_reversed (PyProof.Rows.callWith_type1 (args_cons (ld_var I hN hv ei hd hcd fun u ru => args_nil ?_) rfl) rfl rfl))) rfl
  obtain rfl : u = Value.ref a := ru
  refine call_reversed_list p'.isList ?_
  have k0 : ∀ b o, s.heap.get? b = some o → (s.heap.push (revObj a ((its.toArray.size : Int) - 1))).get? b = some o := fun b o e => Heap.get?_push_of_some _ e
  have I2 : Inv X pins σ H { s with heap := s.heap.push (revObj a ((its.toArray.size : Int) - 1)) } := I.kept (t' := s.toks) k0
  generalize e5 : ({ s with heap := s.heap.push (revObj a ((its.toArray.size : Int) - 1)) } : Shared) = s3 at I2
  have hs3 : s3.heap = s.heap.push (revObj a ((its.toArray.size : Int) - 1)) := by rw [← e5]
  have hz3 : s3.heap.objs.size = s.heap.objs.size + 1 := by rw [hs3, Heap.size_push]
  have k1 : ∀ b o, s.heap.get? b = some o → s3.heap.get? b = some o := by rw [hs3]; exact k0
  have r1 : s3.heap.IsRevIter s.heap.objs.size a ((xs.length : Int) - 1) := by
    rw [hs3, hl1]
    exact ⟨_, Heap.get?_push_size _ rfl, rfl, by simp [revObj]⟩
  clear e5 hs3 k0
  refine args_cons (Call_ (ld_blt I2 hg2 hm2 PyProof.Rows.boot_reversed (PyProof.Rows.callWith_type1 (args_cons (ld_var I2 hN2 hv2 ej hd2 hcd2 fun u ru => args_nil ?_) rfl) rfl rfl))) rfl
  obtain rfl : u = Value.ref b := ru
  have p3' : IsTup s3.heap b its2.toArray := p2'.keeps k1
  refine RT.call_reversed_tup p3' (fun A E Q k => len_tuple p3' (by simp only [List.size_toArray] <;> omega) k) (args_nil ?_)
  generalize e6 : ({ s3 with heap := s3.heap.push (RT.rtObj b ((its2.toArray.size : Int) - 1)), toks := s3.toks + 1 + 1 } : Shared) = s4
  have hs4 : s4.heap = s3.heap.push (RT.rtObj b ((its2.toArray.size : Int) - 1)) := by rw [← e6]
  have hz4 : s4.heap.objs.size = s.heap.objs.size + 2 := by rw [hs4, Heap.size_push, hz3]
  have k2 : ∀ b o, s3.heap.get? b = some o → s4.heap.get? b = some o := by rw [hs4]; exact fun b o e => Heap.get?_push_of_some _ e
  have I4 : Inv X pins σ H s4 := by
    rw [← e6]
    exact I2.kept (t' := s3.toks + 1 + 1) (fun b o e => Heap.get?_push_of_some _ e)
  have r2 : RT.IsRt s4.heap (s.heap.objs.size + 1) b ((ys.length : Int) - 1) := by
    rw [hs4, hl2, ← hz3]
    exact ⟨_, Heap.get?_push_size _ rfl, rfl, by simp [RT.rtObj]⟩
  have r3 : s4.heap.IsRevIter s.heap.objs.size a ((xs.length : Int) - 1) := r1.at fun o e => k2 _ o e
  clear e6 hs4
  refine kws_cons (Constant_bool (kws_nil ?_))
  rw [hz3]
  show wpAny _ _ (call (.type "zip") [.ref s.heap.objs.size, .ref (s.heap.objs.size + 1)] [("strict", .bool true)]) _ _ s4
  refine zipS_begins (H1 := fun h => h.IsRevIter s.heap.objs.size a ((xs.length : Int) - 1)) (H2 := fun h => RT.IsRt h (s.heap.objs.size + 1) b ((ys.length : Int) - 1)) ⟨fun prog w A E s Q hr h => wpAny_pyIter_revIter hr h⟩ ⟨fun prog w A E s Q hr h => RT.iter_rt hr h⟩ r3 r2 fun h' hz hTI hTO hsz hk => pyIter_zipS hz ?_
  have I5 : Inv X pins σ H { s4 with heap := h' } := I4.kept (t' := s4.toks) hk
  obtain ⟨oa, hoa, _⟩ := p'.isList
  obtain ⟨ob, hob, _⟩ := id p2'
  have la : a < s.heap.objs.size := Heap.lt_size hoa
  have lb : b < s.heap.objs.size := Heap.lt_size hob
  rw [hz4] at hz hTI hTO
  rw [hz4]
  have f : ∀ c, s.heap.objs.size ≤ c → FpOk X pins H c := fun c hc => I.fpOk hc (I.hok.fresh hc)
  generalize s.heap.objs.size = N at *
  have lt1 : ∀ {m k : Nat}, m < k → N + m ≠ N + k := fun h => Nat.ne_of_lt (Nat.add_lt_add_left h N)
  have na : ∀ m : Nat, a ≠ N + m := fun m => Nat.ne_of_lt (Nat.lt_of_lt_of_le la (Nat.le_add_right _ _))
  have nb : ∀ m : Nat, b ≠ N + m := fun m => Nat.ne_of_lt (Nat.lt_of_lt_of_le lb (Nat.le_add_right _ _))
  have n01 : N ≠ N + 1 := lt1 (m := 0) (k := 1) (by decide)
  have n02 : N ≠ N + 2 := lt1 (m := 0) (k := 2) (by decide)
  have n03 : N ≠ N + 3 := lt1 (m := 0) (k := 3) (by decide)
  have n04 : N ≠ N + 4 := lt1 (m := 0) (k := 4) (by decide)
  have n12 : N + 1 ≠ N + 2 := lt1 (by decide)
  have n13 : N + 1 ≠ N + 3 := lt1 (by decide)
  have n14 : N + 1 ≠ N + 4 := lt1 (by decide)
  have n23 : N + 2 ≠ N + 3 := lt1 (by decide)
  have n24 : N + 2 ≠ N + 4 := lt1 (by decide)
  have n34 : N + 3 ≠ N + 4 := lt1 (by decide)
  have sep : ZipSep2 (N + 4) (N + 2) (N + 3) N (N + 1) [N, a] [N + 1, b] :=
    ⟨n24, n34, n23, n02.symm, by simp, by simp [n04.symm, (na 4).symm], by simp [n03.symm, (na 3).symm], n12.symm, by simp, by simp [n14.symm, (nb 4).symm], by simp [n13.symm, (nb 3).symm], by simp [n01]; exact fun h => nb 0 h.symm, by simp [n01.symm]; exact fun h => na 1 h.symm⟩
  refine ⟨N + 4, [N + 4, N + 2, N + 3, N, N + 1], _, _, H, rfl, I5, turn_zipS sep (na 0) (nb 1), ⟨hz, hTI, ⟨_, _, hTO⟩, ?_, ?_⟩, fun c hcm => ?_, q⟩
  · show Heap.IsRevIter h' N a _
    rw [show (xs.length : Int) - 1 - ((0 : Nat) : Int) = (xs.length : Int) - 1 by omega]
    exact r3.at fun o e => hk _ o e
  · show RT.IsRt h' (N + 1) b _
    rw [show (xs.length : Int) - 1 - ((0 : Nat) : Int) = (ys.length : Int) - 1 by omega]
    exact r2.at fun o e => hk _ o e
  · have e' : c = N + 4 ∨ c = N + 2 ∨ c = N + 3 ∨ c = N ∨ c = N + 1 := by simpa using hcm
    refine f c ?_
    rcases e' with z | z | z | z | z
    · rw [z]; exact Nat.le_add_right _ _
    · rw [z]; exact Nat.le_add_right _ _
    · rw [z]; exact Nat.le_add_right _ _
    · rw [z]; exact Nat.le_refl _
    · rw [z]; exact Nat.le_add_right _ _
end
end Fw
namespace Fw
open PySem PySem.Spec PyProof.Rows L2
/-! ### data cut, put together, taken apart -/
def cutD (ds : List PyData) (lo hi : Option Int) : List PyData := (ds.drop (HT.sIx ds.length 0 lo)).take (HT.sIx ds.length ds.length hi - HT.sIx ds.length 0 lo)
section
variable {K : PySem.W.Frag} {H0 H H' : Hp} {Ms M0 : List Addr} {L : List (Addr × HO)} {R : List Fa} {p q : Addr} {xs ys : List V} {ds es : List PyData} {Q : VK} {v : V} {d : PyData} {lo hi : Option Int}
theorem RpAll.cut (h : RpAll K M0 H xs ds) : RpAll K M0 H (cutV xs lo hi) (cutD ds lo hi) := by
  unfold cutV cutD
  rw [h.length]
  exact DdAll.take _ (DdAll.drop _ h)
theorem w_slTD (hw : W K H0 Ms M0 H L R) (h : Rp K (av L M0) H (.ref p) (.tuple ds)) (k : ∀ p H', W K H0 Ms M0 H' L (.rp (.ref p) (.tuple (cutD ds lo hi)) :: R) → Q (.ref p) H') : uSl K (.ref p) lo hi H Q := by
  obtain ⟨xs, hx, rx⟩ := Rp.unT h
  refine .inr (.inr ⟨p, xs, rfl, hx, fun c => ?_, fun _ q hq => k q _ (hw.newTup hq rx.cut)⟩)
  have e : cutD ds lo hi = ds := by
    unfold cutD
    rw [← rx.length, c.1, c.2, List.drop_zero, Nat.sub_zero, rx.length, List.take_length]
  refine k p H ?_
  rw [e]
  exact hw.add h
theorem w_slLD (hw : W K H0 Ms M0 H L R) (h : Rp K (av L M0) H (.ref p) (.list ds)) (k : ∀ p H', H p = none → W K H0 Ms M0 H' L (.rp (.ref p) (.list (cutD ds lo hi)) :: R) → Q (.ref p) H') : uSl K (.ref p) lo hi H Q := by
  obtain ⟨xs, hx, rx⟩ := Rp.unL h
  exact .inl ⟨p, xs, rfl, SqL.of hx, fun q hq => k q _ hq (hw.newLst hq rx.cut)⟩
theorem w_catTD (hw : W K H0 Ms M0 H L R) (h1 : Rp K (av L M0) H (.ref p) (.tuple ds)) (h2 : Rp K (av L M0) H (.ref q) (.tuple es)) (hz : ds.length + es.length ≤ 100000) (k : ∀ p H', W K H0 Ms M0 H' L (.rp (.ref p) (.tuple (ds ++ es)) :: R) → Q (.ref p) H') : uAdd K (.ref p) (.ref q) H Q := by
  obtain ⟨xs, hx, rx⟩ := Rp.unT h1
  obtain ⟨ys, hy, ry⟩ := Rp.unT h2
  refine .inr (.inr (.inr ⟨p, q, xs, ys, rfl, rfl, hx, hy, by rw [rx.length, ry.length]; exact sz_of hz, fun c => ?_, fun _ c => ?_, fun _ _ l hl => k l _ (hw.newTup hl (rx.append ry))⟩))
  · subst c
    cases rx
    exact k q H (hw.add h2)
  · subst c
    cases ry
    refine k p H ?_
    rw [List.append_nil]
    exact hw.add h1
/-- a cell of data and a list of data put together: a new cell -/
theorem w_catA (hw : W K H0 Ms M0 H L R) (h1 : H p = some (.lst xs)) (hx : RpAll K (av L M0) H xs ds) (h2 : Rp K (av L M0) H (.ref q) (.list es)) (hz : ds.length + es.length ≤ 100000) (k : ∀ p ys H', H p = none → ys.length = es.length → W K H0 Ms M0 H' ((p, .lst (xs ++ ys)) :: L) (.al (xs ++ ys) (ds ++ es) :: R) → Q (.ref p) H') : uAdd K (.ref p) (.ref q) H Q := by
  obtain ⟨ys, hy, ry⟩ := Rp.unL h2
  refine .inr (.inr (.inl ⟨p, q, xs, ys, rfl, rfl, h1, hy, by rw [hx.length, ry.length]; exact sz_of hz, fun l hl => k l ys _ hl ry.length ?_⟩))
  refine (hw.new hl _).addA ?_
  exact DdAll.ext (del_ext (Mc := []) (Ex.new hl) (fun x z => nomatch z) fun x hx hn => by
    rcases List.mem_cons.mp hx with rfl | hx
    · exact hl
    · exact absurd hx hn) (hx.append ry)
theorem W.alNil (hw : W K H0 Ms M0 H L R) : W K H0 Ms M0 H L (.al [] [] :: R) := hw.addA .nil
/-- one more item: a value that is data -/
theorem W.alSnoc {vs : List V} (hw : W K H0 Ms M0 H L R) (h1 : RpAll K (av L M0) H vs ds) (h2 : Rp K (av L M0) H v d) : W K H0 Ms M0 H L (.al (vs ++ [v]) (ds ++ [d]) :: R) := hw.addA (h1.append (.cons h2 .nil))
theorem RpAll.item {vs : List V} {i : Nat} (h : RpAll K M0 H vs ds) (e : vs[i]? = some v) : ∃ d, ds[i]? = some d ∧ Rp K M0 H v d := DdAll.item h e
theorem Rp.tupI (h : Rp K M0 H v (.tuple ds)) : ∃ t xs, v = .ref t ∧ SqT K H t xs ∧ RpAll K M0 H xs ds := Rp.ref h
theorem cutD_to (n : Nat) : cutD ds none (some (n : Int)) = ds.take n := by
  unfold cutD
  rw [HT.sIx_none, HT.sIx_nat, List.drop_zero, Nat.sub_zero]
  by_cases h : n ≤ ds.length
  · rw [Nat.min_eq_left h]
  · rw [Nat.min_eq_right (by omega), List.take_length, List.take_of_length_le (by omega)]
theorem cutD_from (n : Nat) : cutD ds (some (n : Int)) none = ds.drop n := by
  unfold cutD
  rw [HT.sIx_none, HT.sIx_nat]
  by_cases h : n ≤ ds.length
  · rw [Nat.min_eq_left h, List.take_of_length_le (by rw [List.length_drop]; exact Nat.le_refl _)]
  · rw [Nat.min_eq_right (by omega), List.drop_length, List.drop_eq_nil_of_le (by omega), List.take_nil]
theorem cutD_mem {x : PyData} (h : x ∈ cutD ds lo hi) : x ∈ ds := List.mem_of_mem_drop (List.mem_of_mem_take h)
theorem cutD_len : (cutD ds lo hi).length ≤ ds.length := by
  unfold cutD
  rw [List.length_take, List.length_drop]
  omega
/-- a list's last item -/
theorem atI_last {α : Type} {xs : List α} {x : α} : atI (xs ++ [x]) (-1) = some x := by
  unfold atI ixN
  rw [if_neg (by omega), List.length_append, List.length_singleton]
  rw [if_pos (by omega)]
  simp
  rw [show (-1 + ((xs.length : Int) + 1)).toNat = xs.length by omega]
  simp
end
end Fw
namespace Fw
open PySem PySem.Spec PyProof.Rows L2
/-! ### nodes of trees by paths -/
mutual
def Tr.paths : Tr → List (List Nat)
  | .mk _ _ ps => [] :: pathsL 1 ps
def pathsL : Nat → List Tr → List (List Nat)
  | _, [] => []
  | i, t :: ts => t.paths.map (i :: ·) ++ pathsL (i + 1) ts
end
def pathD (p : List Nat) : PyData := .tuple (p.map fun (n : Nat) => .int (n : Int))
def pnD (x : List Nat × Tr) : PyData := .tuple [pathD x.1, x.2.data]
/-- a node's parts with their paths -/
def kids (p : List Nat) : Nat → List Tr → List (List Nat × Tr)
  | _, [] => []
  | i, t :: ts => (p ++ [i], t) :: kids p (i + 1) ts
def from_ (x : List Nat × Tr) : List (List Nat) := x.2.paths.map (x.1 ++ ·)
def rem (ws : List (List Nat × Tr)) : List (List Nat) := (ws.reverse.map from_).flatten
theorem kids_len (p : List Nat) : ∀ (i : Nat) (ts : List Tr), (kids p i ts).length = ts.length
  | _, [] => rfl
  | i, _ :: ts => congrArg Nat.succ (kids_len p (i + 1) ts)
theorem kids_from (p : List Nat) : ∀ (i : Nat) (ts : List Tr), ((kids p i ts).map from_).flatten = (pathsL i ts).map (p ++ ·)
  | _, [] => rfl
  | i, t :: ts => by
    simp only [kids, List.map_cons, List.flatten_cons, kids_from p (i + 1) ts, pathsL, List.map_append, from_, List.map_map]
    congr 1
    apply List.map_congr_left
    intro x _
    simp
theorem rem_snoc (ws : List (List Nat × Tr)) (x : List Nat × Tr) : rem (ws ++ [x]) = from_ x ++ rem ws := by
  unfold rem
  rw [List.reverse_append]
  simp
theorem rem_step (ws : List (List Nat × Tr)) (p : List Nat) (n : Str) (o : Int) (ps : List Tr) : rem (ws ++ [(p, .mk n o ps)]) = [p] ++ rem (ws ++ (kids p 1 ps).reverse) := by
  rw [rem_snoc]
  unfold rem
  rw [List.reverse_append, List.reverse_reverse, List.map_append, List.flatten_append, kids_from]
  simp [from_, Tr.paths]
def wsz (ws : List (List Nat × Tr)) : Nat := (ws.map fun x => x.2.size).sum
theorem kids_sz (p : List Nat) : ∀ (i : Nat) (ts : List Tr), wsz (kids p i ts) = sizes ts
  | _, [] => rfl
  | i, t :: ts => by
    have := kids_sz p (i + 1) ts
    unfold wsz at this ⊢
    simp only [kids, List.map_cons, List.sum_cons, this, sizes]
theorem wsz_app (a b : List (List Nat × Tr)) : wsz (a ++ b) = wsz a + wsz b := by unfold wsz; rw [List.map_append, List.sum_append]
theorem wsz_rev (a : List (List Nat × Tr)) : wsz a.reverse = wsz a := by unfold wsz; rw [List.map_reverse, List.sum_reverse]
theorem kids_get (p : List Nat) : ∀ (i j : Nat) (ts : List Tr) (t : Tr), ts[j]? = some t → (kids p i ts)[j]? = some (p ++ [i + j], t)
  | i, 0, t' :: ts, t, h => by cases h; rfl
  | i, j + 1, t' :: ts, t, h => by
    have := kids_get p (i + 1) j ts t (by simpa using h)
    simp only [kids, List.getElem?_cons_succ, this]
    rw [show i + 1 + j = i + (j + 1) by omega]
mutual
theorem paths_len : ∀ t : Tr, t.paths.length = t.size
  | .mk _ _ ps => by
    simp only [Tr.paths, Tr.size, List.length_cons, pathsL_len 1 ps]
    omega
theorem pathsL_len : ∀ (i : Nat) (ts : List Tr), (pathsL i ts).length = sizes ts
  | _, [] => rfl
  | i, t :: ts => by simp only [pathsL, sizes, List.length_append, List.length_map, paths_len t, pathsL_len (i + 1) ts]
end
mutual
theorem paths_high : ∀ (t : Tr) (p : List Nat), p ∈ t.paths → p.length < t.high
  | .mk _ _ ps, p, h => by
    simp only [Tr.paths, List.mem_cons] at h
    simp only [Tr.high]
    rcases h with rfl | h
    · show 0 < _; omega
    · have := pathsL_high 1 ps p h
      omega
theorem pathsL_high : ∀ (i : Nat) (ts : List Tr) (p : List Nat), p ∈ pathsL i ts → p.length ≤ highs ts
  | _, [], p, h => by simp [pathsL] at h
  | i, t :: ts, p, h => by
    simp only [pathsL, List.mem_append, List.mem_map] at h
    simp only [highs]
    rcases h with ⟨q, hq, rfl⟩ | h
    · have := paths_high t q hq
      simp only [List.length_cons]
      omega
    · have := pathsL_high (i + 1) ts p h
      omega
end
/-! the nodes along a path -/
/-- the part at a place, if a thing is one -/
def Tr.at (t : Tr) (d : PyData) : Option Tr := match t, d with
  | .mk _ _ ps, .int k => if 1 ≤ k ∧ k ≤ ps.length then ps[(k - 1).toNat]? else none
  | _, _ => none
def along : Tr → List PyData → Option (List Tr)
  | t, [] => some [t]
  | t, d :: ds => match t.at d with
    | some u => (along u ds).map (t :: ·)
    | none => none
def alongD (t : Tr) : PyData → Option (List Tr)
  | .tuple ds => along t ds
  | _ => none
theorem along_snoc : ∀ (t : Tr) (ds : List PyData) (d : PyData), along t (ds ++ [d]) = (along t ds).bind fun ts => match ts.getLast? with
    | some u => (u.at d).map fun v => ts ++ [v]
    | none => none
  | t, [], d => by
    simp only [List.nil_append, along, Option.bind_some, List.getLast?_singleton]
    cases t.at d <;> rfl
  | t, e :: ds, d => by
    simp only [List.cons_append, along]
    cases h : t.at e with
    | none => rfl
    | some u =>
      simp only [along_snoc u ds d]
      cases h2 : along u ds with
      | none => rfl
      | some ts =>
        have hne : ts ≠ [] := by
          intro z
          subst z
          cases ds with
          | nil => simp [along] at h2
          | cons e' ds' =>
            simp only [along] at h2
            cases h3 : u.at e' with
            | none => rw [h3] at h2; cases h2
            | some w =>
              rw [h3] at h2
              obtain ⟨_, _, h4⟩ := Option.map_eq_some_iff.mp h2
              cases h4
        simp only [Option.map_some, Option.bind_some, List.getLast?_cons_of_ne_nil hne]
        cases ts.getLast? with
        | none => rfl
        | some w =>
          show Option.map _ (Option.map _ (w.at d)) = Option.map _ (w.at d)
          cases w.at d <;> rfl
theorem along_len : ∀ {t : Tr} {ds : List PyData} {ts : List Tr}, along t ds = some ts → ts.length = ds.length + 1
  | t, [], ts, h => by cases h; rfl
  | t, d :: ds, ts, h => by
    simp only [along] at h
    cases h3 : t.at d with
    | none => rw [h3] at h; cases h
    | some u =>
      rw [h3] at h
      obtain ⟨us, h4, rfl⟩ := Option.map_eq_some_iff.mp h
      rw [List.length_cons, along_len h4]
      rfl
theorem pathD_snoc (p : List Nat) (i : Nat) : pathD (p ++ [1 + i]) = .tuple ((p.map fun (n : Nat) => PyData.int (n : Int)) ++ [.int (1 + (i : Int))]) := by
  unfold pathD
  rw [List.map_append]
  simp
theorem take_snoc {α β : Type} {l : List α} {i : Nat} {x : α} (f : α → β) (h : l[i]? = some x) : (l.take (i + 1)).map f = (l.take i).map f ++ [f x] := by
  rw [List.take_add_one, h, List.map_append]
  rfl
theorem size_pos (t : Tr) : 1 ≤ t.size := by
  cases t
  simp only [Tr.size]
  omega
theorem sizes_ge : ∀ ts : List Tr, ts.length ≤ sizes ts
  | [] => Nat.le_refl _
  | t :: ts => by
    have := sizes_ge ts
    have := size_pos t
    simp only [List.length_cons, sizes]
    omega
theorem ws_ge : ∀ ws : List (List Nat × Tr), ws.length ≤ wsz ws
  | [] => Nat.le_refl _
  | x :: ws => by
    have h1 := ws_ge ws
    have h2 := size_pos x.2
    unfold wsz at h1 ⊢
    simp only [List.length_cons, List.map_cons, List.sum_cons]
    omega
theorem rem_len (ws : List (List Nat × Tr)) : (rem ws).length = wsz ws := by
  rw [← wsz_rev]
  unfold rem wsz
  induction ws.reverse with
  | nil => rfl
  | cons x l ih => simp only [List.map_cons, List.flatten_cons, List.length_append, ih, List.sum_cons, from_, List.length_map, paths_len]
mutual
theorem high_size : ∀ t : Tr, t.high ≤ t.size
  | .mk _ _ ps => by
    have := highs_sizes ps
    simp only [Tr.high, Tr.size]
    omega
theorem highs_sizes : ∀ ts : List Tr, highs ts ≤ sizes ts
  | [] => Nat.le_refl _
  | t :: ts => by
    have := high_size t
    have := highs_sizes ts
    simp only [highs, sizes]
    omega
end
end Fw
namespace Fw
open PySem PySem.Spec PyProof.Rows L2
def rInsert : V → List V → Hp → VK → Prop := fun x vs H Q => ∃ (l : Addr) (xs : List V) (i : Int) (y : V), x = .ref l ∧ vs = [.int i, y] ∧ H l = some (.lst xs) ∧ xs.length < sizeLine ∧ 0 ≤ i ∧ i < 2 ^ 63 ∧ Q .non (upd H l (.lst (xs.take i.toNat ++ [y] ++ xs.drop i.toNat)))
theorem mt_insertR {X : Cx} : MtR X "list.insert" rInsert := mt_insert
section
variable {K : PySem.W.Frag} {H0 H H' : Hp} {Ms M0 : List Addr} {L : List (Addr × HO)} {R : List Fa} {p q : Addr} {xs ys zs : List V} {ds es : List PyData} {Q : VK} {v y : V} {d : PyData} {σ : L2.St} {ta : TA}
theorem x_iEnumK {c : Int} {R : It → Hp → Prop} (k : ta σ H fun vs H1 => ∃ a xs kd, vs = [.ref a] ∧ Kd.fwd kd ∧ rdK K H1 a xs kd ∧ R (ItE K kd a c) H1) : iEnumK K c ta σ H R := k
theorem x_enT {c : Int} {R : Kd → Addr → Prop} (h : SqT K H p xs) (k : R .t p) : ∃ a xs kd, [V.ref p] = [.ref a] ∧ Kd.fwd kd ∧ rdK K H a xs kd ∧ R kd a := ⟨p, xs, .t, rfl, trivial, h, k⟩
theorem x_enL {c : Int} {R : Kd → Addr → Prop} (h : SqL K H p xs) (k : R .l p) : ∃ a xs kd, [V.ref p] = [.ref a] ∧ Kd.fwd kd ∧ rdK K H a xs kd ∧ R kd a := ⟨p, xs, .l, rfl, trivial, h, k⟩
theorem x_iZipS {R : It → Hp → Prop} (k : ta σ H fun vs H1 => ∃ a b xs ys k1 k2, vs = [.ref a, .ref b] ∧ Kd.fwd k1 ∧ Kd.fwd k2 ∧ rdK K H1 a xs k1 ∧ rdK K H1 b ys k2 ∧ xs.length = ys.length ∧ R (ItS K k1 k2 a b xs.length) H1) : iZipS K ta σ H R := k
theorem w_insert {n : Nat} {i : Int} (hw : W K H0 Ms M0 H L R) (hL : L[n]? = some (p, .lst xs)) (hz : xs.length < 100000) (h0 : 0 ≤ i) (h1 : i < 2 ^ 63) (k : ∀ H', W K H0 Ms M0 H' (L.set n (p, .lst (xs.take i.toNat ++ [y] ++ xs.drop i.toNat))) R → Q .non H') :
    rInsert (.ref p) [.int i, y] H Q :=
  ⟨p, xs, i, y, rfl, rfl, hw.at n hL, sz_lt hz, h0, h1, k _ (hw.set n hL _)⟩
theorem w_pop {n : Nat} (hw : W K H0 Ms M0 H L R) (hL : L[n]? = some (p, .lst (xs ++ [y]))) (k : ∀ H', W K H0 Ms M0 H' (L.set n (p, .lst xs)) R → Q y H') : rPop (.ref p) [] H Q := by
  refine ⟨p, xs ++ [y], y, rfl, rfl, hw.at n hL, by simp, ?_⟩
  rw [List.dropLast_concat]
  exact k _ (hw.set n hL _)
theorem w_extend {n : Nat} (hw : W K H0 Ms M0 H L R) (hL : L[n]? = some (p, .lst xs)) (h2 : H q = some (.lst zs)) (hz : xs.length + zs.length ≤ 100000) (k : ∀ H', W K H0 Ms M0 H' (L.set n (p, .lst (xs ++ zs))) R → Q .non H') : rExtend (.ref p) [.ref q] H Q :=
  ⟨p, q, xs, zs, rfl, rfl, hw.at n hL, h2, sz_of hz, k _ (hw.set n hL _)⟩
theorem x_gStM {i m : Nat} {t : TGs} {QS : L2.St → Hp → Prop} (hw : W K H0 Ms M0 H L R) (h : SqL K H p xs) (h1 : i + m ≤ xs.length) (h2 : xs.length ≤ 16384)
    (k : ∀ D H', H D = none → W K H0 Ms M0 H' ((D, .lst ((xs.drop i).take ((xs.drop i).length - m))) :: L) R → t (xs.take i ++ [.ref D] ++ (xs.drop i).drop ((xs.drop i).length - m)) σ H' QS) : gStM K i m t (.ref p) σ H QS :=
  ⟨p, xs, rfl, h, h1, h2, fun D hD => k D _ hD (hw.new hD _)⟩
theorem RpAll.snoc_inv (h : RpAll K M0 H xs (ds ++ [d])) : ∃ ys v, xs = ys ++ [v] ∧ RpAll K M0 H ys ds ∧ Rp K M0 H v d := by
  induction ds generalizing xs with
  | nil =>
    obtain ⟨v, vs, rfl, h1, h2⟩ := RpAll.cons_inv h
    rw [RpAll.nil_inv h2]
    exact ⟨[], v, rfl, .nil, h1⟩
  | cons e ds ih =>
    obtain ⟨v, vs, rfl, h1, h2⟩ := RpAll.cons_inv h
    obtain ⟨ys, u, rfl, h3, h4⟩ := ih h2
    exact ⟨v :: ys, u, rfl, .cons h1 h3, h4⟩
theorem DdAll.reverse {K : PySem.W.Frag} {H : Hp} : ∀ {vs : List V} {ds : List PyData}, DdAll K H vs ds → DdAll K H vs.reverse ds.reverse
  | _, _, .nil => .nil
  | _, _, .cons a b => by
    rw [List.reverse_cons, List.reverse_cons]
    exact (DdAll.reverse b).append (.cons a .nil)
theorem DdAll.insertAt {K : PySem.W.Frag} {H : Hp} {vs : List V} {ds : List PyData} {v : V} {d : PyData} (n : Nat) (h : DdAll K H vs ds) (hd : Dd K H v d) : DdAll K H (vs.take n ++ [v] ++ vs.drop n) (ds.take n ++ [d] ++ ds.drop n) :=
  ((DdAll.take n h).append (.cons hd .nil)).append (DdAll.drop n h)
end
end Fw
namespace Fw
open PySem PySem.Spec PyProof.Rows L2
/-! ### dicts whose keys are tuples of any depth -/
abbrev Ent := NestedKey × Addr × V
def dnRel (p : Ent) (q : NestedKey × Addr × Value) : Prop := p.1 = q.1 ∧ p.2.1 = q.2.1 ∧ RelV p.2.2 q.2.2
def dnO (P : Program) (w : World) (a : Addr) (xs : List Ent) : HO := .ext fun h => ∃ us : List (NestedKey × Addr × Value), Paired dnRel xs us ∧ (a == sysModules) = false ∧ xs.length ≤ sizeLine ∧
  ∃ o es ep, h.get? a = some o ∧ o.ExactDict ∧ o.data = .dict es ep ∧ es.toList = us.map (entryOfKey (nestedKind P w)) ∧ (us.map (·.1)).Nodup
/-- its keys are data -/
abbrev dnKeys (K : PySem.W.Frag) (H : Hp) (xs : List Ent) : Prop := DdAll K H (xs.map fun x => .ref x.2.1) (xs.map fun x => x.1.data) ∧ ∀ x ∈ xs, x.1.depth ≤ 8
def look : List Ent → NestedKey → Option V
  | [], _ => none
  | x :: xs, k => if x.1 = k then some x.2.2 else look xs k
def putE (xs : List Ent) (k : NestedKey) (b : Addr) (v : V) : List Ent := if (look xs k).isSome then xs.map (fun x => if x.1 = k then (x.1, x.2.1, v) else x) else xs ++ [(k, b, v)]
def mergeE (xs es : List Ent) : List Ent := es.foldl (fun acc x => putE acc x.1 x.2.1 x.2.2) xs
section
variable {X : Cx} {pins : List (Addr × Obj)} {σ : L2.St} {H : Hp} {s : Shared} {a b : Addr} {xs : List Ent} {k : NestedKey} {v : V} {u : Value}
mutual
theorem nis (I : Inv X pins σ H s) : ∀ (k : NestedKey) (v : V) (u : Value), Dd X.K H v k.data → RelV v u → NestedIs s.heap k u
  | .none, v, u, h, r => by
    cases h
    cases r
    exact .none
  | .num i, v, u, h, r => by
    cases h
    obtain ⟨t, rfl⟩ := r
    exact .int i t
  | .text x, v, u, h, r => by
    cases h
    obtain ⟨t, rfl⟩ := r
    exact .text x t
  | .tup ks, v, u, h, r => by
    cases h with
    | tup hq hd =>
      cases r
      obtain ⟨its, rv, ⟨o, ho, hc, n, hdt⟩, _⟩ := I.tuple hq
      exact .tup ho hc hdt (by simpa using nisAll I ks _ its hd rv)
theorem nisAll (I : Inv X pins σ H s) : ∀ (ks : List NestedKey) (vs : List V) (us : List Value), DdAll X.K H vs (NestedKey.datas ks) → Vals vs us → NestedAll s.heap ks us
  | [], vs, us, h, r => by
    cases h
    cases r
    exact .nil
  | k :: ks, vs, us, h, r => by
    cases h with
    | cons h1 h2 =>
      cases r with
      | cons r1 r2 => exact .cons (nis I k _ _ h1 r1) (nisAll I ks _ _ h2 r2)
end
theorem atKey_cons {q : NestedKey × Addr × Value} {us : List (NestedKey × Addr × Value)} {k : NestedKey} : atKey (q :: us) k = if q.1 = k then some q.2 else atKey us k := by
  unfold atKey
  rw [List.find?_cons]
  by_cases h : q.1 = k
  · simp [h]
  · simp [h]
theorem dn_val {us : List (NestedKey × Addr × Value)} (r : Paired dnRel xs us) (k : NestedKey) : RelO (look xs k) ((atKey us k).map (·.2)) := by
  induction r with
  | nil => exact True.intro
  | @cons p q ps qs h t ih =>
    obtain ⟨h1, h2, h3⟩ := h
    rw [look, atKey_cons, ← h1]
    by_cases e : p.1 = k
    · rw [if_pos e, if_pos e]; exact h3
    · rw [if_neg e, if_neg e]; exact ih
theorem Paired.maps {α β : Type} {R : α → β → Prop} {f : α → α} {g : β → β} (h : ∀ a b, R a b → R (f a) (g b)) {xs : List α} {ys : List β} (r : Paired R xs ys) : Paired R (xs.map f) (ys.map g) := by
  induction r with
  | nil => exact .nil
  | cons a _ ih => exact .cons (h _ _ a) ih
theorem Paired.snoc {α β : Type} {R : α → β → Prop} {xs : List α} {ys : List β} {x : α} {y : β} (r : Paired R xs ys) (h : R x y) : Paired R (xs ++ [x]) (ys ++ [y]) := by
  induction r with
  | nil => exact .cons h .nil
  | cons a _ ih => exact .cons a ih
theorem dn_put {us : List (NestedKey × Addr × Value)} {r : Value} (p : Paired dnRel xs us) (rv : RelV v r) : Paired dnRel (putE xs k b v) (storedH us k b r) := by
  have e := (dn_val p k).isSome_eq
  rw [Option.isSome_map] at e
  unfold putE storedH
  rw [e]
  by_cases c : (atKey us k).isSome = true
  · rw [if_pos c, if_pos c]
    refine Paired.maps (fun x y h => ?_) p
    obtain ⟨h1, h2, h3⟩ := h
    unfold putAt
    rw [← h1]
    by_cases e : x.1 = k
    · rw [if_pos e, if_pos e]; exact ⟨rfl, h2, rv⟩
    · rw [if_neg e, if_neg e]; exact ⟨h1, h2, h3⟩
  · rw [if_neg c, if_neg c]
    exact Paired.snoc p ⟨rfl, rfl, rv⟩
theorem dn_merge {es : List Ent} {ps : List (NestedKey × Addr × Value)} (q : Paired dnRel es ps) : ∀ {xs : List Ent} {us : List (NestedKey × Addr × Value)}, Paired dnRel xs us → Paired dnRel (mergeE xs es) (storedAllH us ps) := by
  induction q with
  | nil => intro xs us p; exact p
  | @cons x y es ps h t ih =>
    intro xs us p
    obtain ⟨h1, h2, h3⟩ := h
    refine ih ?_
    show Paired dnRel (putE xs x.1 x.2.1 x.2.2) (storedH us y.1 y.2.1 y.2.2)
    rw [← h1, ← h2]
    exact dn_put p h3
theorem putE_len : (putE xs k b v).length ≤ xs.length + 1 := by
  unfold putE
  split
  · simp
  · simp
theorem mergeE_len {es : List Ent} : ∀ {xs : List Ent}, (mergeE xs es).length ≤ xs.length + es.length := by
  induction es with
  | nil => intro xs; exact Nat.le_refl _
  | cons x es ih =>
    intro xs
    refine Nat.le_trans (ih (xs := putE xs x.1 x.2.1 x.2.2)) ?_
    have := putE_len (xs := xs) (k := x.1) (b := x.2.1) (v := x.2.2)
    simp only [List.length_cons]
    omega
theorem paired_mono {α β : Type} {R S : α → β → Prop} (h : ∀ a b, R a b → S a b) {xs : List α} {ys : List β} (r : Paired R xs ys) : Paired S xs ys := by
  induction r with
  | nil => exact .nil
  | cons a _ ih => exact .cons (h _ _ a) ih
theorem paired_len {α β : Type} {R : α → β → Prop} {xs : List α} {ys : List β} (r : Paired R xs ys) : xs.length = ys.length := by
  induction r with
  | nil => rfl
  | cons _ _ ih => simp [ih]
theorem dn_is (I : Inv X pins σ H s) (hk : dnKeys X.K H xs) {us : List (NestedKey × Addr × Value)} (p : Paired dnRel xs us) : ∀ x ∈ us, (nestedKind X.prog X.w).is s.heap x.1 x.2.1 := by
  obtain ⟨h1, h2⟩ := hk
  induction p with
  | nil => intro x hx; cases hx
  | @cons x y es ps h t ih =>
    obtain ⟨e1, e2, e3⟩ := h
    cases h1 with
    | cons d1 d2 =>
      intro z hz
      rcases List.mem_cons.mp hz with rfl | hz
      · refine ⟨?_, ?_⟩
        · rw [← e1, ← e2]
          exact nis I x.1 (.ref x.2.1) (.ref x.2.1) d1 rfl
        · rw [← e1]; exact h2 x (List.mem_cons_self ..)
      · exact ih d2 (fun a ha => h2 a (List.mem_cons_of_mem _ ha)) z hz
theorem dn_of (I : Inv X pins σ H s) (e : H a = some (dnO X.prog X.w a xs)) (hk : dnKeys X.K H xs) : xs.length ≤ sizeLine ∧ (a == sysModules) = false ∧ ∃ us, Paired dnRel xs us ∧ s.heap.DictOfH (nestedKind X.prog X.w) a us := by
  obtain ⟨⟨us, p, hs, hl, o, es, ep, h1, h2, h3, h4, h5⟩, _, _⟩ := (show ObjOk X.prog X.w H s.heap a (dnO X.prog X.w a xs) from I.hok a _ e)
  exact ⟨hl, hs, us, p, o, es, ep, h1, h2, h3, h4, dn_is I hk p, h5⟩
theorem dn_new {P : Program} {w : World} {H' : Hp} {h' : Heap} {us : List (NestedKey × Addr × Value)} (z : xs.length ≤ sizeLine) (hs : (a == sysModules) = false) (p : Paired dnRel xs us) (dd : h'.DictOfH (nestedKind P w) a us) : ObjOk P w H' h' a (dnO P w a xs) := by
  obtain ⟨o, es, ep, h1, h2, h3, h4, _, h5⟩ := dd
  refine ⟨⟨us, p, hs, z, o, es, ep, h1, h2, h3, h4, h5⟩, ⟨o, h1⟩, ?_⟩
  rintro g1 g2 ⟨us, p, hs, z, o, es, ep, h1, h2, h3, h4, h5⟩ k
  exact ⟨us, p, hs, z, o, es, ep, k o h1, h2, h3, h4, h5⟩
end
/-! ### the operations -/
/-- the tuple at b is the key k -/
abbrev NKey (K : PySem.W.Frag) (H : Hp) (b : Addr) (k : NestedKey) : Prop := Dd K H (.ref b) k.data ∧ k.depth ≤ 8
abbrev DNs (X : Cx) (H : Hp) (a : Addr) (xs : List Ent) : Prop := H a = some (dnO X.prog X.w a xs) ∧ dnKeys X.K H xs
section
variable {X : Cx} {pins : List (Addr × Obj)} {σ : L2.St} {H : Hp} {s : Shared} {a b : Addr} {xs : List Ent} {k : NestedKey} {v d : V} {u r : Value} {A : Around} {E : Value → Shared → Prop}
theorem nkey_is (I : Inv X pins σ H s) (h : NKey X.K H b k) : (nestedKind X.prog X.w).is s.heap k b := ⟨nis I k _ _ h.1 rfl, h.2⟩
theorem nroom (hu : A.units + 16 < cLine) : (nestedKind X.prog X.w).room A.in1 := by
  show A.units + 1 + 8 < cLine
  omega
theorem nroom2 (hu : A.units + 16 < cLine) : (nestedKind X.prog X.w).room A.in1.in1 := by
  show A.units + 1 + 1 + 8 < cLine
  omega
/-- d[y], there -/
theorem n_getItem {Q : Value → Shared → Prop} (hu : A.units + 16 < cLine) (I : Inv X pins σ H s) (g : DNs X H a xs) (hk : NKey X.K H b k) (l : look xs k = some v) (h : ∀ w' s', Inv X pins σ H s' → RelV v w' → Q w' s') :
    wpAny (model X.prog X.w) A (getItem (.ref a) (.ref b)) Q E s := by
  obtain ⟨z, hd, us, rel, dd⟩ := dn_of I g.1 g.2
  obtain ⟨w', hw, rw'⟩ := RelO.some_of (v := v) (o := (atKey us k).map (·.2)) (by rw [← l]; exact dn_val rel k)
  obtain ⟨p, hp, hp2⟩ := Option.map_eq_some_iff.mp hw
  refine wpAny_getItem_heap (nroom hu) (nkey_is I hk) dd hp ?_
  rw [hp2]
  exact h w' _ (I.tok _) rw'
theorem n_in {Q : Value → Shared → Prop} (hu : A.units + 16 < cLine) (I : Inv X pins σ H s) (g : DNs X H a xs) (hk : NKey X.K H b k) (h : ∀ s', Inv X pins σ H s' → Q (.bool (look xs k).isSome) s') :
    wpAny (model X.prog X.w) A (compareOp .In (.ref b) (.ref a)) Q E s := by
  obtain ⟨z, hd, us, rel, dd⟩ := dn_of I g.1 g.2
  refine wpAny_in_heap (nroom hu) (nkey_is I hk) hd dd ?_
  have q := (dn_val rel k).isSome_eq
  rw [Option.isSome_map] at q
  rw [← q]
  exact h _ (I.tok _)
theorem n_notIn {Q : Value → Shared → Prop} (hu : A.units + 16 < cLine) (I : Inv X pins σ H s) (g : DNs X H a xs) (hk : NKey X.K H b k) (h : ∀ s', Inv X pins σ H s' → Q (.bool (!(look xs k).isSome)) s') :
    wpAny (model X.prog X.w) A (compareOp .NotIn (.ref b) (.ref a)) Q E s := by
  obtain ⟨z, hd, us, rel, dd⟩ := dn_of I g.1 g.2
  refine wpAny_notIn_heap (nroom hu) (nkey_is I hk) hd dd ?_
  have q := (dn_val rel k).isSome_eq
  rw [Option.isSome_map] at q
  rw [← q]
  exact h _ (I.tok _)
theorem n_get1 {Q : Value → Shared → Prop} (hu : A.units + 16 < cLine) (I : Inv X pins σ H s) (g : DNs X H a xs) (hk : NKey X.K H b k) (h : ∀ w' s', Inv X pins σ H s' → RelV ((look xs k).getD .non) w' → Q w' s') :
    wpAny (model X.prog X.w) A (call (.builtin "dict.get") [.ref a, .ref b]) Q E s := by
  obtain ⟨z, hd, us, rel, dd⟩ := dn_of I g.1 g.2
  refine call_meetsIn PySem.F.slot_dict_get dd.typeIs PySem.F.entry_dict_get (PySem.F.args_dict_get_2 _ _) (meetsH_dict_get (nestedKind X.prog X.w) a b hd) ⟨nroom hu, k, us, nkey_is I hk, dd, h _ _ (I.tok _) ?_⟩
  exact (dn_val rel k).getD rfl
theorem n_get2 {Q : Value → Shared → Prop} (hu : A.units + 16 < cLine) (I : Inv X pins σ H s) (g : DNs X H a xs) (hk : NKey X.K H b k) (rd : RelV d r) (h : ∀ w' s', Inv X pins σ H s' → RelV ((look xs k).getD d) w' → Q w' s') :
    wpAny (model X.prog X.w) A (call (.builtin "dict.get") [.ref a, .ref b, r]) Q E s := by
  obtain ⟨z, hd, us, rel, dd⟩ := dn_of I g.1 g.2
  refine call_meetsIn PySem.F.slot_dict_get dd.typeIs PySem.F.entry_dict_get (PySem.F.args_dict_get_3 _ _ _) (meetsH_dict_get_default (nestedKind X.prog X.w) a b hd r) ⟨nroom hu, k, us, nkey_is I hk, dd, h _ _ (I.tok _) ?_⟩
  exact (dn_val rel k).getD rd
theorem n_setItem {Q : Unit → Shared → Prop} (hu : A.units + 16 < cLine) (I : Inv X pins σ H s) (g : DNs X H a xs) (hk : NKey X.K H b k) (hl : xs.length < sizeLine) (rv : RelV v r) (h : ∀ s', Inv X pins σ (upd H a (dnO X.prog X.w a (putE xs k b v))) s' → Q () s') :
    wpAny (model X.prog X.w) A (setItem (.ref a) (.ref b) r) Q E s := by
  obtain ⟨z, hd, us, rel, dd⟩ := dn_of I g.1 g.2
  have hz : us.length ≤ sizeLine := by rw [← paired_len rel]; exact z
  have hl' : (putE xs k b v).length ≤ sizeLine := by have := putE_len (xs := xs) (k := k) (b := b) (v := v); omega
  refine wpAny_setItem_heap (hsz := hz) (nroom hu) (nkey_is I hk) dd fun h' dd' hs => h _ ?_
  have he : ∃ q, h'.get? a = some q := let ⟨q, _, _, hq, _⟩ := dd'; ⟨q, hq⟩
  exact d_write I (by rw [g.1]; exact True.intro) hs he (dn_new hl' hd (dn_put rel rv) dd')
/-- {} -/
theorem dn_empty {P : Program} {w : World} {H : Hp} (h : Heap) (hb : sysModules < h.objs.size) : ObjOk P w H (h.push { cls := .type "dict", data := .dict #[] }) h.objs.size (dnO P w h.objs.size []) :=
  dn_new (Nat.zero_le _) (beq_eq_false_iff_ne.mpr (Ne.symm (Nat.ne_of_lt hb))) .nil (Heap.DictOfH.new h)
end
end Fw
namespace Fw
open PySem PySem.Spec PyProof.Rows L2
/-! ### dicts made of lists of pairs; keys asked for; compared with none; sorted -/
section
variable {X : Cx} {pins : List (Addr × Obj)} {σ : L2.St} {H : Hp} {s : Shared}
/-- the pairs of a list, keys tuples -/
theorem pairsN_of (I : Inv X pins σ H s) : ∀ {ps : List Addr} {es : List Ent}, Paired (fun p (e : Ent) => SqT X.K H p [.ref e.2.1, e.2.2]) ps es →
    ∃ us : List (NestedKey × Addr × Value), Paired dnRel es us ∧ us.length = ps.length ∧ ∀ (j : Nat) (q : NestedKey × Addr × Value), us[j]? = some q → ∃ b, ps[j]? = some b ∧ IsTup s.heap b #[.ref q.2.1, q.2.2]
  | _, _, .nil => ⟨[], .nil, rfl, fun j q e => by simp at e⟩
  | _, _, .cons (a := p) (b := e) h t => by
    obtain ⟨us, r, hl, hp⟩ := pairsN_of I t
    obtain ⟨its, rv, ht, _⟩ := I.tuple h
    obtain ⟨u, y, ei, ru, ry⟩ := vals2 rv
    cases (show u = Value.ref e.2.1 from ru)
    subst ei
    refine ⟨(e.1, e.2.1, y) :: us, .cons ⟨rfl, rfl, ry⟩ r, by rw [List.length_cons, List.length_cons, hl], fun j q e' => ?_⟩
    cases j with
    | zero =>
      have e2 : (e.1, e.2.1, y) = q := Option.some.inj e'
      subst e2
      exact ⟨p, rfl, ht⟩
    | succ j =>
      obtain ⟨b, e1, e2⟩ := hp j q (by simpa using e')
      exact ⟨b, by simpa using e1, e2⟩
def rDictN (K : PySem.W.Frag) (P : Program) (w : World) : List V → Hp → VK → Prop := fun xs H Q => ∃ (a : Addr) (ps : List Addr) (es : List Ent), xs = [.ref a] ∧ SqL K H a (ps.map V.ref) ∧
  Paired (fun p (e : Ent) => SqT K H p [.ref e.2.1, e.2.2]) ps es ∧ dnKeys K H es ∧ ∀ p, H p = none → Q (.ref p) (upd H p (dnO P w p (mergeE [] es)))
theorem call_dictN (hcalm : X.calm = true) (hu : X.A.units + 16 < cLine) : CallR X (.type "dict") (rDictN X.K X.prog X.w) := by
  intro pins s σ H xs us Q I r q
  obtain ⟨a, ps, es, ex, hq, hp, hk, q⟩ := q
  subst ex
  obtain ⟨u, eu, rx⟩ := vals1 r
  subst eu
  cases rx
  obtain ⟨its, rv, pl, hz⟩ := I.list hq
  have ei := refs_at rv
  subst ei
  rw [List.length_map] at hz
  obtain ⟨us, rel, hl, hpr⟩ := pairsN_of I hp
  obtain ⟨o, n, ho, hc, hd, hdat⟩ := pl
  have hm : (s.heap.objs.size == sysModules) = false := beq_eq_false_iff_ne.mpr (Nat.ne_of_gt I.big)
  have his := dn_is I hk rel
  refine call_dict_pairsH (knd := nestedKind X.prog X.w) (ps := us) (PairArg.list a (ps.map Value.ref).toArray (fun j => (ps[j]?).getD 0) (us.map fun x => (Value.ref x.2.1, x.2.2))) (I.ok.hd hcalm) (nroom2 hu) ⟨⟨o, n, ho, hc, hd, hdat⟩, by simp [hl], fun j k v e => ?_⟩ ⟨by simp, fun i key v e => ?_⟩ (fun h' hk' x hx => ?_) (by rw [List.length_map, hl]; exact hz) fun h' tk hd' hk' => ?_
  · rw [List.getElem?_map] at e
    obtain ⟨x, hx, e⟩ := Option.map_eq_some_iff.mp e
    obtain ⟨b, e1, e2⟩ := hpr j x hx
    cases e
    refine ⟨by simp [e1], ?_⟩
    show PairAt s.heap ((ps[j]?).getD 0) _ _
    rw [e1]
    exact .inl e2
  · unfold PairRel at e
    rw [List.getElem?_map] at e
    obtain ⟨x, hx, e⟩ := Option.map_eq_some_iff.mp e
    cases e
    exact ⟨x.1, x.2.1, hx, rfl⟩
  · obtain ⟨i1, i2⟩ := his x hx
    exact ⟨NestedIs.at (fun b ob vs n hb _ => hk' b ob (Nat.ne_of_lt (Heap.lt_size hb)) (by simp) hb) _ _ i1, i2⟩
  · have hlen : (mergeE [] es).length ≤ sizeLine := by
      refine Nat.le_trans mergeE_len ?_
      rw [List.length_nil, Nat.zero_add, paired_len rel, hl]
      exact hz
    exact ⟨.ref s.heap.objs.size, upd H s.heap.objs.size (dnO X.prog X.w s.heap.objs.size (mergeE [] es)), I.laid (t' := tk) (fun b o e => hk' b o (by simp) e) (Nat.le_refl _) (dn_new hlen hm (dn_merge rel .nil) hd'), rfl, q _ (I.hok.fresh (Nat.le_refl _))⟩
def rDictP (K : PySem.W.Frag) : List V → Hp → VK → Prop := fun xs H Q => ∃ (a : Addr) (ps : List Addr) (kvs : List (Key × V)), xs = [.ref a] ∧ SqL K H a (ps.map V.ref) ∧ Paired (fun p kv => SqT K H p [kV kv.1, kv.2]) ps kvs ∧
    ∀ p, H p = none → Q (.ref p) (upd H p (.dK (mergeK [] kvs)))
def uDict (K : PySem.W.Frag) (P : Program) (w : World) : List V → Hp → VK → Prop := fun xs H Q => rDictP K xs H Q ∨ rDictN K P w xs H Q
theorem hu16 {A : Around} {k : Nat} (hr : Room k A) : A.units + 16 < cLine := Nat.lt_of_le_of_lt (Nat.add_le_add_left (by decide : 16 ≤ 64) _) hr.units
theorem call_dictU {K : PySem.W.Frag} {P : Program} {w : World} {k : Nat} (hc : X.calm = true) (hr : Room k X.A) (hK : X.K = K := by rfl) (hP : X.prog = P := by rfl) (hw : X.w = w := by rfl) : CallR X (.type "dict") (uDict K P w) := by
  subst hK hP hw
  exact CallR.or (call_dictP hc) (call_dictN hc (hu16 hr))
/-! k in d -/
def rInDD : R2 := fun x y H Q => ∃ a o, y = .ref a ∧ DGet H a x o ∧ Q (.bl o.isSome) H
def rNotInDD : R2 := fun x y H Q => ∃ a o, y = .ref a ∧ DGet H a x o ∧ Q (.bl (!o.isSome)) H
theorem op_inDD {k : Nat} (hr : Room k X.A) : OpR X (compareOp .In) rInDD := by
  intro pins s σ H x y v u Q I rx ry h
  obtain ⟨a, o, rfl, g, q⟩ := h
  obtain rfl : u = Value.ref a := ry
  exact d_in (hu_of hr) I g rx fun s' I' => ⟨.bl o.isSome, H, I', rfl, q⟩
theorem op_notInDD {k : Nat} (hr : Room k X.A) : OpR X (compareOp .NotIn) rNotInDD := by
  intro pins s σ H x y v u Q I rx ry h
  obtain ⟨a, o, rfl, g, q⟩ := h
  obtain rfl : u = Value.ref a := ry
  exact d_notIn (hu_of hr) I g rx fun s' I' => ⟨.bl (!o.isSome), H, I', rfl, q⟩
/-! d == {} -/
def rEqD0 : R2 := fun x y H Q => ∃ a b ks, x = .ref a ∧ y = .ref b ∧ Rd H a (.dK ks) ∧ Rd H b (.dK []) ∧ Q (.bl ks.isEmpty) H
theorem op_eqD0 {k : Nat} (hr : Room k X.A) : OpR X (compareOp .Eq) rEqD0 := by
  intro pins s σ H x y v u Q I rx ry h
  obtain ⟨a, b, ks, rfl, rfl, ea, eb, q⟩ := h
  obtain rfl : v = Value.ref a := rx
  obtain rfl : u = Value.ref b := ry
  obtain ⟨_, ya, va, ra, da⟩ := dk_rd I.hok ea
  obtain ⟨_, yb, vb, rb, db⟩ := dk_rd I.hok eb
  have hb0 : vb = [] := by
    have := Paired.length rb
    exact List.eq_nil_of_length_eq_zero this.symm
  subst hb0
  have hu := hu_of hr
  refine PySem.W.keq_eq (knd := mixKind X.prog X.w) (r := true) ya yb da db (by omega) (fun e => ?_) (fin_bl I q ?_)
  · have : va = [] := List.eq_nil_of_length_eq_zero e
    subst this
    exact .nil
  · have := Paired.length ra
    cases ks with
    | nil => cases va with
      | nil => rfl
      | cons _ _ => simp at this
    | cons _ _ => cases va with
      | nil => simp at this
      | cons _ _ => rfl
/-! sorted(d) -/
def rSortedD : List V → Hp → VK → Prop := fun xs H Q => ∃ (a : Addr) (kvs : List (Key × V)) (ks : List Str), xs = [.ref a] ∧ Rd H a (.dK kvs) ∧ kvs.map (·.1) = ks.map Sum.inr ∧ ks.length < 64 ∧
    ∀ ys p, ys.Perm ks → sortedS ys = true → H p = none → Q (.ref p) (upd H p (.lst (ys.map V.str)))
theorem call_sortedDD (hc : X.calm = true) : CallR X (.builtin "sorted") rSortedD := call_sortedD hc
end
/-! ### steps -/
abbrev kvZ (ks : List Str) (vs : List V) : List (Key × V) := (ks.map Sum.inr).zip vs
theorem putK_new {kvs : List (Key × V)} {k : Key} {v : V} (h : k ∉ kvs.map (·.1)) : putK kvs k v = kvs ++ [(k, v)] := by
  unfold putK
  rw [if_neg]
  intro z
  obtain ⟨x, hx, e⟩ := List.any_eq_true.mp z
  exact h (List.mem_map.mpr ⟨x, hx, of_decide_eq_true e⟩)
theorem mergeK_nodup : ∀ {es kvs : List (Key × V)}, ((kvs ++ es).map (·.1)).Nodup → mergeK kvs es = kvs ++ es
  | [], kvs, _ => by rw [List.append_nil]; rfl
  | e :: es, kvs, h => by
    show mergeK (putK kvs e.1 e.2) es = _
    rw [putK_new]
    · rw [mergeK_nodup (by rw [List.append_assoc]; exact h), List.append_assoc]; rfl
    · intro z
      rw [List.map_append, List.map_cons] at h
      exact (List.nodup_append.mp h).2.2 _ z _ (List.mem_cons_self ..) rfl
theorem kvZ_keys {ks : List Str} {vs : List V} (h : ks.length = vs.length) : (kvZ ks vs).map (·.1) = ks.map Sum.inr := List.map_fst_zip (by rw [List.length_map]; omega)
theorem mergeZ {ks : List Str} {vs : List V} (hl : ks.length = vs.length) (nd : ks.Nodup) : mergeK [] (kvZ ks vs) = kvZ ks vs := by
  rw [mergeK_nodup]
  · rfl
  · rw [List.nil_append, kvZ_keys hl]
    exact List.Pairwise.map _ (fun a b e z => e (Sum.inr.inj z)) nd
/-- asked for by a text -/
theorem valZ {K : PySem.W.Frag} {H : Hp} : ∀ {ks : List Str} {vs : List V} {ds : List PyData} {x : Str} {d : PyData}, DdAll K H vs ds → (ks.zip ds).lookup x = some d → ∃ v, valV (kvZ ks vs) (.inr x) = some v ∧ Dd K H v d
  | [], _, _, _, _, _, e => by simp at e
  | k :: ks, _, _, _, _, .nil, e => by simp at e
  | k :: ks, v :: vs, d' :: ds, x, d, .cons h t, e => by
    rw [List.zip_cons_cons, List.lookup_cons] at e
    by_cases c : k = x
    · subst c
      rw [beq_self_eq_true] at e
      cases e
      exact ⟨v, valV_pos rfl, h⟩
    · have cb : (x == k) = false := beq_eq_false_iff_ne.mpr (Ne.symm c)
      rw [cb] at e
      obtain ⟨u, h1, h2⟩ := valZ t e
      refine ⟨u, ?_, h2⟩
      rw [show kvZ (k :: ks) (v :: vs) = (Sum.inr k, v) :: kvZ ks vs from rfl, valV_neg (fun z => c (Sum.inr.inj z))]
      exact h1
section
variable {K : PySem.W.Frag} {H0 H H' : Hp} {Ms M0 : List Addr} {L : List (Addr × HO)} {R : List Fa} {p q : Addr} {xs ys : List V} {ds es : List PyData} {Q : VK} {v : V} {d : PyData} {P : Program} {w : World}
theorem dd_pairs : ∀ {rows : List (Str × PyData)} {xs : List V}, DdAll K H xs (rows.map fun r => .tuple [.str r.1, r.2]) → ∃ ps vs, xs = ps.map V.ref ∧ Paired (fun p (kv : Key × V) => SqT K H p [kV kv.1, kv.2]) ps (kvZ (rows.map (·.1)) vs) ∧ DdAll K H vs (rows.map (·.2))
  | [], _, .nil => ⟨[], [], rfl, .nil, .nil⟩
  | r :: rows, _, .cons h t => by
    obtain ⟨ps, vs, rfl, h1, h2⟩ := dd_pairs t
    cases h with
    | @tup a _ _ hq hd =>
      cases hd with
      | cons d1 d2 =>
        cases d1
        cases d2 with
        | @cons v _ _ _ d2 d3 =>
          cases d3
          exact ⟨a :: ps, v :: vs, rfl, .cons hq h1, .cons d2 h2⟩
/-- dict(xs), xs pairs of texts and data, no text twice -/
theorem w_dictT {rows : List (Str × PyData)} (hw : W K H0 Ms M0 H L R) (h : Rp K (av L M0) H (.ref p) (.list (rows.map fun r => .tuple [.str r.1, r.2]))) (nd : (rows.map (·.1)).Nodup)
    (k : ∀ p vs H', H p = none → vs.length = rows.length → W K H0 Ms M0 H' ((p, .dK (kvZ (rows.map (·.1)) vs)) :: L) (.al vs (rows.map (·.2)) :: R) → Q (.ref p) H') : uDict K P w [.ref p] H Q := by
  obtain ⟨xs, hx, rx⟩ := Rp.unL h
  obtain ⟨ps, vs, rfl, h1, h2⟩ := dd_pairs rx
  have hl : vs.length = rows.length := by rw [h2.length, List.length_map]
  refine .inl ⟨p, ps, kvZ (rows.map (·.1)) vs, rfl, SqL.of hx, paired_mono (fun a b z => del_all.sqT z) h1, fun q hq => ?_⟩
  · rw [mergeZ (by rw [List.length_map, hl]) nd]
    exact k q vs _ hq hl ((hw.new hq _).addA (DdAll.ext (del_ext (Mc := []) (Ex.new hq) (fun x z => nomatch z) fun x hx hn => by
      rcases List.mem_cons.mp hx with rfl | hx
      · exact hq
      · exact absurd hx hn) h2))
theorem dd_pairsN : ∀ {rows : List (List NestedKey × PyData)} {xs : List V}, DdAll K H xs (rows.map fun r => .tuple [(NestedKey.tup r.1).data, r.2]) → ∃ (ps : List Addr) (es : List Ent), xs = ps.map V.ref ∧ Paired (fun p (e : Ent) => SqT K H p [.ref e.2.1, e.2.2]) ps es ∧
    es.map (·.1) = (rows.map fun r => NestedKey.tup r.1) ∧ DdAll K H (es.map fun x => .ref x.2.1) (es.map fun x => x.1.data) ∧ DdAll K H (es.map (·.2.2)) (rows.map (·.2))
  | [], _, .nil => ⟨[], [], rfl, .nil, rfl, .nil, .nil⟩
  | r :: rows, _, .cons h t => by
    obtain ⟨ps, es, rfl, h1, h2, h3, h4⟩ := dd_pairsN t
    cases h with
    | @tup a _ _ hq hd =>
      cases hd with
      | @cons u _ _ _ d1 d2 =>
        obtain ⟨b, rfl⟩ : ∃ b, u = .ref b := by
          cases d1 with
          | tup _ _ => exact ⟨_, rfl⟩
        cases d2 with
        | @cons v _ _ _ d2 d3 =>
          cases d3
          exact ⟨a :: ps, (.tup r.1, b, v) :: es, rfl, .cons hq h1, by rw [List.map_cons, List.map_cons, h2], .cons d1 h3, .cons d2 h4⟩
/-- dict(xs), xs pairs of tuples and data -/
theorem w_dictN {rows : List (List NestedKey × PyData)} (hw : W K H0 Ms M0 H L R) (h : Rp K (av L M0) H (.ref p) (.list (rows.map fun r => .tuple [(NestedKey.tup r.1).data, r.2]))) (dp : ∀ r ∈ rows, (NestedKey.tup r.1).depth ≤ 8)
    (k : ∀ p (es : List Ent) H', H p = none → es.map (·.1) = (rows.map fun r => NestedKey.tup r.1) → W K H0 Ms M0 H' ((p, dnO P w p (mergeE [] es)) :: L) (.al (es.map (·.2.2)) (rows.map (·.2)) :: .al (es.map fun x => .ref x.2.1) (es.map fun x => x.1.data) :: R) → Q (.ref p) H') : uDict K P w [.ref p] H Q := by
  obtain ⟨xs, hx, rx⟩ := Rp.unL h
  obtain ⟨ps, es, rfl, h1, h2, h3, h4⟩ := dd_pairsN rx
  refine .inr ⟨p, ps, es, rfl, SqL.of hx, paired_mono (fun a b z => del_all.sqT z) h1, ⟨DdAll.ext del_all h3, fun x hx => ?_⟩, fun q hq => ?_⟩
  · have : x.1 ∈ es.map (·.1) := List.mem_map.mpr ⟨x, hx, rfl⟩
    rw [h2] at this
    obtain ⟨r, hr, e⟩ := List.mem_map.mp this
    rw [← e]
    exact dp r hr
  · have e := del_ext (M' := av ((q, dnO P w q (mergeE [] es)) :: L) M0) (Mc := []) (Ex.new (o := dnO P w q (mergeE [] es)) hq) (fun x z => nomatch z) (M := av L M0) fun x hx hn => by
      rcases List.mem_cons.mp hx with rfl | hx
      · exact hq
      · exact absurd hx hn
    exact k q es _ hq h2 (((hw.new hq _).addA (DdAll.ext e h3)).addA (DdAll.ext e h4))
/-- d[k] = v -/
theorem w_setDK {kvs : List (Key × V)} {k : Key} {y : V} {F : Hp → Prop} (hw : W K H0 Ms M0 H L R) (n : Nat) (hL : L[n]? = some (p, .dK kvs)) (hy : y = kV k) (hz : kvs.length ≤ 1000) (q : ∀ H', W K H0 Ms M0 H' (L.set n (p, .dK (putK kvs k v))) R → F H') : rSetD (.ref p) y v H F := by
  subst hy
  exact ⟨p, _, rfl, DPut.k (hw.at n hL) (Nat.lt_of_le_of_lt hz (by rw [sizeLine_eq]; decide)), q _ (hw.set n hL _)⟩
theorem x_inDS {kvs : List (Key × V)} {x : Str} (h : H p = some (.dK kvs)) (q : Q (.bl (valV kvs (.inr x)).isSome) H) : rInDD (.str x) (.ref p) H Q := ⟨p, _, rfl, .inl ⟨kvs, .inr x, .inl h, rfl, rfl⟩, q⟩
theorem x_notInDS {kvs : List (Key × V)} {x : Str} (h : H p = some (.dK kvs)) (q : Q (.bl (!(valV kvs (.inr x)).isSome)) H) : rNotInDD (.str x) (.ref p) H Q := ⟨p, _, rfl, .inl ⟨kvs, .inr x, .inl h, rfl, rfl⟩, q⟩
theorem x_eqD0 {kvs : List (Key × V)} (h : H p = some (.dK kvs)) (h2 : H q = some (.dK [])) (k : Q (.bl kvs.isEmpty) H) : rEqD0 (.ref p) (.ref q) H Q := ⟨p, q, kvs, rfl, rfl, .inl h, .inl h2, k⟩
theorem x_dget2 {σ : L2.St} {td ty tx : TE} (q : td σ H fun x H1 => ∃ a, x = .ref a ∧ IsD H1 a ∧ ty σ H1 fun y H2 => tx σ H2 fun z H3 => ∃ o, DGet H3 a y o ∧ Q (o.getD z) H3) : tDGet2 td ty tx σ H Q := q
theorem x_dget2a {kvs : List (Key × V)} {F : Addr → Prop} (h : H p = some (.dK kvs)) (q : F p) : ∃ a, V.ref p = .ref a ∧ IsD H a ∧ F a := ⟨p, rfl, .inl ⟨kvs, .inl h⟩, q⟩
theorem x_dget2b {kvs : List (Key × V)} {x : Str} {F : Option V → Prop} (h : H p = some (.dK kvs)) (q : F (valV kvs (.inr x))) : ∃ o, DGet H p (.str x) o ∧ F o := ⟨_, .inl ⟨kvs, .inr x, .inl h, rfl, rfl⟩, q⟩
theorem w_dnew {σ : L2.St} (hw : W K H0 Ms M0 H L R) (k : ∀ p H', H p = none → W K H0 Ms M0 H' ((p, .dK []) :: L) R → Q (.ref p) H') : tDNewK σ H Q := fun p hp => k p _ hp (hw.new hp _)
theorem w_sortedD {kvs : List (Key × V)} {ks : List Str} (hw : W K H0 Ms M0 H L R) (h : H p = some (.dK kvs)) (e : kvs.map (·.1) = ks.map Sum.inr) (hl : ks.length < 64) (k : ∀ p ys H', H p = none → ys.Perm ks → sortedS ys = true → W K H0 Ms M0 H' ((p, .lst (ys.map V.str)) :: L) R → Q (.ref p) H') : rSortedD [.ref p] H Q :=
  ⟨p, kvs, ks, rfl, .inl h, e, hl, fun ys q h1 h2 hq => k q ys _ hq h1 h2 (hw.new hq _)⟩
end
end Fw
namespace Fw
open PySem PySem.Spec PyProof.Rows L2
/-! ### grammars, plain -/
abbrev SRow := Str × List Str × List Str
abbrev MRow := Str × Str × List Str
def strsD (xs : List Str) : PyData := .tuple (xs.map PyData.str)
def SRow.d (r : SRow) : PyData := .tuple [.str r.1, strsD r.2.1, strsD r.2.2]
def MRow.d (r : MRow) : PyData := .tuple [.str r.1, .str r.2.1, strsD r.2.2]
inductive En where
  | at (i : Nat) (x : Str)
  | kept (x : Str)
deriving DecidableEq
def En.d : En → PyData
  | .at i x => .tuple [.str "at", .int i, .str x]
  | .kept x => .tuple [.str "kept", .str x]
inductive Opd where
  | en (e : En)
  | own
  | num (n : Nat)
def Opd.d : Opd → PyData
  | .en e => e.d
  | .own => .tuple [.str "own"]
  | .num n => .tuple [.str "number", .int n]
structure GRule where
  by' : Str
  to : En
  op : Str
  of : List Opd
def GRule.d (r : GRule) : PyData := .tuple [.str r.by', r.to.d, .str r.op, .tuple (r.of.map Opd.d)]
/-! ### cuts -/
theorem cutD_both {ds : List PyData} (lo hi : Nat) : cutD ds (some (lo : Int)) (some (hi : Int)) = (ds.drop lo).take (hi - lo) := by
  unfold cutD
  rw [HT.sIx_nat, HT.sIx_nat]
  by_cases h : lo ≤ ds.length
  · rw [Nat.min_eq_left h]
    by_cases h2 : hi ≤ ds.length
    · rw [Nat.min_eq_left h2]
    · rw [Nat.min_eq_right (by omega), List.take_of_length_le (by rw [List.length_drop]; omega), List.take_of_length_le (by rw [List.length_drop]; omega)]
  · rw [show min lo ds.length = ds.length from Nat.min_eq_right (by omega), List.drop_length, List.drop_eq_nil_of_le (by omega), List.take_nil, List.take_nil]
theorem ins_perm {α : Type} {xs : List α} {x : α} (n : Nat) : (xs.take n ++ [x] ++ xs.drop n).Perm (x :: xs) := by
  rw [List.append_assoc, List.singleton_append]
  refine List.perm_middle.trans ?_
  rw [List.take_append_drop]
theorem strs_of {ds : List PyData} {ns : List Str} (h : ds.Perm (ns.map PyData.str)) : ∃ zs : List Str, ds = zs.map PyData.str ∧ zs.Perm ns := by
  have hm : ∀ d ∈ ds, ∃ x, d = PyData.str x := fun d hd => by
    obtain ⟨x, _, e⟩ := List.mem_map.mp (h.mem_iff.mp hd)
    exact ⟨x, e.symm⟩
  have key : ∀ ds : List PyData, (∀ d ∈ ds, ∃ x, d = PyData.str x) → ∃ zs : List Str, ds = zs.map PyData.str := by
    intro ds
    induction ds with
    | nil => exact fun _ => ⟨[], rfl⟩
    | cons d r ih =>
      intro h
      obtain ⟨x, rfl⟩ := h d (List.mem_cons_self ..)
      obtain ⟨zs, rfl⟩ := ih fun d hd => h d (List.mem_cons_of_mem _ hd)
      exact ⟨x :: zs, rfl⟩
  obtain ⟨zs, rfl⟩ := key ds hm
  refine ⟨zs, rfl, ?_⟩
  have g : ∀ xs : List Str, (xs.map PyData.str).filterMap (fun d => match d with | .str x => some x | _ => none) = xs := by
    intro xs
    induction xs with
    | nil => rfl
    | cons x r ih => rw [List.map_cons, List.filterMap_cons]; simp only [ih]
  have := h.filterMap (fun d => match d with | .str x => some x | _ => none)
  rwa [g, g] at this
end Fw
namespace Fw
open PySem PySem.Spec PyProof.Rows L2
section
variable {X : Cx}
def rRange1 : List V → Hp → VK → Prop := fun vs H Q => ∃ j, vs = [V.int j] ∧ ∀ p, H p = none → Q (.ref p) (upd H p (.rng 0 j))
theorem cr_range1 : CallR X (.type "range") rRange1 := by
  intro pins s σ H vs us Q I r h
  obtain ⟨j, rfl, q⟩ := h
  obtain ⟨u1, rfl, rj⟩ := vals1 r
  obtain ⟨t, rfl⟩ := rj
  refine call_range_1 ⟨.ref s.heap.objs.size, upd H s.heap.objs.size (.rng 0 j), I.laid (t' := s.toks + 1 + 1) (fun b o e => Heap.get?_push_of_some _ e) (Nat.le_refl _) ?_, rfl, q _ (I.hok.fresh (Nat.le_refl _))⟩
  exact ⟨s.toks, t, s.toks + 1, Heap.get?_push_size _ rfl⟩
def rListRng : List V → Hp → VK → Prop := fun vs H Q => ∃ (r : Addr) (n : Nat), vs = [V.ref r] ∧ H r = some (.rng 0 n) ∧ n ≤ 1000 ∧ ∀ p, H p = none → Q (.ref p) (upd H p (.lst ((List.range n).map fun (i : Nat) => V.int (i : Int))))
theorem cr_listRng (hc : X.calm = true) : CallR X (.type "list") rListRng := by
  intro pins s σ H vs us Q I r h
  obtain ⟨r', n, rfl, hr, hn, q⟩ := h
  obtain ⟨u1, rfl, rj⟩ := vals1 r
  obtain rfl : u1 = Value.ref r' := rj
  obtain ⟨t, u, v, ho⟩ := (show ObjOk X.prog X.w H s.heap r' (.rng 0 n) from I.hok r' _ hr)
  refine call_list_range (n := n) (I.ok.hd hc) ho ?_ ?_ (by omega) fun h' tk acc' c' hk hS hacc => ?_
  · unfold Builtin.Range.small
    simp
    have fits : ∀ i : Int, 0 ≤ i → i ≤ 1000 → Builtin.Range.rangeFitsLong i = true := fun i h0 h1 => by
      unfold Builtin.Range.rangeFitsLong
      simp
      omega
    have sz : Builtin.Range.rangeSize 0 (n : Int) 1 = n := by
      unfold Builtin.Range.rangeSize
      simp
      omega
    rw [sz]
    exact ⟨⟨⟨⟨fits _ (by decide) (by decide), fits _ (by omega) (by omega)⟩, fits _ (by decide) (by decide)⟩, fits _ (by omega) (by omega)⟩, .inr (fits _ (by omega) (by omega))⟩
  · unfold Builtin.Range.rangeSize
    simp
    omega
  · refine ⟨.ref s.heap.objs.size, upd H s.heap.objs.size (.lst ((List.range n).map fun (i : Nat) => V.int (i : Int))), I.laid hk (Nat.le_refl _) ⟨?_, acc'.toList, c', ?_, by simpa using hS⟩, rfl, q _ (I.hok.fresh (Nat.le_refl _))⟩
    · rw [List.length_map, List.length_range]; exact sz_of (by omega)
    · refine vals_of_at (by rw [List.length_map, List.length_range, Array.length_toList, hacc.1]) fun j x w h1 h2 => ?_
      obtain ⟨t, e⟩ := hacc.2 j w (by rw [← Array.getElem?_toList]; exact h2)
      rw [List.getElem?_map] at h1
      obtain ⟨z, hz, e2⟩ := Option.map_eq_some_iff.mp h1
      have : z = j := by
        have := List.getElem?_eq_some_iff.mp hz
        obtain ⟨_, e3⟩ := this
        simpa using e3.symm
      subst this
      subst e2
      refine ⟨t, ?_⟩
      rw [e]
      simp
end
section
variable {K : PySem.W.Frag} {H0 H H' : Hp} {Ms M0 : List Addr} {L : List (Addr × HO)} {R : List Fa} {p q : Addr} {Q : VK}
theorem w_range1 {j : Int} (hw : W K H0 Ms M0 H L R) (k : ∀ p H', H p = none → W K H0 Ms M0 H' ((p, .rng 0 j) :: L) R → Q (.ref p) H') : rRange1 [.int j] H Q := ⟨j, rfl, fun p hp => k p _ hp (hw.new hp _)⟩
/-- list(range(n)) -/
theorem w_listRng {n : Nat} {j : Int} (hw : W K H0 Ms M0 H ((p, .rng 0 j) :: L) R) (e : j = n) (hn : n ≤ 1000) (k : ∀ q H', W K H0 Ms M0 H' L (.rp (.ref q) (.list ((List.range n).map fun (i : Nat) => PyData.int i)) :: R) → Q (.ref q) H') : rListRng [.ref p] H Q := by
  subst e
  refine ⟨p, n, rfl, hw.at 0 rfl, hn, fun q hq => k q _ ?_⟩
  have h1 : DdAll K (del H (av ((p, .rng 0 (n : Int)) :: L) M0)) ((List.range n).map fun (i : Nat) => V.int i) ((List.range n).map fun (i : Nat) => PyData.int i) := by
    have := DdAll.ints (K := K) (H := del H (av ((p, .rng 0 (n : Int)) :: L) M0)) ((List.range n).map fun (i : Nat) => (i : Int))
    rwa [List.map_map, List.map_map] at this
  exact (hw.newLst hq h1).drop1
end
end Fw
namespace Fw
open PySem PySem.Spec PyProof.Rows L2
/-! ### ends and operands, plain -/
theorem beq_str (a b : Str) : (a == b) = decide (a = b) := by
  by_cases h : a = b
  · subst h; simp
  · rw [decide_eq_false h]; exact beq_eq_false_iff_ne.mpr h
theorem En.eqv (a b : En) : PyData.eqv a.d b.d = decide (a = b) := by
  cases a with
  | «at» i x =>
    cases b with
    | «at» j y =>
      show ((Str.ofString "at" == Str.ofString "at") && (((i : Int) == (j : Int)) && ((x == y) && true))) = _
      rw [beq_self_eq_true, Bool.true_and, Bool.and_true, beq_str]
      by_cases h : i = j
      · subst h
        rw [beq_self_eq_true, Bool.true_and]
        by_cases h2 : x = y
        · subst h2; simp
        · rw [decide_eq_false h2, decide_eq_false (fun z => h2 (by cases z; rfl))]
      · rw [show ((i : Int) == (j : Int)) = false from beq_eq_false_iff_ne.mpr (by omega), Bool.false_and, decide_eq_false (fun z => h (by cases z; rfl))]
    | kept y =>
      show ((Str.ofString "at" == Str.ofString "kept") && ((PyData.eqv (.int i) (.str y)) && false)) = _
      rw [Bool.and_false, Bool.and_false, decide_eq_false (fun z => by cases z)]
  | kept x =>
    cases b with
    | «at» j y =>
      show ((Str.ofString "kept" == Str.ofString "at") && ((PyData.eqv (.str x) (.int j)) && false)) = _
      rw [Bool.and_false, Bool.and_false, decide_eq_false (fun z => by cases z)]
    | kept y =>
      show ((Str.ofString "kept" == Str.ofString "kept") && ((x == y) && true)) = _
      rw [beq_self_eq_true, Bool.true_and, Bool.and_true, beq_str]
      by_cases h2 : x = y
      · subst h2; simp
      · rw [decide_eq_false h2, decide_eq_false (fun z => h2 (by cases z; rfl))]
theorem En.any (es : List En) (e : En) : ((es.map En.d).any fun z => PyData.eqv z e.d) = decide (e ∈ es) := by
  induction es with
  | nil => rfl
  | cons a r ih =>
    rw [List.map_cons, List.any_cons, ih, En.eqv]
    by_cases h : a = e
    · subst h; simp
    · have : ¬ e = a := fun z => h z.symm
      simp [h, this]
def En.nm : En → Str
  | .at _ x => x
  | .kept x => x
theorem En.lay (e : En) (h : NameOk e.nm) : PyData.canLay0 e.d = true ∧ PyData.depth e.d ≤ 2 := by
  have h1 : PyData.strOk (Str.ofString "at") = true := by decide +kernel
  have h2 : PyData.strOk (Str.ofString "kept") = true := by decide +kernel
  cases e with
  | «at» i x =>
    have h3 : PyData.strOk x = true := by have := name_lay (n := x) h; simpa only [PyData.canLay0] using this
    simp [En.d, PyData.canLay0, PyData.canLayAll0, PyData.depth, PyData.depthAll, h1, h3]
  | kept x =>
    have h3 : PyData.strOk x = true := by have := name_lay (n := x) h; simpa only [PyData.canLay0] using this
    simp [En.d, PyData.canLay0, PyData.canLayAll0, PyData.depth, PyData.depthAll, h2, h3]
theorem En.shaped (e : En) (h : NameOk e.nm) : SeqAt.shaped e.d = true := by
  obtain ⟨a, b⟩ := e.lay h
  unfold SeqAt.shaped
  rw [a, Bool.true_and]
  exact decide_eq_true (by omega)
theorem ens_lay : ∀ es : List En, (∀ e ∈ es, NameOk e.nm) → PyData.canLayAll0 (es.map En.d) = true ∧ PyData.depthAll (es.map En.d) ≤ 2
  | [], _ => ⟨rfl, by simp [PyData.depthAll]⟩
  | p :: ps, h => by
    obtain ⟨a, b⟩ := p.lay (h p (List.mem_cons_self ..))
    obtain ⟨c, d⟩ := ens_lay ps fun e he => h e (List.mem_cons_of_mem _ he)
    simp only [List.map_cons, PyData.canLayAll0, PyData.depthAll, a, c, Bool.and_self]
    exact ⟨trivial, by omega⟩
theorem ens_shaped (es : List En) (h : ∀ e ∈ es, NameOk e.nm) : SeqAt.shaped (.list (es.map En.d)) = true := by
  obtain ⟨a, b⟩ := ens_lay es h
  unfold SeqAt.shaped
  simp only [PyData.canLay0, PyData.depth, a, Bool.true_and]
  exact decide_eq_true (by omega)
/-! ### which ends are there -/
def placesOf (row : MRow) : List Str := row.2.1 :: row.2.2
/-- the worths handed down and up of the sort at a place -/
def worAt (rows : List SRow) (row : MRow) (i : Nat) : List Str × List Str := (((placesOf row)[i]?).bind fun k => rows.lookup k).getD ([], [])
def isFree (rows : List SRow) (row : MRow) : En → Bool
  | .kept _ => true
  | .at i x => !(if i = 0 then (worAt rows row i).2 else (worAt rows row i).1).contains x
theorem isFree_at (rows : List SRow) (row : MRow) (i : Nat) (x : Str) : isFree rows row (.at i x) = !(if i = 0 then (worAt rows row i).2 else (worAt rows row i).1).contains x := rfl
def isKept : En → Bool
  | .kept _ => true
  | .at _ _ => false
/-- an end that may be: a worth at a place; a name kept that is no worth of the making's sort -/
def EnOk (rows : List SRow) (row : MRow) : En → Prop
  | .kept x => NameOk x ∧ x ∉ (worAt rows row 0).1 ++ (worAt rows row 0).2
  | .at i x => i < (placesOf row).length ∧ x ∈ (worAt rows row i).1 ++ (worAt rows row i).2
def opsLet (cap : Nat) : List Str := (["copy", "plus", "least", "most"] : List Str) ++ if cap = 0 then (["plus", "less", "times", "over", "rest", "same", "under", "pick"] : List Str) else []
def opParts (op : Str) : Nat := if op = "copy" then 1 else if op = "pick" then 3 else 2
def OpdOk (rows : List SRow) (row : MRow) (es : List En) : Opd → Prop
  | .en e => e ∈ es ∧ isFree rows row e = true
  | .own => True
  | .num n => n < 1000000
structure RlOk (rows : List SRow) (row : MRow) (cap : Nat) (es : List En) (r : GRule) : Prop where
  nm : r.by' = row.1
  to : r.to ∈ es
  set : isKept r.to = true ∨ isFree rows row r.to = false
  op : r.op ∈ opsLet cap
  len : r.of.length = opParts r.op
  of : ∀ o ∈ r.of, OpdOk rows row es o
/-- the rules of a making -/
structure RlsOk (rows : List SRow) (row : MRow) (cap : Nat) (rules : List GRule) : Prop where
  ok : ∃ es : List En, es.Nodup ∧ es.length ≤ 11 ∧ (es.filter isKept).length ≤ 2 ∧ (∀ e ∈ es, EnOk rows row e) ∧ (∀ r ∈ rules, RlOk rows row cap es r) ∧ (rules.map (·.to)).Sublist es
/-- what a place's sort has, in the order of its phases -/
def phAt (names : List Str) (phs : List (List Str)) (row : MRow) (i : Nat) : List Str := (((placesOf row)[i]?).bind fun k => (names.zip phs).lookup k).getD []
/-- sorts, a making's row, phases: as they are drawn -/
structure GIn (rows : List SRow) (row : MRow) (phs : List (List Str)) : Prop where
  nd : (rows.map (·.1)).Nodup
  len : rows.length ≤ 4
  nms : ∀ r ∈ rows, NameOk r.1
  rnd : ∀ r ∈ rows, (r.2.1 ++ r.2.2).Nodup
  rok : ∀ r ∈ rows, ∀ x ∈ r.2.1 ++ r.2.2, NameOk x
  r3 : ∀ r ∈ rows, r.2.1.length + r.2.2.length ≤ 3
  plen : phs.length = rows.length
  ph : ∀ (i : Nat) (r : SRow) (l : List Str), rows[i]? = some r → phs[i]? = some l → l.Perm (r.2.1 ++ r.2.2)
  nm : NameOk row.1
  kind : row.2.1 ∈ rows.map (·.1)
  parts : ∀ x ∈ row.2.2, x ∈ rows.map (·.1)
  plen2 : row.2.2.length ≤ 2
theorem lookup_zip {β : Type} : ∀ {ks : List Str} {vs : List β} {k : Str}, k ∈ ks → ks.length = vs.length → ∃ (i : Nat) (v : β), ks[i]? = some k ∧ vs[i]? = some v ∧ (ks.zip vs).lookup k = some v
  | [], _, _, h, _ => nomatch h
  | _ :: _, [], _, _, h => by simp at h
  | a :: ks, v :: vs, k, h, hl => by
    rw [List.zip_cons_cons, List.lookup_cons]
    by_cases c : k = a
    · subst c
      rw [beq_self_eq_true]
      exact ⟨0, v, rfl, rfl, rfl⟩
    · rw [beq_eq_false_iff_ne.mpr c]
      have hk : k ∈ ks := (List.mem_cons.mp h).resolve_left c
      obtain ⟨i, v', h1, h2, h3⟩ := lookup_zip hk (by simpa using hl)
      exact ⟨i + 1, v', by simpa using h1, by simpa using h2, h3⟩
theorem zip_self (rows : List SRow) : (rows.map (·.1)).zip (rows.map (·.2)) = rows := by
  induction rows with
  | nil => rfl
  | cons r rs ih => rw [List.map_cons, List.map_cons, List.zip_cons_cons, ih]
theorem W.rm1 {K : PySem.W.Frag} {H0 H : Hp} {Ms M0 : List Addr} {L : List (Addr × HO)} {R : List Fa} {x y : Fa} (w : W K H0 Ms M0 H L (x :: y :: R)) : W K H0 Ms M0 H L (x :: R) := w.sub fun r hr => by
  rcases List.mem_cons.mp hr with h | h
  · rw [h]; exact List.mem_cons_self ..
  · exact List.mem_cons_of_mem _ (List.mem_cons_of_mem _ h)
theorem W.rm2 {K : PySem.W.Frag} {H0 H : Hp} {Ms M0 : List Addr} {L : List (Addr × HO)} {R : List Fa} {x y z : Fa} (w : W K H0 Ms M0 H L (x :: y :: z :: R)) : W K H0 Ms M0 H L (x :: R) := w.rm1.rm1
theorem W.tl {K : PySem.W.Frag} {H0 H : Hp} {Ms M0 : List Addr} {L : List (Addr × HO)} {R : List Fa} {x : Fa} (w : W K H0 Ms M0 H L (x :: R)) : W K H0 Ms M0 H L R := w.sub fun r hr => List.mem_cons_of_mem _ hr
theorem W.swap01 {K : PySem.W.Frag} {H0 H : Hp} {Ms M0 : List Addr} {L : List (Addr × HO)} {R : List Fa} {x y : Fa} (w : W K H0 Ms M0 H L (x :: y :: R)) : W K H0 Ms M0 H L (y :: x :: R) := w.sub fun r hr => by
  rcases List.mem_cons.mp hr with h | h
  · rw [h]; exact List.mem_cons_of_mem _ (List.mem_cons_self ..)
  · rcases List.mem_cons.mp h with h | h
    · rw [h]; exact List.mem_cons_self ..
    · exact List.mem_cons_of_mem _ (List.mem_cons_of_mem _ h)
theorem W.rm22 {K : PySem.W.Frag} {H0 H : Hp} {Ms M0 : List Addr} {L : List (Addr × HO)} {R : List Fa} {x y z u : Fa} (w : W K H0 Ms M0 H L (x :: y :: z :: u :: R)) : W K H0 Ms M0 H L (x :: y :: R) := w.sub fun r hr => by
  rcases List.mem_cons.mp hr with h | h
  · rw [h]; exact List.mem_cons_self ..
  · rcases List.mem_cons.mp h with h | h
    · rw [h]; exact List.mem_cons_of_mem _ (List.mem_cons_self ..)
    · exact List.mem_cons_of_mem _ (List.mem_cons_of_mem _ (List.mem_cons_of_mem _ (List.mem_cons_of_mem _ h)))
theorem zip_map_lookup {α β : Type} {g : α → β} {k : Str} : ∀ {ks : List Str} {xs : List α}, (ks.zip (xs.map g)).lookup k = ((ks.zip xs).lookup k).map g
  | [], _ => by simp
  | _ :: _, [] => by simp
  | a :: ks, x :: xs => by
    rw [List.map_cons, List.zip_cons_cons, List.zip_cons_cons, List.lookup_cons, List.lookup_cons]
    by_cases h : k = a
    · subst h; rw [beq_self_eq_true]; rfl
    · rw [beq_eq_false_iff_ne.mpr h]; exact zip_map_lookup
theorem nd_inj : ∀ {ks : List Str} {i j : Nat}, ks.Nodup → ∀ (a : i < ks.length) (b : j < ks.length), ks[i] = ks[j] → i = j
  | [], _, _, _, a, _, _ => nomatch a
  | k :: ks, 0, 0, _, _, _, _ => rfl
  | k :: ks, 0, j + 1, nd, _, b, e => by
    simp only [List.getElem_cons_zero, List.getElem_cons_succ] at e
    exact absurd (e ▸ List.getElem_mem _) (List.nodup_cons.mp nd).1
  | k :: ks, i + 1, 0, nd, a, _, e => by
    simp only [List.getElem_cons_zero, List.getElem_cons_succ] at e
    exact absurd (e ▸ List.getElem_mem _) (List.nodup_cons.mp nd).1
  | k :: ks, i + 1, j + 1, nd, a, b, e => by
    simp only [List.getElem_cons_succ] at e
    exact congrArg Nat.succ (nd_inj (List.nodup_cons.mp nd).2 (by simpa using a) (by simpa using b) e)
theorem nodup_ix2 : ∀ {ks : List Str} {i j : Nat} {k : Str}, ks.Nodup → ks[i]? = some k → ks[j]? = some k → i = j := by
  intro ks i j k nd h1 h2
  obtain ⟨a, e1⟩ := List.getElem?_eq_some_iff.mp h1
  obtain ⟨b, e2⟩ := List.getElem?_eq_some_iff.mp h2
  exact nd_inj nd a b (e1.trans e2.symm)
theorem GIn.place {rows : List SRow} {row : MRow} {phs : List (List Str)} (h : GIn rows row phs) {i : Nat} {k : Str} (hi : (placesOf row)[i]? = some k) : k ∈ rows.map (·.1) := by
  have := List.mem_of_getElem? hi
  rcases List.mem_cons.mp this with e | e
  · rw [e]; exact h.kind
  · exact h.parts k e
theorem GIn.at {rows : List SRow} {row : MRow} {phs : List (List Str)} (h : GIn rows row phs) {i : Nat} {k : Str} (hi : (placesOf row)[i]? = some k) : ∃ (r : SRow) (l : List Str), r ∈ rows ∧ ((rows.map (·.1)).zip phs).lookup k = some l ∧ phAt (rows.map (·.1)) phs row i = l ∧ rows.lookup k = some r.2 ∧ worAt rows row i = r.2 ∧ l.Perm (r.2.1 ++ r.2.2) := by
  have hk := h.place hi
  obtain ⟨n, l, h1, h2, h3⟩ := lookup_zip (vs := phs) hk (by rw [List.length_map, h.plen])
  obtain ⟨n', u, g1, g2, g3⟩ := lookup_zip (vs := rows.map (·.2)) hk (by simp)
  rw [zip_self] at g3
  have e := nodup_ix2 h.nd h1 g1
  subst e
  rw [List.getElem?_map] at h1 g2
  obtain ⟨r, hr, _⟩ := Option.map_eq_some_iff.mp h1
  rw [hr] at g2
  cases g2
  refine ⟨r, l, List.mem_of_getElem? hr, h3, ?_, g3, ?_, h.ph n r l hr h2⟩
  · unfold phAt; rw [hi]; show ((((rows.map (·.1)).zip phs).lookup k).getD []) = l; rw [h3]; rfl
  · unfold worAt; rw [hi]; show ((rows.lookup k).getD ([], [])) = r.2; rw [g3]; rfl
/-- the ends of the places, phase by phase -/
def Came (names : List Str) (phs : List (List Str)) (row : MRow) (i : Nat) (done : List Nat) (e : En) : Prop := ∃ p x j, e = .at p x ∧ (j < i ∨ (j = i ∧ p ∈ done)) ∧ (phAt names phs row p)[j]? = some x ∧ p < (placesOf row).length
theorem Came.next {names : List Str} {phs : List (List Str)} {row : MRow} {i : Nat} {done : List Nat} {e : En} (h : Came names phs row i done e) : Came names phs row (i + 1) [] e := by
  obtain ⟨p, x, j, h1, h2, h3, h4⟩ := h
  exact ⟨p, x, j, h1, .inl (by rcases h2 with h | ⟨h, _⟩ <;> omega), h3, h4⟩
theorem came_step {rows : List SRow} {row : MRow} {phs : List (List Str)} (gi : GIn rows row phs) {es : List En} {is : List Nat} {i k p : Nat} (nd : es.Nodup) (hc : ∀ e ∈ es, Came (rows.map (·.1)) phs row i (is.take k) e) (hn : is.Nodup) (hp : is[k]? = some p) (hpl : p < (placesOf row).length) :
    (es ++ (((phAt (rows.map (·.1)) phs row p).drop i).take 1).map (En.at p)).Nodup ∧ ∀ e ∈ es ++ (((phAt (rows.map (·.1)) phs row p).drop i).take 1).map (En.at p), Came (rows.map (·.1)) phs row i (is.take (k + 1)) e := by
  obtain ⟨kd, hkd⟩ : ∃ kd, (placesOf row)[p]? = some kd := ⟨_, List.getElem?_eq_getElem hpl⟩
  obtain ⟨r, l, hr, _, hl, _, _, hperm⟩ := gi.at hkd
  have hlnd : l.Nodup := hperm.nodup_iff.mpr (gi.rnd r hr)
  rw [hl]
  have up : ∀ e ∈ es, Came (rows.map (·.1)) phs row i (is.take (k + 1)) e := fun e he => by
    obtain ⟨q, x, j, h1, h2, h3, h4⟩ := hc e he
    refine ⟨q, x, j, h1, h2.imp id fun ⟨z1, z2⟩ => ⟨z1, ?_⟩, h3, h4⟩
    rw [List.take_add_one]
    exact List.mem_append_left _ z2
  cases hx : l[i]? with
  | none =>
    have : l.drop i = [] := List.drop_eq_nil_of_le (List.getElem?_eq_none_iff.mp hx)
    rw [this, List.take_nil, List.map_nil, List.append_nil]
    exact ⟨nd, up⟩
  | some x =>
    have hz : (l.drop i).take 1 = [x] := by
      obtain ⟨hlt, e⟩ := List.getElem?_eq_some_iff.mp hx
      rw [List.drop_eq_getElem_cons hlt, e]
      rfl
    rw [hz]
    constructor
    · refine List.nodup_append.mpr ⟨nd, List.nodup_cons.mpr ⟨(fun z => nomatch z), .nil⟩, fun a ha b hb e => ?_⟩
      rw [List.map_singleton] at hb
      rw [List.mem_singleton.mp hb] at e
      subst e
      obtain ⟨q, y, j, h1, h2, h3, _⟩ := hc _ ha
      cases h1
      rw [hl] at h3
      have := nodup_ix2 hlnd h3 hx
      subst this
      rcases h2 with h | ⟨_, h⟩
      · omega
      · obtain ⟨n, hn1⟩ := List.mem_iff_getElem?.mp h
        rw [List.getElem?_take] at hn1
        split at hn1
        · rename_i hlt
          obtain ⟨u1, u2⟩ := List.getElem?_eq_some_iff.mp hn1
          obtain ⟨w1, w2⟩ := List.getElem?_eq_some_iff.mp hp
          have := (List.pairwise_iff_getElem.mp hn) n k u1 w1 hlt
          exact this (u2.trans w2.symm)
        · cases hn1
    · intro e he
      rcases List.mem_append.mp he with he | he
      · exact up e he
      · rw [List.map_singleton] at he
        rw [List.mem_singleton.mp he]
        refine ⟨p, x, i, rfl, .inr ⟨rfl, ?_⟩, by rw [hl]; exact hx, hpl⟩
        rw [List.take_add_one, hp]
        exact List.mem_append_right _ (List.mem_singleton.mpr rfl)
theorem Came.ok {rows : List SRow} {row : MRow} {phs : List (List Str)} (gi : GIn rows row phs) {i : Nat} {done : List Nat} {e : En} (h : Came (rows.map (·.1)) phs row i done e) : EnOk rows row e ∧ NameOk e.nm ∧ isKept e = false := by
  obtain ⟨p, x, j, rfl, _, h3, h4⟩ := h
  obtain ⟨kd, hkd⟩ : ∃ kd, (placesOf row)[p]? = some kd := ⟨_, List.getElem?_eq_getElem h4⟩
  obtain ⟨r, l, hr, _, hl, _, hwo, hperm⟩ := gi.at hkd
  rw [hl] at h3
  have hx := hperm.mem_iff.mp (List.mem_of_getElem? h3)
  exact ⟨⟨h4, by rw [hwo]; exact hx⟩, gi.rok r hr x hx, rfl⟩
/-- the ends, with so many kept names at most -/
structure EsOk (rows : List SRow) (row : MRow) (ns : List Str) (k : Nat) (es : List En) : Prop where
  nd : es.Nodup
  ok : ∀ e ∈ es, EnOk rows row e ∧ NameOk e.nm
  kp : ∀ e ∈ es, isKept e = true → e.nm ∈ ns.take k
  kl : (es.filter isKept).length ≤ k
  ln : es.length ≤ 9 + k
theorem EsOk.start {rows : List SRow} {row : MRow} {phs : List (List Str)} (gi : GIn rows row phs) {es : List En} {ns : List Str} (nd : es.Nodup) (hc : ∀ e ∈ es, Came (rows.map (·.1)) phs row 3 [] e) (hl : es.length ≤ 9) : EsOk rows row ns 0 es where
  nd := nd
  ok := fun e he => ⟨((hc e he).ok gi).1, ((hc e he).ok gi).2.1⟩
  kp := fun e he z => by rw [((hc e he).ok gi).2.2] at z; cases z
  kl := by
    rw [List.filter_eq_nil_iff.mpr fun e he => by rw [((hc e he).ok gi).2.2]; decide]
    exact Nat.le_refl _
  ln := hl
theorem EsOk.skip {rows : List SRow} {row : MRow} {es : List En} {ns : List Str} {k : Nat} (h : EsOk rows row ns k es) : EsOk rows row ns (k + 1) es where
  nd := h.nd
  ok := h.ok
  kp := fun e he z => by rw [List.take_add_one]; exact List.mem_append_left _ (h.kp e he z)
  kl := Nat.le_succ_of_le h.kl
  ln := by have := h.ln; omega
theorem EsOk.put {rows : List SRow} {row : MRow} {es : List En} {ns : List Str} {k : Nat} {x : Str} (h : EsOk rows row ns k es) (n : Nat) (hn : ns.Nodup) (hx : ns[k]? = some x) (h1 : NameOk x) (h2 : x ∉ (worAt rows row 0).1 ++ (worAt rows row 0).2) : EsOk rows row ns (k + 1) (es.take n ++ [.kept x] ++ es.drop n) := by
  have hp := ins_perm (xs := es) (x := En.kept x) n
  have hnot : En.kept x ∉ es := fun z => by
    have := h.kp _ z rfl
    obtain ⟨m, hm⟩ := List.mem_iff_getElem?.mp this
    rw [List.getElem?_take] at hm
    split at hm
    · rename_i hlt
      have := nodup_ix2 hn hm hx
      omega
    · cases hm
  refine ⟨hp.nodup_iff.mpr (List.nodup_cons.mpr ⟨hnot, h.nd⟩), fun e he => ?_, fun e he z => ?_, ?_, ?_⟩
  · rcases List.mem_cons.mp (hp.mem_iff.mp he) with rfl | he
    · exact ⟨⟨h1, h2⟩, h1⟩
    · exact h.ok e he
  · rw [List.take_add_one]
    rcases List.mem_cons.mp (hp.mem_iff.mp he) with rfl | he
    · rw [hx]; exact List.mem_append_right _ (List.mem_singleton.mpr rfl)
    · exact List.mem_append_left _ (h.kp e he z)
  · have := (hp.filter isKept).length_eq
    rw [this, List.filter_cons_of_pos (by rfl), List.length_cons]
    have := h.kl
    omega
  · rw [hp.length_eq, List.length_cons]
    have := h.ln
    omega
theorem ints_of {ds : List PyData} {n : Nat} (h : ds.Perm ((List.range n).map fun (i : Nat) => PyData.int i)) : ∃ is : List Nat, ds = is.map (fun (i : Nat) => PyData.int i) ∧ is.Perm (List.range n) := by
  have hm : ∀ d ∈ ds, ∃ x : Nat, d = PyData.int x := fun d hd => by
    obtain ⟨x, _, e⟩ := List.mem_map.mp (h.mem_iff.mp hd)
    exact ⟨x, e.symm⟩
  have key : ∀ ds : List PyData, (∀ d ∈ ds, ∃ x : Nat, d = PyData.int x) → ∃ zs : List Nat, ds = zs.map (fun (i : Nat) => PyData.int i) := by
    intro ds
    induction ds with
    | nil => exact fun _ => ⟨[], rfl⟩
    | cons d r ih =>
      intro h
      obtain ⟨x, rfl⟩ := h d (List.mem_cons_self ..)
      obtain ⟨zs, rfl⟩ := ih fun d hd => h d (List.mem_cons_of_mem _ hd)
      exact ⟨x :: zs, rfl⟩
  obtain ⟨zs, rfl⟩ := key ds hm
  refine ⟨zs, rfl, ?_⟩
  have g : ∀ xs : List Nat, (xs.map (fun (i : Nat) => PyData.int i)).filterMap (fun d => match d with | .int x => some x.toNat | _ => none) = xs := by
    intro xs
    induction xs with
    | nil => rfl
    | cons x r ih => rw [List.map_cons, List.filterMap_cons]; simp only [ih, Int.toNat_natCast]
  have := h.filterMap (fun d => match d with | .int x => some x.toNat | _ => none)
  rwa [g, g] at this
end Fw
namespace Fw
open PySem PySem.Spec PyProof.Rows L2
/-! ### least sizes of trees, plain -/
abbrev Sz := List (Str × Nat)
def szPut (m : Sz) (k : Str) (n : Nat) : Sz := if (m.lookup k).isSome = true then m.map (fun p => if p.1 = k then (p.1, n) else p) else m ++ [(k, n)]
def szSum (m : Sz) (ps : List Str) : Nat := (ps.map fun p => (m.lookup p).getD 0).sum
def szAll (m : Sz) (ps : List Str) : Bool := ps.all fun p => (m.lookup p).isSome
def szStep (m : Sz) (r : MRow) : Sz := if szAll m r.2.2 = true then szPut m r.2.1 (min (1 + szSum m r.2.2) ((m.lookup r.2.1).getD (1 + szSum m r.2.2))) else m
def szRun (ms : List MRow) (m : Sz) : Sz := ms.foldl szStep m
theorem lk_cons {p : Str × Nat} {m : Sz} {x : Str} : List.lookup x (p :: m) = if x = p.1 then some p.2 else m.lookup x := by
  obtain ⟨a, j⟩ := p
  rw [List.lookup_cons]
  by_cases h : x = a
  · subst h; simp
  · rw [beq_eq_false_iff_ne.mpr h, if_neg h]
theorem lookup_app {m : Sz} {k x : Str} {n : Nat} : (m ++ [(k, n)]).lookup x = (m.lookup x).or (if x = k then some n else none) := by
  induction m with
  | nil => rw [List.nil_append, lk_cons]; simp
  | cons p m ih =>
    rw [List.cons_append, lk_cons, lk_cons]
    by_cases h : x = p.1
    · rw [if_pos h, if_pos h]; rfl
    · rw [if_neg h, if_neg h]; exact ih
theorem lookup_upd {m : Sz} {k x : Str} {n : Nat} : (m.map (fun p => if p.1 = k then (p.1, n) else p)).lookup x = if x = k then (m.lookup x).map (fun _ => n) else m.lookup x := by
  induction m with
  | nil => simp
  | cons p m ih =>
    obtain ⟨a, j⟩ := p
    simp only [List.map_cons]
    by_cases h : a = k
    · rw [if_pos h]
      rw [lk_cons, lk_cons]
      by_cases h2 : x = a
      · subst h2; simp [h]
      · rw [if_neg h2, if_neg h2]; exact ih
    · rw [if_neg h]
      rw [lk_cons, lk_cons]
      by_cases h2 : x = a
      · subst h2; simp [h]
      · rw [if_neg h2, if_neg h2]; exact ih
theorem szPut_at {m : Sz} {k x : Str} {n : Nat} : (szPut m k n).lookup x = if x = k then some n else m.lookup x := by
  unfold szPut
  by_cases c : (m.lookup k).isSome = true
  · rw [if_pos c, lookup_upd]
    by_cases h : x = k
    · subst h
      rw [if_pos rfl, if_pos rfl]
      obtain ⟨v, hv⟩ := Option.isSome_iff_exists.mp c
      rw [hv]; rfl
    · rw [if_neg h, if_neg h]
  · rw [if_neg c, lookup_app]
    by_cases h : x = k
    · subst h
      rw [if_pos rfl, if_pos rfl]
      have : m.lookup x = none := Option.not_isSome_iff_eq_none.mp c
      rw [this]; rfl
    · rw [if_neg h, if_neg h, Option.or_none]
mutual
inductive HasT (ms : List MRow) : Str → Nat → Prop
  | mk {r : MRow} {ns : List Nat} : r ∈ ms → HasTs ms r.2.2 ns → HasT ms r.2.1 (1 + ns.sum)
inductive HasTs (ms : List MRow) : List Str → List Nat → Prop
  | nil : HasTs ms [] []
  | cons {k : Str} {n : Nat} {ks : List Str} {ns : List Nat} : HasT ms k n → HasTs ms ks ns → HasTs ms (k :: ks) (n :: ns)
end
def SzSnd (ms : List MRow) (m : Sz) : Prop := ∀ k n, m.lookup k = some n → HasT ms k n
theorem snd_parts {ms : List MRow} {m : Sz} (h : SzSnd ms m) : ∀ {ps : List Str}, szAll m ps = true → HasTs ms ps (ps.map fun p => (m.lookup p).getD 0)
  | [], _ => .nil
  | p :: ps, c => by
    simp only [szAll, List.all_cons, Bool.and_eq_true] at c
    obtain ⟨v, hv⟩ := Option.isSome_iff_exists.mp c.1
    refine .cons ?_ (snd_parts h c.2)
    show HasT ms p ((m.lookup p).getD 0)
    rw [hv]
    exact h p v hv
theorem snd_step {ms : List MRow} {m : Sz} {r : MRow} (h : SzSnd ms m) (hr : r ∈ ms) : SzSnd ms (szStep m r) := by
  intro k n e
  unfold szStep at e
  by_cases c : szAll m r.2.2 = true
  · rw [if_pos c, szPut_at] at e
    by_cases h2 : k = r.2.1
    · rw [if_pos h2] at e
      have hn := Option.some.inj e
      have hs : HasT ms r.2.1 (1 + szSum m r.2.2) := .mk hr (snd_parts h c)
      subst h2
      cases hl : m.lookup r.2.1 with
      | none =>
        rw [hl] at hn
        simp only [Option.getD_none, Nat.min_self] at hn
        rw [← hn]; exact hs
      | some v =>
        rw [hl] at hn
        simp only [Option.getD_some] at hn
        rcases Nat.le_total (1 + szSum m r.2.2) v with hle | hle
        · rw [Nat.min_eq_left hle] at hn
          rw [← hn]; exact hs
        · rw [Nat.min_eq_right hle] at hn
          rw [← hn]; exact h _ _ hl
    · rw [if_neg h2] at e; exact h k n e
  · rw [if_neg c] at e; exact h k n e
def SzLe (m m' : Sz) : Prop := ∀ k n, m.lookup k = some n → ∃ n', m'.lookup k = some n' ∧ n' ≤ n
theorem SzLe.refl (m : Sz) : SzLe m m := fun _ n h => ⟨n, h, Nat.le_refl _⟩
theorem SzLe.trans {a b c : Sz} (h : SzLe a b) (g : SzLe b c) : SzLe a c := fun k n e => by
  obtain ⟨n', e1, l1⟩ := h k n e
  obtain ⟨n'', e2, l2⟩ := g k n' e1
  exact ⟨n'', e2, Nat.le_trans l2 l1⟩
theorem le_step (m : Sz) (r : MRow) : SzLe m (szStep m r) := by
  intro k n e
  unfold szStep
  by_cases c : szAll m r.2.2 = true
  · rw [if_pos c, szPut_at]
    by_cases h2 : k = r.2.1
    · rw [if_pos h2]
      subst h2
      rw [e]
      exact ⟨_, rfl, Nat.min_le_right _ _⟩
    · rw [if_neg h2]; exact ⟨n, e, Nat.le_refl _⟩
  · rw [if_neg c]; exact ⟨n, e, Nat.le_refl _⟩
theorem run_both {ms : List MRow} : ∀ {l : List MRow} {m : Sz}, (∀ r ∈ l, r ∈ ms) → SzSnd ms m → SzSnd ms (szRun l m) ∧ SzLe m (szRun l m)
  | [], m, _, h => ⟨h, SzLe.refl m⟩
  | r :: l, m, hl, h => by
    obtain ⟨a, b⟩ := run_both (l := l) (fun r' hr => hl r' (List.mem_cons_of_mem _ hr)) (snd_step h (hl r (List.mem_cons_self ..)))
    exact ⟨a, (le_step m r).trans b⟩
def Least (ms : List MRow) (k : Str) (n : Nat) : Prop := HasT ms k n ∧ ∀ j, HasT ms k j → n ≤ j
theorem has_least {ms : List MRow} {k : Str} : ∀ (n : Nat), HasT ms k n → ∃ j, Least ms k j ∧ j ≤ n := by
  intro n
  induction n using Nat.strongRecOn with
  | _ n ih =>
    intro h
    by_cases c : ∃ j, j < n ∧ HasT ms k j
    · obtain ⟨j, h1, h2⟩ := c
      obtain ⟨i, a, b⟩ := ih j h1 h2
      exact ⟨i, a, by omega⟩
    · exact ⟨n, ⟨h, fun j hj => Nat.le_of_not_lt fun z => c ⟨j, z, hj⟩⟩, Nat.le_refl _⟩
inductive Leasts (ms : List MRow) : List Str → List Nat → Prop
  | nil : Leasts ms [] []
  | cons {k : Str} {n : Nat} {ks : List Str} {ns : List Nat} : Least ms k n → Leasts ms ks ns → Leasts ms (k :: ks) (n :: ns)
theorem has_leasts {ms : List MRow} : ∀ {ks : List Str} {ns : List Nat}, HasTs ms ks ns → ∃ js, Leasts ms ks js ∧ js.sum ≤ ns.sum
  | _, _, .nil => ⟨[], .nil, Nat.le_refl _⟩
  | _, _, .cons h t => by
    obtain ⟨js, a, b⟩ := has_leasts t
    obtain ⟨j, c, d⟩ := has_least _ h
    exact ⟨j :: js, .cons c a, by simp only [List.sum_cons]; omega⟩
theorem Leasts.has {ms : List MRow} : ∀ {ks : List Str} {ns : List Nat}, Leasts ms ks ns → HasTs ms ks ns
  | _, _, .nil => .nil
  | _, _, .cons h t => .cons h.1 t.has
theorem least_row {ms : List MRow} {k : Str} {n : Nat} (h : Least ms k n) : ∃ r ∈ ms, r.2.1 = k ∧ ∃ js, Leasts ms r.2.2 js ∧ n = 1 + js.sum := by
  obtain ⟨h1, h2⟩ := h
  cases h1 with
  | @mk r ns hr hts =>
    obtain ⟨js, a, b⟩ := has_leasts hts
    have := h2 _ (.mk hr a.has)
    exact ⟨r, hr, rfl, js, a, by omega⟩
noncomputable def szCnt (ms : List MRow) (names : List Str) (n : Nat) : Nat := names.countP fun x => @decide (∃ j, j < n ∧ Least ms x j) (Classical.propDecidable _)
theorem countP_lt {α : Type} {p q : α → Bool} : ∀ {l : List α}, (∀ x, p x = true → q x = true) → (∃ x ∈ l, q x = true ∧ p x = false) → l.countP p < l.countP q
  | [], _, ⟨_, h, _⟩ => nomatch h
  | a :: l, h, ⟨x, hx, h1, h2⟩ => by
    have mono : l.countP p ≤ l.countP q := List.countP_mono_left fun x _ => h x
    rw [List.countP_cons, List.countP_cons]
    rcases List.mem_cons.mp hx with rfl | hx
    · rw [if_pos h1, if_neg (by rw [h2]; decide)]; omega
    · have := countP_lt h ⟨x, hx, h1, h2⟩
      by_cases c : p a = true
      · rw [if_pos c, if_pos (h a c)]; omega
      · rw [if_neg c]; split <;> omega
theorem Least.uniq {ms : List MRow} {k : Str} {a b : Nat} (h : Least ms k a) (g : Least ms k b) : a = b := Nat.le_antisymm (h.2 _ g.1) (g.2 _ h.1)
theorem cnt_lt {ms : List MRow} {names : List Str} {k : Str} {j n : Nat} (hk : k ∈ names) (h : Least ms k j) (hj : j < n) : szCnt ms names j < szCnt ms names n := by
  refine countP_lt (fun x hx => ?_) ⟨k, hk, ?_, ?_⟩
  · obtain ⟨i, h1, h2⟩ := @of_decide_eq_true _ (Classical.propDecidable _) hx
    exact @decide_eq_true _ (Classical.propDecidable _) ⟨i, by omega, h2⟩
  · exact @decide_eq_true _ (Classical.propDecidable _) ⟨j, hj, h⟩
  · refine @decide_eq_false _ (Classical.propDecidable _) ?_
    rintro ⟨i, h1, h2⟩
    have := h2.uniq h
    omega
theorem cnt_max {ms : List MRow} {names : List Str} {k : Str} {n : Nat} (hk : k ∈ names) (h : Least ms k n) : szCnt ms names n < names.length := by
  have := countP_lt (p := fun x => @decide (∃ j, j < n ∧ Least ms x j) (Classical.propDecidable _)) (q := fun _ => true) (l := names) (fun _ _ => rfl) ⟨k, hk, rfl, by
    refine @decide_eq_false _ (Classical.propDecidable _) ?_
    rintro ⟨i, h1, h2⟩
    have := h2.uniq h
    omega⟩
  rw [List.countP_true] at this
  exact this
theorem HasT.kind {ms : List MRow} {names : List Str} (hn : ∀ r ∈ ms, r.2.1 ∈ names) {k : Str} {n : Nat} (h : HasT ms k n) : k ∈ names := by
  cases h with
  | mk hr _ => exact hn _ hr
theorem Leasts.sum_lt {ms : List MRow} : ∀ {ks : List Str} {js : List Nat}, Leasts ms ks js → ∀ k ∈ ks, ∃ j, Least ms k j ∧ j ≤ js.sum
  | _, _, .nil, _, h => nomatch h
  | _, _, .cons (n := n) (ns := ns) h t, k, hk => by
    rcases List.mem_cons.mp hk with rfl | hk
    · exact ⟨_, h, by simp only [List.sum_cons]; omega⟩
    · obtain ⟨j, a, b⟩ := t.sum_lt k hk
      exact ⟨j, a, by simp only [List.sum_cons]; omega⟩
theorem leasts_at {ms : List MRow} {m : Sz} : ∀ {ks : List Str} {js : List Nat}, Leasts ms ks js → (∀ k ∈ ks, ∀ j, Least ms k j → m.lookup k = some j) → szAll m ks = true ∧ szSum m ks = js.sum
  | _, _, .nil, _ => ⟨rfl, rfl⟩
  | _, _, .cons (k := k) (ks := ks) h t, hm => by
    have h1 := hm k (List.mem_cons_self ..) _ h
    obtain ⟨a, b⟩ := leasts_at t fun k' hk => hm k' (List.mem_cons_of_mem _ hk)
    refine ⟨?_, ?_⟩
    · simp only [szAll, List.all_cons, h1, Option.isSome_some, Bool.true_and]
      exact a
    · simp only [szSum, List.map_cons, List.sum_cons, h1, Option.getD_some]
      rw [← b]; rfl
theorem stay {ms : List MRow} {m m' : Sz} {k : Str} {n : Nat} (h : Least ms k n) (e : m.lookup k = some n) (le : SzLe m m') (sn : SzSnd ms m') : m'.lookup k = some n := by
  obtain ⟨n', e1, l1⟩ := le k n e
  have := h.2 _ (sn k n' e1)
  rw [e1, show n' = n by omega]
def szPass (ms : List MRow) (t : Nat) : Sz := szRun (List.replicate t ms).flatten []
theorem pass_succ (ms : List MRow) (t : Nat) : szPass ms (t + 1) = szRun ms (szPass ms t) := by
  unfold szPass szRun
  rw [List.replicate_succ', List.flatten_append, List.foldl_append]
  simp
theorem pass_snd (ms : List MRow) : ∀ t, SzSnd ms (szPass ms t)
  | 0 => fun _ _ e => by simp [szPass, szRun] at e
  | t + 1 => by rw [pass_succ]; exact (run_both (fun _ h => h) (pass_snd ms t)).1
theorem pass_le (ms : List MRow) (t : Nat) : SzLe (szPass ms t) (szPass ms (t + 1)) := by
  rw [pass_succ]; exact (run_both (fun _ h => h) (pass_snd ms t)).2
theorem conv {ms : List MRow} {names : List Str} (hn : ∀ r ∈ ms, r.2.1 ∈ names) : ∀ (n : Nat) (k : Str), Least ms k n → ∀ t, szCnt ms names n < t → (szPass ms t).lookup k = some n := by
  intro n
  induction n using Nat.strongRecOn with
  | _ n ih =>
    intro k h t ht
    obtain ⟨t, rfl⟩ : ∃ t', t = t' + 1 := ⟨t - 1, by omega⟩
    obtain ⟨r, hr, rfl, js, hjs, hnj⟩ := least_row h
    have hp : ∀ k ∈ r.2.2, ∀ j, Least ms k j → (szPass ms t).lookup k = some j := fun k hk j hj => by
      obtain ⟨j', a, b⟩ := hjs.sum_lt k hk
      have := a.uniq hj
      subst this
      have hlt : j' < n := by omega
      exact ih j' hlt k hj t (by have := cnt_lt (hj.1.kind hn) hj hlt; omega)
    rw [pass_succ]
    obtain ⟨l1, l2, hl⟩ := List.append_of_mem hr
    have h1 := run_both (ms := ms) (l := l1) (m := szPass ms t) (fun x hx => by rw [hl]; exact List.mem_append_left _ hx) (pass_snd ms t)
    have hp1 : ∀ k ∈ r.2.2, ∀ j, Least ms k j → (szRun l1 (szPass ms t)).lookup k = some j := fun k hk j hj => stay hj (hp k hk j hj) h1.2 h1.1
    obtain ⟨a, b⟩ := leasts_at hjs hp1
    have hs := snd_step h1.1 hr
    have he : (szStep (szRun l1 (szPass ms t)) r).lookup r.2.1 = some n := by
      have hle : ∃ v, (szStep (szRun l1 (szPass ms t)) r).lookup r.2.1 = some v ∧ v ≤ n := by
        unfold szStep
        rw [if_pos a, szPut_at, if_pos rfl, b]
        exact ⟨_, rfl, by have := Nat.min_le_left (1 + js.sum) ((List.lookup r.2.1 (szRun l1 (szPass ms t))).getD (1 + js.sum)); omega⟩
      obtain ⟨v, e1, e2⟩ := hle
      have := h.2 _ (hs _ _ e1)
      rw [e1, show v = n by omega]
    have h2 := run_both (ms := ms) (l := l2) (m := szStep (szRun l1 (szPass ms t)) r) (fun x hx => by rw [hl]; exact List.mem_append_right _ (List.mem_cons_of_mem _ hx)) hs
    have e : szRun ms (szPass ms t) = szRun l2 (szStep (szRun l1 (szPass ms t)) r) := by
      unfold szRun
      generalize szPass ms t = m0
      rw [hl, List.foldl_append, List.foldl_cons]
    rw [e]
    exact stay h he h2.2 h2.1
theorem least_le {ms : List MRow} {names : List Str} (hn : ∀ r ∈ ms, r.2.1 ∈ names) (h2 : ∀ r ∈ ms, r.2.2.length ≤ 2) : ∀ (n : Nat) (k : Str), Least ms k n → n + 1 ≤ 2 ^ (szCnt ms names n + 1) := by
  intro n
  induction n using Nat.strongRecOn with
  | _ n ih =>
    intro k h
    obtain ⟨r, hr, rfl, js, hjs, hnj⟩ := least_row h
    have hb : ∀ {ks : List Str} {js : List Nat}, Leasts ms ks js → js.sum < n → js.sum + js.length ≤ js.length * 2 ^ (szCnt ms names n) ∧ js.length = ks.length := by
      intro ks js hl
      induction hl with
      | nil => intro _; simp
      | @cons k j ks js h t ih2 =>
        intro hs
        simp only [List.sum_cons, List.length_cons] at hs ⊢
        obtain ⟨i1, i2⟩ := ih2 (by omega)
        have i3 := ih j (by omega) k h
        have i4 := cnt_lt (h.1.kind hn) h (show j < n by omega)
        have i5 : 2 ^ (szCnt ms names j + 1) ≤ 2 ^ (szCnt ms names n) := Nat.pow_le_pow_right (by decide) i4
        rw [Nat.add_mul]
        omega
    obtain ⟨a, b⟩ := hb hjs (by omega)
    have := h2 r hr
    rw [Nat.pow_succ]
    have hpos : 1 ≤ 2 ^ szCnt ms names n := Nat.one_le_two_pow
    have : js.length = 0 ∨ js.length = 1 ∨ js.length = 2 := by omega
    rcases this with e | e | e <;> rw [e] at a <;> omega
/-- of each sort there, a row that has just its size -/
structure SzOk (ms : List MRow) (m : Sz) : Prop where
  le : ∀ k n, m.lookup k = some n → n ≤ 15
  row : ∀ k n, m.lookup k = some n → ∃ r ∈ ms, r.2.1 = k ∧ szAll m r.2.2 = true ∧ 1 + szSum m r.2.2 = n
theorem pass_ok {ms : List MRow} {names : List Str} (hn : ∀ r ∈ ms, r.2.1 ∈ names) (h2 : ∀ r ∈ ms, r.2.2.length ≤ 2) (h4 : names.length ≤ 4) : SzOk ms (szPass ms 4) := by
  have key : ∀ k n, (szPass ms 4).lookup k = some n → Least ms k n := fun k n e => by
    obtain ⟨j, a, b⟩ := has_least n (pass_snd ms 4 k n e)
    have := conv hn j k a 4 (by have := cnt_max (a.1.kind hn) a; omega)
    rw [e] at this
    cases this
    exact a
  refine ⟨fun k n e => ?_, fun k n e => ?_⟩
  · have h := key k n e
    have h1 := least_le hn h2 n k h
    have h3 := cnt_max (h.1.kind hn) h
    have : 2 ^ (szCnt ms names n + 1) ≤ 2 ^ 4 := Nat.pow_le_pow_right (by decide) (by omega)
    omega
  · have h := key k n e
    obtain ⟨r, hr, hk, js, hjs, hnj⟩ := least_row h
    obtain ⟨a, b⟩ := leasts_at (m := szPass ms 4) hjs fun k hk j hj => conv hn j k hj 4 (by have := cnt_max (hj.1.kind hn) hj; omega)
    exact ⟨r, hr, hk, a, by rw [b]; exact hnj.symm⟩
theorem szPut_keys {m : Sz} {k : Str} {n : Nat} (h : (m.map (·.1)).Nodup) : ((szPut m k n).map (·.1)).Nodup ∧ (szPut m k n).length ≤ m.length + 1 := by
  unfold szPut
  by_cases c : (m.lookup k).isSome = true
  · rw [if_pos c]
    refine ⟨?_, by simp⟩
    rw [List.map_map]
    have : ((fun x : Str × Nat => x.1) ∘ fun p : Str × Nat => if p.1 = k then (p.1, n) else p) = (·.1) := by
      funext p
      simp only [Function.comp]
      split <;> rfl
    rw [this]; exact h
  · rw [if_neg c]
    refine ⟨?_, by simp⟩
    rw [List.map_append]
    refine List.nodup_append.mpr ⟨h, by simp, fun a ha b hb e => ?_⟩
    simp only [List.map_cons, List.map_nil, List.mem_singleton] at hb
    subst hb
    subst e
    apply c
    clear h c
    induction m with
    | nil => simp at ha
    | cons p m ih =>
      rw [lk_cons]
      by_cases h2 : a = p.1
      · rw [if_pos h2]; rfl
      · rw [if_neg h2]
        exact ih (by rw [List.map_cons] at ha; exact (List.mem_cons.mp ha).resolve_left h2)
/-! ### as a dict -/
def szK (m : Sz) : List (Key × V) := m.map fun p => (.inr p.1, .int p.2)
theorem szK_val (m : Sz) (x : Str) : valV (szK m) (.inr x) = (m.lookup x).map fun n => V.int n := by
  induction m with
  | nil => rfl
  | cons p m ih =>
    rw [lk_cons]
    by_cases h : x = p.1
    · rw [if_pos h, show szK (p :: m) = (.inr p.1, .int p.2) :: szK m from rfl, valV_pos (by rw [h])]; rfl
    · rw [if_neg h, show szK (p :: m) = (.inr p.1, .int p.2) :: szK m from rfl, valV_neg (fun z => h (Sum.inr.inj z).symm)]; exact ih
theorem lk_any (m : Sz) (k : Str) : (szK m).any (fun kv => decide (kv.1 = (.inr k : Key))) = (m.lookup k).isSome := by
  induction m with
  | nil => rfl
  | cons p m ih =>
    rw [lk_cons, show szK (p :: m) = (.inr p.1, .int p.2) :: szK m from rfl, List.any_cons, ih]
    by_cases h : k = p.1
    · rw [if_pos h, decide_eq_true (by rw [h])]; rfl
    · rw [if_neg h, decide_eq_false (fun z => h (Sum.inr.inj z).symm)]; rfl
theorem szK_put (m : Sz) (k : Str) (n : Nat) : putK (szK m) (.inr k) (.int n) = szK (szPut m k n) := by
  unfold putK szPut
  rw [lk_any]
  by_cases c : (m.lookup k).isSome = true
  · rw [if_pos c, if_pos c]
    unfold szK
    rw [List.map_map, List.map_map]
    apply List.map_congr_left
    intro p _
    simp only [Function.comp]
    by_cases h : p.1 = k
    · rw [if_pos h, if_pos (by rw [h])]
    · rw [if_neg h, if_neg (fun z => h (Sum.inr.inj z))]
  · rw [if_neg c, if_neg c]
    unfold szK
    rw [List.map_append]; rfl
theorem szK_len (m : Sz) : (szK m).length = m.length := List.length_map _
theorem szK_keys (m : Sz) : (szK m).map (·.1) = (m.map (·.1)).map Sum.inr := by
  unfold szK
  rw [List.map_map, List.map_map]; rfl
theorem szStep_ok {m : Sz} {r : MRow} (h : (m.map (·.1)).Nodup) : ((szStep m r).map (·.1)).Nodup ∧ (szStep m r).length ≤ m.length + 1 := by
  unfold szStep
  split
  · exact szPut_keys h
  · exact ⟨h, Nat.le_succ _⟩
theorem lk_mem {m : Sz} {k : Str} (h : k ∈ m.map (·.1)) : ∃ n, m.lookup k = some n := by
  induction m with
  | nil => simp at h
  | cons p m ih =>
    rw [lk_cons]
    by_cases h2 : k = p.1
    · exact ⟨p.2, if_pos h2⟩
    · rw [if_neg h2]
      rw [List.map_cons] at h
      exact ih ((List.mem_cons.mp h).resolve_left h2)
end Fw
namespace Fw
open PySem PySem.Spec PyProof.Rows L2
/-! ### data never touches a dict -/
mutual
theorem Dd.off {K : PySem.W.Frag} {H : Hp} {g : Addr} {kvs : List (Key × V)} (hg : H g = some (.dK kvs)) : ∀ {d : PyData} {v : V}, Dd K H v d → Dd K (del H [g]) v d
  | _, _, .non => .non
  | _, _, .bl b => .bl b
  | _, _, .int i => .int i
  | _, _, .str x => .str x
  | _, _, .lst (a := a) q r => .lst (by
      rw [del_out]; exact q
      intro z
      rw [List.mem_singleton.mp z, hg] at q
      cases q) (DdAll.off hg r)
  | _, _, .tup (a := a) q r => .tup (by
      rcases q with (q | ⟨o, q⟩) | q
      · refine .inl (.inl ?_)
        rw [del_out]; exact q
        intro z
        rw [List.mem_singleton.mp z, hg] at q
        cases q
      · refine .inl (.inr ⟨o, ?_⟩)
        rw [del_out]; exact q
        intro z
        rw [List.mem_singleton.mp z, hg] at q
        cases q
      · exact .inr q) (DdAll.off hg r)
theorem DdAll.off {K : PySem.W.Frag} {H : Hp} {g : Addr} {kvs : List (Key × V)} (hg : H g = some (.dK kvs)) : ∀ {ds : List PyData} {vs : List V}, DdAll K H vs ds → DdAll K (del H [g]) vs ds
  | _, _, .nil => .nil
  | _, _, .cons a b => .cons (Dd.off hg a) (DdAll.off hg b)
end
def without (M : List Addr) (g : Addr) : List Addr := M.filter fun x => decide (x ≠ g)
theorem without_sub {M : List Addr} {g : Addr} : ∀ x ∈ without M g, x ∈ M := fun x hx => (List.mem_filter.mp hx).1
theorem without_not {M : List Addr} {g : Addr} : g ∉ without M g := fun z => absurd rfl (of_decide_eq_true (List.mem_filter.mp z).2)
theorem without_in {M : List Addr} {g x : Addr} (h : x ∈ M) (n : x ≠ g) : x ∈ without M g := List.mem_filter.mpr ⟨h, decide_eq_true n⟩
/-- data that doesn't touch M but for a dict doesn't touch M -/
theorem Rp.offW {K : PySem.W.Frag} {H : Hp} {M : List Addr} {g : Addr} {kvs : List (Key × V)} {v : V} {d : PyData} (hg : H g = some (.dK kvs)) (h : Rp K (without M g) H v d) : Rp K M H v d := by
  have h1 : del H (without M g) g = some (.dK kvs) := by rw [del_out without_not]; exact hg
  refine Dd.ext (fun a o q => ?_) (Dd.off h1 h)
  obtain ⟨n, q⟩ := del_some q
  obtain ⟨n2, q⟩ := del_some q
  rw [del_out]
  · exact q
  · intro z
    exact n2 (without_in z fun e => n (List.mem_singleton.mpr e))
/-! ### a grammar, plain -/
structure Gr where
  cap : Nat
  sorts : List SRow
  makings : List MRow
  rules : List GRule
/-- the rules, making by making -/
inductive RulesBy (rows : List SRow) (cap : Nat) : List MRow → List GRule → Prop
  | nil : RulesBy rows cap [] []
  | snoc {ms : List MRow} {rs : List GRule} {m : MRow} {us : List GRule} : RulesBy rows cap ms rs → RlsOk rows m cap us → RulesBy rows cap (ms ++ [m]) (rs ++ us)
structure GrOk (G : Gr) : Prop where
  nd : (G.sorts.map (·.1)).Nodup
  len1 : 1 ≤ G.sorts.length
  len : G.sorts.length ≤ 4
  nms : ∀ r ∈ G.sorts, NameOk r.1
  rnd : ∀ r ∈ G.sorts, (r.2.1 ++ r.2.2).Nodup
  rok : ∀ r ∈ G.sorts, ∀ x ∈ r.2.1 ++ r.2.2, NameOk x
  dn : ∀ r ∈ G.sorts, r.2.1.length ≤ 2
  up : ∀ r ∈ G.sorts, r.2.2.length ≤ 2
  r3 : ∀ r ∈ G.sorts, r.2.1.length + r.2.2.length ≤ 3
  mnd : (G.makings.map (·.1)).Nodup
  mlen : G.makings.length ≤ 8
  mlen1 : 1 ≤ G.makings.length
  mnm : ∀ m ∈ G.makings, NameOk m.1
  mkind : ∀ m ∈ G.makings, m.2.1 ∈ G.sorts.map (·.1)
  mparts : ∀ m ∈ G.makings, ∀ x ∈ m.2.2, x ∈ G.sorts.map (·.1)
  mplen : ∀ m ∈ G.makings, m.2.2.length ≤ 2
  rules : RulesBy G.sorts G.cap G.makings G.rules
  cap9 : G.cap ≤ 9
end Fw
namespace Fw
open PySem PySem.Spec PyProof.Rows L2
/-! ### enumerate(v), v a list or a tuple -/
theorem meets_enumerate_new0 {v : Value} {o : Obj} {H : Heap → Prop} (B : Begins v o H) :
    Meets (Builtin.«enumerate.__new__» ⟨[.type "enumerate", v], []⟩) (fun _ R s => H s.heap ∧
      R (.ok (.ret (.ref (s.heap.push o).objs.size))) { s with heap := (s.heap.push o).push { cls := .type "enumerate", data := .fields #[.none, .bool false, .ref s.heap.objs.size, rawInt 0, .none, .none] } }) :=
  .of_wp fun prog w A R s h => by
    obtain ⟨hp, g, d, tk, os⟩ := s
    obtain ⟨h1, h⟩ := h
    have hsub := sub_enumerate
    have q1 : ∀ {A' : Around} {E : Value → Shared → Prop} {Q : Value → Shared → Prop}, Q (.ref hp.objs.size) ⟨hp.push o, g, d, tk, os⟩ → wpAny (model prog w) A' (pyIter v) Q E ⟨hp, g, d, tk, os⟩ := fun q => B.iter prog w _ _ ⟨hp, g, d, tk, os⟩ _ h1 q
    wp_walk using q1
    refine wpAny_stack_any fun st => wpAny_pure ?_
    split
    · rename_i c _ _ _ _ _
      cases (c == Value.type "enumerate")
      · wp_walk using q1
        exact ⟨_, rfl, h⟩
      · wp_walk using q1
        exact ⟨_, rfl, h⟩
    · wp_walk using q1
      exact ⟨_, rfl, h⟩
section
variable {prog : Program} {w : World} {A : Around} {E : Value → Shared → Prop} {s : Shared}
theorem enum0_begins {v : Value} {o : Obj} {H : Heap → Prop} {Q : Value → Shared → Prop} (B : Begins v o H) (h1 : H s.heap)
    (h : ∀ h', IsEnum h' (s.heap.objs.size + 1) s.heap.objs.size 0 .none → h'.get? s.heap.objs.size = some o → h'.objs.size = s.heap.objs.size + 2 →
      (∀ b o, s.heap.get? b = some o → h'.get? b = some o) → Q (.ref (s.heap.objs.size + 1)) { s with heap := h' }) :
    wpAny (model prog w) A (call (.type "enumerate") [v]) Q E s := by
  refine callType_new F.called_enumerate (by decide) (F.typeCall_enumerate_1 _) (F.newCall_enumerate_1 _) (fun obj => F.args_object_init_2 obj _) F.entry_enumerate_new
    (meets_enumerate_new0 B) ⟨h1, ?_⟩
  have hz : (s.heap.push o).objs.size = s.heap.objs.size + 1 := Heap.size_push ..
  show _ ∧ _
  rw [hz]
  have he : IsEnum ((s.heap.push o).push { cls := .type "enumerate", data := .fields #[.none, .bool false, .ref s.heap.objs.size, rawInt 0, .none, .none] }) (s.heap.objs.size + 1) s.heap.objs.size 0 .none := by
    have := Heap.get?_push_size (s.heap.push o) (o := { cls := .type "enumerate", data := .fields #[.none, .bool false, .ref s.heap.objs.size, rawInt 0, .none, .none] }) rfl
    rw [hz] at this; exact this
  refine ⟨⟨_, he, rfl⟩, h _ he (Heap.get?_push_of_some _ (Heap.get?_push_size _ B.free)) (by rw [Heap.size_push, hz]) fun b o x => Heap.get?_push_of_some _ (Heap.get?_push_of_some _ x)⟩
end
section
variable {X : Cx} {p pos tpos kpos kp : Pos} {e e2 : Expr} {elts : List Expr} {kk kc : Nat} {ta : TA} {te : TE} {K : PySem.W.Frag}
theorem pi_en0 (hg : Gl X "enumerate") (hm : X.mg "enumerate" = none) (ha : PA X [e] ta) (hs : starEach [e] X.env = [(false, eval e X.env)] := by rfl) (hK : X.K = K := by rfl) :
    PI X (.Tuple elts kk tpos) (.Call (.Name "enumerate" p) [e] [] pos) (iEnumK K 0 ta) := by
  subst hK
  refine ⟨fun pins s σ H R I h => ?_⟩
  refine Call_ (ld_blt I hg hm boot_enumerate (PyProof.Rows.callWith_type1 (thn (ha.run pos pins s σ H _ I h) fun us s2 ⟨vs, H2, I2, r1, q1⟩ => ?_) hs rfl))
  obtain ⟨a, xs, kd, ex, hfw, hq, q⟩ := q1
  subst ex
  cases r1 with
  | cons r rr =>
  cases rr
  cases r
  obtain ⟨its, rw_, e1, z1, g1⟩ := rd_raw I2 hq
  have fin : ∀ (h' : Heap), IsEnum h' (s2.heap.objs.size + 1) s2.heap.objs.size 0 .none → (∀ n, stI h' s2.heap.objs.size a n 0 kd) → a < s2.heap.objs.size → (∀ b o, s2.heap.get? b = some o → h'.get? b = some o) → wpAny (model X.prog X.w) X.A (pyIter (.ref (s2.heap.objs.size + 1))) (PIE X pins σ (.Tuple elts kk tpos) R) X.xe { s2 with heap := h' } := by
    intro h' he hit hlt hk
    refine wpAny_pyIter_enum he ?_
    have I3 : Inv X pins σ H2 { s2 with heap := h' } := I2.kept (t' := s2.toks) hk
    refine ⟨s2.heap.objs.size + 1, [s2.heap.objs.size + 1, s2.heap.objs.size], _, _, H2, rfl, I3, turn_enumK hfw a (s2.heap.objs.size + 1) s2.heap.objs.size 0 (Nat.ne_of_gt (Nat.lt_succ_of_lt hlt)) (Nat.ne_of_lt hlt) (Nat.succ_ne_self _), ⟨⟨.none, ?_⟩, hit⟩, fun b hb => ?_, q⟩
    · rw [show (0 : Int) + ((0 : Nat) : Int) = 0 by omega]; exact he
    · have e' : b = s2.heap.objs.size + 1 ∨ b = s2.heap.objs.size := by simpa using hb
      have hle : s2.heap.objs.size ≤ b := by
        rcases e' with z | z
        · rw [z]; exact Nat.le_add_right _ _
        · rw [z]; exact Nat.le_refl _
      exact I2.fpOk hle (I2.hok.fresh hle)
  cases kd with
  | l =>
    refine enum0_begins (begins_list a its) rw_ fun h' he ho hsz hk => fin h' he (fun n => ⟨_, ho, rfl, rfl⟩) ?_ hk
    obtain ⟨o, ho, _⟩ := rw_
    exact Heap.lt_size ho
  | t =>
    refine enum0_begins (begins_tuple a its) rw_ fun h' he ho hsz hk => fin h' he (fun n => ⟨_, ho, rfl, rfl⟩) ?_ hk
    obtain ⟨o, ho, _⟩ := rw_
    exact Heap.lt_size ho
  | rl => exact hfw.elim
  | rt => exact hfw.elim
end
end Fw
namespace Fw
open PySem PySem.Spec PyProof.Rows L2
/-! ### nodes with their paths; another tree put at a path -/
mutual
def Tr.gone : Tr → List Nat → List (List Nat × Tr)
  | .mk n o ps, p => (p, .mk n o ps) :: goneL p 1 ps
def goneL : List Nat → Nat → List Tr → List (List Nat × Tr)
  | _, _, [] => []
  | p, i, t :: ts => t.gone (p ++ [i]) ++ goneL p (i + 1) ts
end
mutual
theorem gone_paths : ∀ (t : Tr) (p : List Nat), (t.gone p).map (·.1) = t.paths.map (p ++ ·)
  | .mk n o ps, p => by
    simp only [Tr.gone, Tr.paths, List.map_cons, goneL_paths p 1 ps, List.append_nil]
theorem goneL_paths : ∀ (p : List Nat) (i : Nat) (ts : List Tr), (goneL p i ts).map (·.1) = (pathsL i ts).map (p ++ ·)
  | _, _, [] => by simp [goneL, pathsL]
  | p, i, t :: ts => by
    simp only [goneL, pathsL, List.map_append, gone_paths t (p ++ [i]), goneL_paths p (i + 1) ts, List.map_map]
    congr 1
    apply List.map_congr_left
    intro x _
    simp
end
theorem gone_fst (t : Tr) : (t.gone []).map (·.1) = t.paths := by
  rw [gone_paths]
  simp
theorem gone_len (t : Tr) (p : List Nat) : (t.gone p).length = t.size := by
  have := congrArg List.length (gone_paths t p)
  rw [List.length_map, List.length_map, paths_len] at this
  exact this
/-- the node at a path -/
def Tr.node : Tr → List Nat → Option Tr
  | t, [] => some t
  | .mk _ _ ps, k :: q => match k with
    | 0 => none
    | k + 1 => match ps[k]? with
      | some u => u.node q
      | none => none
theorem node_mk (n : Str) (o : Int) (ps : List Tr) (k : Nat) (q : List Nat) : (Tr.mk n o ps).node ((k + 1) :: q) = match ps[k]? with
      | some u => u.node q
      | none => none := by rw [Tr.node]
theorem node_nil (t : Tr) : t.node [] = some t := by cases t; rw [Tr.node]
theorem node0 (t : Tr) (q : List Nat) : t.node (0 :: q) = none := by cases t; rw [Tr.node]
mutual
theorem gone_node : ∀ (t : Tr) (p : List Nat) (q : List Nat) (u : Tr), (q, u) ∈ t.gone p → ∃ q', q = p ++ q' ∧ t.node q' = some u
  | .mk n o ps, p, q, u, h => by
    simp only [Tr.gone, List.mem_cons] at h
    rcases h with h | h
    · cases h
      exact ⟨[], by simp, node_nil _⟩
    · obtain ⟨k, q', z, h1, h2, h3⟩ := goneL_node p 1 ps q u h
      refine ⟨(k + 1) :: q', by rw [h1, show 1 + k = k + 1 by omega], ?_⟩
      rw [node_mk, h2]
      exact h3
theorem goneL_node : ∀ (p : List Nat) (i : Nat) (ts : List Tr) (q : List Nat) (u : Tr), (q, u) ∈ goneL p i ts → ∃ (k : Nat) (q' : List Nat) (z : Tr), q = p ++ (i + k) :: q' ∧ ts[k]? = some z ∧ z.node q' = some u
  | _, _, [], _, _, h => by simp [goneL] at h
  | p, i, t :: ts, q, u, h => by
    simp only [goneL, List.mem_append] at h
    rcases h with h | h
    · obtain ⟨q', h1, h2⟩ := gone_node t (p ++ [i]) q u h
      exact ⟨0, q', t, by rw [h1]; simp, rfl, h2⟩
    · obtain ⟨k, q', z, h1, h2, h3⟩ := goneL_node p (i + 1) ts q u h
      exact ⟨k + 1, q', z, by rw [h1, show i + 1 + k = i + (k + 1) by omega], by simpa using h2, h3⟩
end
def pathI (q : List Nat) : List PyData := q.map fun (n : Nat) => PyData.int (n : Int)
theorem along_node : ∀ {q : List Nat} {t u : Tr}, t.node q = some u → ∃ us, along t (pathI q) = some (us ++ [u])
  | [], t, u, h => by
    rw [node_nil] at h
    cases h
    exact ⟨[], rfl⟩
  | 0 :: q, t, u, h => by rw [node0] at h; cases h
  | (k + 1) :: q, .mk n o ps, u, h => by
    rw [node_mk] at h
    cases hk : ps[k]? with
    | none => rw [hk] at h; cases h
    | some z =>
      rw [hk] at h
      obtain ⟨us, h2⟩ := along_node (q := q) h
      obtain ⟨hlt, _⟩ := List.getElem?_eq_some_iff.mp hk
      have hat : (Tr.mk n o ps).at (.int ((k + 1 : Nat) : Int)) = some z := by
        show (if 1 ≤ ((k + 1 : Nat) : Int) ∧ ((k + 1 : Nat) : Int) ≤ ps.length then ps[(((k + 1 : Nat) : Int) - 1).toNat]? else none) = some z
        rw [if_pos (by omega), show (((k + 1 : Nat) : Int) - 1).toNat = k by omega]
        exact hk
      refine ⟨.mk n o ps :: us, ?_⟩
      show (match (Tr.mk n o ps).at (.int ((k + 1 : Nat) : Int)) with
        | some u => (along u (pathI q)).map (Tr.mk n o ps :: ·)
        | none => none) = _
      rw [hat]
      simp [h2]
/-- another tree put at a path -/
def Tr.putP : Tr → List Nat → Tr → Tr
  | _, [], x => x
  | .mk n o ps, k :: q, x => match k with
    | 0 => x
    | k + 1 => match ps[k]? with
      | some u => .mk n o (ps.take k ++ [u.putP q x] ++ ps.drop (k + 1))
      | none => x
theorem putP_nil (t x : Tr) : t.putP [] x = x := by cases t; rw [Tr.putP]
theorem putP_mk {n : Str} {o : Int} {ps : List Tr} {k : Nat} {q : List Nat} {x u : Tr} (h : ps[k]? = some u) : (Tr.mk n o ps).putP ((k + 1) :: q) x = .mk n o (ps.take k ++ [u.putP q x] ++ ps.drop (k + 1)) := by
  rw [Tr.putP]
  simp only [h]
theorem node_inv {n : Str} {o : Int} {ps : List Tr} {k : Nat} {q : List Nat} {u : Tr} (h : (Tr.mk n o ps).node (k :: q) = some u) : ∃ j z, k = j + 1 ∧ ps[j]? = some z ∧ z.node q = some u := by
  cases k with
  | zero => rw [node0] at h; cases h
  | succ k =>
    rw [node_mk] at h
    cases hk : ps[k]? with
    | none => rw [hk] at h; cases h
    | some z => rw [hk] at h; exact ⟨k, z, rfl, hk, h⟩
theorem set_at {ps : List Tr} {k : Nat} {w : Tr} (h : k < ps.length) : (ps.take k ++ [w] ++ ps.drop (k + 1))[k]? = some w := by
  rw [List.append_assoc, List.getElem?_append_right (by rw [List.length_take]; omega), List.length_take, Nat.min_eq_left (by omega), Nat.sub_self]
  rfl
theorem set_take {ps : List Tr} {k : Nat} {w : Tr} (h : k < ps.length) : (ps.take k ++ [w] ++ ps.drop (k + 1)).take k = ps.take k := by
  rw [List.append_assoc, List.take_append_of_le_length (by rw [List.length_take]; omega), List.take_take, Nat.min_self]
theorem set_drop {ps : List Tr} {k : Nat} {w : Tr} (h : k < ps.length) : (ps.take k ++ [w] ++ ps.drop (k + 1)).drop (k + 1) = ps.drop (k + 1) := by
  have hl : (ps.take k ++ [w]).length = k + 1 := by rw [List.length_append, List.length_take]; simp; omega
  rw [List.drop_append_of_le_length (by omega), List.drop_eq_nil_of_le (by omega), List.nil_append]
theorem put_node : ∀ {q : List Nat} {t u x : Tr}, t.node q = some u → (t.putP q x).node q = some x
  | [], t, u, x, _ => by rw [putP_nil, node_nil]
  | k :: q, .mk n o ps, u, x, h => by
    obtain ⟨j, z, rfl, hj, hz⟩ := node_inv h
    obtain ⟨hlt, _⟩ := List.getElem?_eq_some_iff.mp hj
    rw [putP_mk hj, node_mk, set_at hlt]
    exact put_node hz
theorem put_put : ∀ {q : List Nat} {t u x y : Tr}, t.node q = some u → (t.putP q x).putP q y = t.putP q y
  | [], t, u, x, y, _ => by rw [putP_nil, putP_nil]
  | k :: q, .mk n o ps, u, x, y, h => by
    obtain ⟨j, z, rfl, hj, hz⟩ := node_inv h
    obtain ⟨hlt, _⟩ := List.getElem?_eq_some_iff.mp hj
    rw [putP_mk hj, putP_mk (set_at hlt), putP_mk hj, put_put hz, set_take hlt, set_drop hlt]
theorem put_self : ∀ {q : List Nat} {t u : Tr}, t.node q = some u → t.putP q u = t
  | [], t, u, h => by
    rw [node_nil] at h
    cases h
    exact putP_nil _ _
  | k :: q, .mk n o ps, u, h => by
    obtain ⟨j, z, rfl, hj, hz⟩ := node_inv h
    obtain ⟨hlt, e⟩ := List.getElem?_eq_some_iff.mp hj
    rw [putP_mk hj, put_self hz]
    congr 1
    rw [← e, List.append_assoc, List.singleton_append, ← List.drop_eq_getElem_cons hlt, List.take_append_drop]
theorem put_size : ∀ {q : List Nat} {t u x : Tr}, t.node q = some u → (t.putP q x).size ≤ t.size + x.size
  | [], t, u, x, _ => by rw [putP_nil]; omega
  | k :: q, .mk n o ps, u, x, h => by
    obtain ⟨j, z, rfl, hj, hz⟩ := node_inv h
    obtain ⟨hlt, e⟩ := List.getElem?_eq_some_iff.mp hj
    have ih := put_size (x := x) hz
    rw [putP_mk hj]
    have hs : sizes ps = sizes (ps.take j) + (z.size + sizes (ps.drop (j + 1))) := by
      have := sizes_append (ps.take j) (ps.drop j)
      rw [List.take_append_drop, List.drop_eq_getElem_cons hlt, e] at this
      rw [this]
      simp only [sizes]
    simp only [Tr.size, sizes_append, sizes]
    omega
theorem put_high : ∀ {q : List Nat} {t u x : Tr}, t.node q = some u → (t.putP q x).high ≤ t.high + x.high
  | [], t, u, x, _ => by rw [putP_nil]; omega
  | k :: q, .mk n o ps, u, x, h => by
    obtain ⟨j, z, rfl, hj, hz⟩ := node_inv h
    have ih := put_high (x := x) hz
    have h1 := highs_mem z (List.mem_of_getElem? hj)
    have h2 : ∀ (l : List Tr), (∀ t ∈ l, t.high ≤ highs ps) → highs l ≤ highs ps := by
      intro l
      induction l with
      | nil => intro _; simp [highs]
      | cons a l ih => intro hl; simp only [highs]; have := hl a (List.mem_cons_self ..); have := ih fun t ht => hl t (List.mem_cons_of_mem _ ht); omega
    have h3 := h2 (ps.take j) fun t ht => highs_mem t (List.mem_of_mem_take ht)
    have h4 := h2 (ps.drop (j + 1)) fun t ht => highs_mem t (List.mem_of_mem_drop ht)
    rw [putP_mk hj]
    simp only [Tr.high, highs_append, highs]
    omega
theorem TrsOk.of_mem : ∀ {ts : List Tr}, (∀ t ∈ ts, TrOk t) → TrsOk ts
  | [], _ => .nil
  | t :: ts, h => .cons (h t (List.mem_cons_self ..)) (TrsOk.of_mem fun u hu => h u (List.mem_cons_of_mem _ hu))
theorem put_ok : ∀ {q : List Nat} {t u x : Tr}, t.node q = some u → TrOk t → TrOk x → TrOk (t.putP q x)
  | [], t, u, x, _, _, hx => by rw [putP_nil]; exact hx
  | k :: q, .mk n o ps, u, x, h, ht, hx => by
    obtain ⟨j, z, rfl, hj, hz⟩ := node_inv h
    obtain ⟨hlt, e⟩ := List.getElem?_eq_some_iff.mp hj
    obtain ⟨h1, h2, h3, h4, h5⟩ := ht.parts
    have hzok := h5.mem z (List.mem_of_getElem? hj)
    rw [putP_mk hj]
    refine .mk h1 h2 h3 ?_ ?_
    · simp only [List.length_append, List.length_take, List.length_drop, List.length_singleton]; omega
    · refine TrsOk.append (TrsOk.append (TrsOk.of_mem fun t ht => h5.mem t (List.mem_of_mem_take ht)) (.cons (put_ok hz hzok hx) .nil)) (TrsOk.of_mem fun t ht => h5.mem t (List.mem_of_mem_drop ht))
theorem node_ok : ∀ {q : List Nat} {t u : Tr}, t.node q = some u → TrOk t → TrOk u ∧ u.size ≤ t.size ∧ u.high ≤ t.high ∧ q.length < t.high
  | [], t, u, h, ht => by
    rw [node_nil] at h
    cases h
    exact ⟨ht, Nat.le_refl _, Nat.le_refl _, by cases t; simp only [Tr.high, List.length_nil]; omega⟩
  | k :: q, .mk n o ps, u, h, ht => by
    obtain ⟨j, z, rfl, hj, hz⟩ := node_inv h
    obtain ⟨h1, h2, h3, h4, h5⟩ := ht.parts
    have hm := List.mem_of_getElem? hj
    obtain ⟨a, b, c, d⟩ := node_ok hz (h5.mem z hm)
    have e1 := sizes_mem z hm
    have e2 := highs_mem z hm
    simp only [Tr.size, Tr.high, List.length_cons]
    exact ⟨a, by omega, by omega, by omega⟩
theorem node_small : ∀ {q : List Nat} {t u : Tr}, t.node q = some u → TrOk t → ∀ k ∈ q, k ≤ 2
  | [], _, _, _, _, _, z => nomatch z
  | k :: q, .mk n o ps, u, h, ht, i, hi => by
    obtain ⟨j, z, rfl, hj, hz⟩ := node_inv h
    obtain ⟨h1, h2, h3, h4, h5⟩ := ht.parts
    obtain ⟨hlt, _⟩ := List.getElem?_eq_some_iff.mp hj
    rcases List.mem_cons.mp hi with rfl | hi
    · omega
    · exact node_small hz (h5.mem z (List.mem_of_getElem? hj)) i hi
end Fw
namespace Fw
open PySem PySem.Spec PyProof.Rows L2
/-! ### looks at the goal's head, cheap ones: x_nx and its like cost much where the goal is another -/
section
variable {D : Ends} {σ : L2.St} {H : Hp} {v : V}
theorem g_nx (q : Ends.nx D σ H) : Ends.nx D σ H := q
theorem g_bk (q : Ends.bk D σ H) : Ends.bk D σ H := q
theorem g_ct (q : Ends.ct D σ H) : Ends.ct D σ H := q
theorem g_rt (q : Ends.rt D v H) : Ends.rt D v H := q
end
end Fw
set_option hygiene false
local macro_rules | `(tactic| walk_at "sql") => `(tactic| (first | exact SqL.of (hw.at 0 rfl) | exact SqL.of (hw.at 1 rfl) | exact SqL.of (hw.at 2 rfl) | exact SqL.of (hw.at 3 rfl) | exact SqL.of (hw.at 4 rfl) | exact SqL.of (hw.at 5 rfl) | exact SqL.of (hw.at 6 rfl) | exact SqL.of (hw.kn 0 rfl) | exact SqL.of (hw.kn 1 rfl) | exact SqL.of (hw.kn 2 rfl) | exact SqL.of (hw.kn 3 rfl) | exact SqL.of (hw.kn 4 rfl) | exact SqL.of (Rp.ints (hw.rp 0 rfl)) | exact SqL.of (Rp.ints (hw.rp 1 rfl)) | exact SqL.of (Rp.ints (hw.rp 2 rfl)) | exact SqL.of (Rp.ints (hw.rp 3 rfl)) | exact SqL.of (Rp.strs (hw.rp 0 rfl)) | exact SqL.of (Rp.strs (hw.rp 1 rfl)) | exact SqL.of (Rp.strs (hw.rp 2 rfl)) | exact SqL.of (Rp.strs (hw.rp 3 rfl)) | assumption | exact hw.sq0 (by assumption)))
local macro_rules | `(tactic| walk_at "lst") => `(tactic| (first | exact hw.at 0 rfl | exact hw.at 1 rfl | exact hw.at 2 rfl | exact hw.at 3 rfl | exact hw.at 4 rfl | exact hw.at 5 rfl | exact hw.at 6 rfl | exact hw.kn 0 rfl | exact hw.kn 1 rfl | exact hw.kn 2 rfl | exact hw.kn 3 rfl | exact hw.kn 4 rfl | exact Rp.ints (hw.rp 0 rfl) | exact Rp.ints (hw.rp 1 rfl) | exact Rp.ints (hw.rp 2 rfl) | exact Rp.ints (hw.rp 3 rfl) | exact Rp.strs (hw.rp 0 rfl) | exact Rp.strs (hw.rp 1 rfl) | exact Rp.strs (hw.rp 2 rfl) | exact Rp.strs (hw.rp 3 rfl) | assumption))
local macro_rules | `(tactic| walk_at "sqt") => `(tactic| (first | exact SqT.of (hw.at 0 rfl) | exact SqT.of (hw.at 1 rfl) | exact SqT.of (hw.at 2 rfl) | exact SqT.of (hw.at 3 rfl) | exact SqT.of (hw.at 4 rfl) | exact SqT.of (hw.at 5 rfl) | exact SqT.of (hw.at 6 rfl) | exact hw.tp 0 rfl | exact hw.tp 1 rfl | exact hw.tp 2 rfl | exact hw.tp 3 rfl | exact hw.tp 4 rfl | exact SqT.of (hw.kn 0 rfl) | exact SqT.of (hw.kn 1 rfl) | exact SqT.of (hw.kn 2 rfl) | exact SqT.of (hw.kn 3 rfl) | exact SqT.of (hw.kn 4 rfl) | assumption))
local macro_rules | `(tactic| walk_at "dd") => `(tactic| (repeat' (first | exact DdAll.nil | apply DdAll.cons | exact Dd.int _ | exact Dd.str _ | exact Dd.bl _ | exact Dd.non | exact hw.rp 0 rfl | exact hw.rp 1 rfl | exact hw.rp 2 rfl | exact hw.rp 3 rfl | exact hw.rp 4 rfl | exact hw.rp 5 rfl | exact hw.rp 6 rfl | exact hw.rp 7 rfl | exact hw.rp 8 rfl | exact hw.rp 9 rfl | exact hw.rp 10 rfl | exact hw.rp 11 rfl | exact hw.rp 12 rfl | exact hw.rp 13 rfl | assumption)))
local macro_rules | `(tactic| walk_at "nm") => `(tactic| (try simp only [List.set_cons_zero, List.set_cons_succ] at hw))
local macro_rules | `(tactic| walk_at "sx") => `(tactic| (repeat (first | ((with_reducible refine' x_var ?zzh ?_); (case zzh => rfl)) | with_reducible refine x_truB ?_ | with_reducible refine x_gSub ?_ | with_reducible refine x_iEnumK ?_ | with_reducible refine x_iZipS ?_ | with_reducible refine x_made ?_ | with_reducible refine x_orT ?_ | with_reducible refine x_inSign ?_ | with_reducible refine x_fldOf ?_ | with_reducible refine x_mkO ?_ | with_reducible refine x_callNS ?_ | with_reducible refine x_callS ?_ | with_reducible refine x_bm ?_ | with_reducible refine x_bm0 ?_ | with_reducible refine x_tyS ?_ | with_reducible refine x_pairs ?_ | with_reducible refine x_pairs0 ?_ | with_reducible refine x_rev ?_ | with_reducible refine x_chain ?_ | ((with_reducible refine g_nx ?_); with_reducible refine x_nx ?_) | with_reducible refine x_seq ?_ | with_reducible refine x_op ?_ | with_reducible refine x_cons ?_ | with_reducible refine x_nil ?_ | with_reducible refine x_c ?_ | with_reducible refine x_set ?_ | with_reducible refine x_ret ?_ | ((with_reducible refine g_rt ?_); with_reducible refine x_rt ?_) | with_reducible refine x_cb ?_ | with_reducible refine x_call ?_ | with_reducible refine x_test ?_ | with_reducible refine x_B ?_ | with_reducible refine x_ifS ?_ | with_reducible refine x_if ?_ | with_reducible refine x_and ?_ | with_reducible refine x_or ?_ | with_reducible refine x_not ?_ | with_reducible refine x_andV ?_ | with_reducible refine x_orV ?_ | with_reducible refine x_notV ?_ | with_reducible refine x_un ?_ | with_reducible refine x_asgS ?_ | with_reducible refine x_asgT ?_ | with_reducible refine x_asgG ?_ | with_reducible refine x_drop ?_ | with_reducible refine x_next ?_ | with_reducible refine x_par ?_ | with_reducible refine x_par3 ?_ | with_reducible refine x_is2 ?_ | with_reducible refine x_is3 ?_ | with_reducible refine x_sl ?_ | with_reducible refine x_nopart ?_ | with_reducible refine x_part ?_ | with_reducible refine x_isint ?_ | with_reducible refine x_isbl ?_ | with_reducible refine x_addI ?_ | with_reducible refine x_rI0 ?_ | with_reducible refine x_rU ?_ | with_reducible refine x_isNI ?_ | with_reducible refine x_isNS ?_ | with_reducible refine x_isNB ?_ | with_reducible refine x_isNR ?_ | with_reducible refine x_isNN ?_ | with_reducible refine x_isNotNI ?_ | with_reducible refine x_isNotNS ?_ | with_reducible refine x_isNotNB ?_ | with_reducible refine x_isNotNR ?_ | with_reducible refine x_isNotNN ?_ | with_reducible refine x_eqR rfl ?_ | with_reducible refine x_neR rfl ?_ | with_reducible refine x_eqI ?_ | with_reducible refine x_neI ?_ | with_reducible refine x_eqStr ?_ | with_reducible refine x_neStr ?_ | with_reducible refine x_eqB ?_ | with_reducible refine x_neB ?_ | with_reducible refine x_isN ?_ | with_reducible refine x_isNotN ?_ | with_reducible refine x_isB ?_ | with_reducible refine x_isNotB ?_ | with_reducible refine x_minM ?_ | with_reducible refine x_maxM ?_ | with_reducible refine x_ifT ?_ | with_reducible refine x_ifF ?_ | with_reducible refine x_ifnT ?_ | with_reducible refine x_ifnF ?_ | with_reducible refine x_lst ?_ | with_reducible refine x_tup ?_ | with_reducible refine x_abs ?_ | with_reducible refine x_intI ?_ | with_reducible refine x_intB ?_ | with_reducible refine x_callN ?_ | with_reducible refine x_dget ?_ | with_reducible refine x_gName ?_ | with_reducible refine x_gCons ?_ | with_reducible refine x_gNil ?_ | with_reducible refine x_forK ?_ | with_reducible refine x_lc ?_ | with_reducible refine x_yes ?_ | with_reducible refine x_iU ?_ | with_reducible refine x_itS ?_ | with_reducible refine x_iList ?_ | with_reducible refine x_iTup ?_ | with_reducible refine x_iRng1 ?_ | with_reducible refine x_iRng2 ?_ | with_reducible refine x_iEnum ?_ | with_reducible refine x_iZip ?_ | with_reducible refine x_brk ?_ | with_reducible refine x_cont ?_ | ((with_reducible refine g_ct ?_); with_reducible refine x_ct ?_) | ((with_reducible refine g_bk ?_); with_reducible refine x_bk ?_) | ((with_reducible refine' x_aug ?zzh ?_); (case zzh => rfl)) | with_reducible refine x_ipI ?_ | ((with_reducible refine x_eqS ?zzh ?_); (case zzh => rfl)) | ((with_reducible refine x_neS ?zzh ?_); (case zzh => rfl)) | ((with_reducible refine x_mulI ?zzh ?_); (case zzh => first | exact .inl ⟨by omega, by omega⟩ | exact .inr ⟨by omega, by omega⟩)) | ((with_reducible refine x_rI ?zzh ?_); (case zzh => first | omega | exact ⟨by omega, by omega⟩ | exact ⟨by omega, by omega, by omega⟩)) | ((with_reducible refine' x_ixL ?zzh ?zze ?_); (case zzh => walk_at "sql"); (case zze => (first | rfl | assumption | exact atI_nat rfl | (simp; done)))) | ((with_reducible refine' x_lenL ?zzh ?_); (case zzh => walk_at "sql")) | ((with_reducible refine' w_setL hw 0 ?zzh ?zze ?_); (case zzh => rfl); (case zze => first | rfl | assumption); intro H hw; walk_at "nm") | ((with_reducible refine' w_setL hw 1 ?zzh ?zze ?_); (case zzh => rfl); (case zze => first | rfl | assumption); intro H hw; walk_at "nm") | ((with_reducible refine' w_setL hw 2 ?zzh ?zze ?_); (case zzh => rfl); (case zze => first | rfl | assumption); intro H hw; walk_at "nm") | ((with_reducible refine' w_setL hw 3 ?zzh ?zze ?_); (case zzh => rfl); (case zze => first | rfl | assumption); intro H hw; walk_at "nm") | ((with_reducible refine' w_setL hw 4 ?zzh ?zze ?_); (case zzh => rfl); (case zze => first | rfl | assumption); intro H hw; walk_at "nm") | ((with_reducible refine' w_setL hw 5 ?zzh ?zze ?_); (case zzh => rfl); (case zze => first | rfl | assumption); intro H hw; walk_at "nm") | ((with_reducible refine w_lst hw (by first | exact szl rfl | assumption) ?_); intro p H hp hw) | ((with_reducible refine w_tupC hw (by first | exact szl rfl | assumption) ?_); intro p H hp hw) | ((with_reducible refine' x_inT ?zzh ?zze ?zze2 ?_); (case zzh => walk_at "sqt"); (case zze => rfl); (case zze2 => rfl)) | ((with_reducible refine' x_inL ?zzh ?zze ?zze2 ?_); (case zzh => walk_at "sql"); (case zze => rfl); (case zze2 => rfl)) | ((with_reducible refine' x_notInT ?zzh ?zze ?zze2 ?_); (case zzh => walk_at "sqt"); (case zze => rfl); (case zze2 => rfl)) | ((with_reducible refine' x_notInL ?zzh ?zze ?zze2 ?_); (case zzh => walk_at "sql"); (case zze => rfl); (case zze2 => rfl)) | ((with_reducible refine' x_ixT ?zzh ?zze ?_); (case zzh => walk_at "sqt"); (case zze => (first | rfl | assumption | exact atI_nat rfl | (simp; done)))) | ((with_reducible refine' w_slL hw ?zzh ?_); (case zzh => walk_at "sql"); intro p H hp hw) | ((with_reducible refine' w_listL hw ?zzh ?_); (case zzh => walk_at "sql"); intro p H hp hw) | ((with_reducible refine' x_itL ?zzh ?_); (case zzh => walk_at "sql")) | ((with_reducible refine' x_itT ?zzh ?_); (case zzh => walk_at "sqt")) | ((with_reducible refine' x_iL ?zzh ?_); (case zzh => walk_at "sql")) | ((with_reducible refine' x_en ?zzh ?_); (case zzh => walk_at "sql")) | ((with_reducible refine x_rng1 ?zzh1 ?zzh2 ?_); (case zzh1 => first | omega | (simp only [List.length_map]; omega)); (case zzh2 => first | omega | (simp only [List.length_map]; omega))) | ((with_reducible refine x_rng2 ?zzh ?_); (case zzh => first | exact ⟨by omega, by omega, by omega, by omega⟩)) | ((with_reducible refine' x_gTup ?zzh ?zze ?_); (case zzh => walk_at "sqt"); (case zze => rfl)) | (with_reducible refine x_wipe rfl ?_) | ((with_reducible refine' w_app hw 0 ?zzh ?zze ?_); (case zzh => rfl); (case zze => first | (refine sz_lt ?_; simp; done) | (refine sz_lt ?_; simp; omega) | assumption); intro H hw; walk_at "nm") | ((with_reducible refine' w_app hw 1 ?zzh ?zze ?_); (case zzh => rfl); (case zze => first | (refine sz_lt ?_; simp; done) | (refine sz_lt ?_; simp; omega) | assumption); intro H hw; walk_at "nm") | ((with_reducible refine' w_app hw 2 ?zzh ?zze ?_); (case zzh => rfl); (case zze => first | (refine sz_lt ?_; simp; done) | (refine sz_lt ?_; simp; omega) | assumption); intro H hw; walk_at "nm") | ((with_reducible refine' w_app hw 3 ?zzh ?zze ?_); (case zzh => rfl); (case zze => first | (refine sz_lt ?_; simp; done) | (refine sz_lt ?_; simp; omega) | assumption); intro H hw; walk_at "nm") | ((with_reducible refine' w_app hw 4 ?zzh ?zze ?_); (case zzh => rfl); (case zze => first | (refine sz_lt ?_; simp; done) | (refine sz_lt ?_; simp; omega) | assumption); intro H hw; walk_at "nm") | ((with_reducible refine' x_callL ?zzh ?_); (case zzh => rfl)) | (with_reducible refine x_lens rfl rfl ?_) | ((with_reducible refine' x_sum ?zzh ?_); (case zzh => walk_at "sql")) | ((with_reducible refine' x_gU2 ?zzh ?_); (case zzh => walk_at "sql")) | ((with_reducible refine' x_gU3 ?zzh ?_); (case zzh => walk_at "sql")) | ((with_reducible refine' x_gStL1 hw ?zzh ?zze ?_); (case zzh => walk_at "sql"); (case zze => simp); intro p H hp hw) | ((with_reducible refine' x_take hw 0 ?zzh ?zzbx ?zze ?zze2 ?zze3 ?_); (case zzh => rfl); (case zzbx => assumption); (case zze => omega); (case zze2 => omega); (case zze3 => omega); intro r a c H hr0 hr1 bx hcc hw; walk_at "nm") | ((with_reducible refine' x_take hw 1 ?zzh ?zzbx ?zze ?zze2 ?zze3 ?_); (case zzh => rfl); (case zzbx => assumption); (case zze => omega); (case zze2 => omega); (case zze3 => omega); intro r a c H hr0 hr1 bx hcc hw; walk_at "nm") | ((with_reducible refine' x_take hw 2 ?zzh ?zzbx ?zze ?zze2 ?zze3 ?_); (case zzh => rfl); (case zzbx => assumption); (case zze => omega); (case zze2 => omega); (case zze3 => omega); intro r a c H hr0 hr1 bx hcc hw; walk_at "nm") | ((with_reducible refine' x_take hw 3 ?zzh ?zzbx ?zze ?zze2 ?zze3 ?_); (case zzh => rfl); (case zzbx => assumption); (case zze => omega); (case zze2 => omega); (case zze3 => omega); intro r a c H hr0 hr1 bx hcc hw; walk_at "nm") | ((with_reducible refine' x_take hw 4 ?zzh ?zzbx ?zze ?zze2 ?zze3 ?_); (case zzh => rfl); (case zzbx => assumption); (case zze => omega); (case zze2 => omega); (case zze3 => omega); intro r a c H hr0 hr1 bx hcc hw; walk_at "nm") | ((with_reducible refine' w_cat hw ?zzh1 ?zzh2 ?zze ?_); (case zzh1 => walk_at "lst"); (case zzh2 => walk_at "lst"); (case zze => first | exact szl rfl | (simp; omega)); intro p H hp hw) | ((with_reducible refine' w_rev hw ?zzh ?_); (case zzh => walk_at "sql"); intro p H hp hw) | ((with_reducible refine' w_disp hw ?_); intro p H hp hw) | ((with_reducible refine w_made hw ?_); intro v H hw) | ((with_reducible refine' w_dispEnd hw 0 ?zzh ?zze ?zze2 ?_); (case zzh => rfl); (case zze => rfl); (case zze2 => exact Nat.le_of_ble_eq_true rfl); intro H hw; walk_at "nm") | ((with_reducible refine' w_dispEnd hw 1 ?zzh ?zze ?zze2 ?_); (case zzh => rfl); (case zze => rfl); (case zze2 => exact Nat.le_of_ble_eq_true rfl); intro H hw; walk_at "nm") | ((with_reducible refine' w_dispEnd hw 2 ?zzh ?zze ?zze2 ?_); (case zzh => rfl); (case zze => rfl); (case zze2 => exact Nat.le_of_ble_eq_true rfl); intro H hw; walk_at "nm") | ((with_reducible refine' w_dispEnd hw 3 ?zzh ?zze ?zze2 ?_); (case zzh => rfl); (case zze => rfl); (case zze2 => exact Nat.le_of_ble_eq_true rfl); intro H hw; walk_at "nm") | ((with_reducible refine' w_update (n := 1) (m := 0) hw ?zzh ?zzh2 (by decide) ?zze ?_); (case zzh => rfl); (case zzh2 => rfl); (case zze => exact Nat.le_of_ble_eq_true rfl); intro H hw; walk_at "nm") | ((with_reducible refine' w_update (n := 0) (m := 1) hw ?zzh ?zzh2 (by decide) ?zze ?_); (case zzh => rfl); (case zzh2 => rfl); (case zze => exact Nat.le_of_ble_eq_true rfl); intro H hw; walk_at "nm") | ((with_reducible refine' w_update (n := 2) (m := 0) hw ?zzh ?zzh2 (by decide) ?zze ?_); (case zzh => rfl); (case zzh2 => rfl); (case zze => exact Nat.le_of_ble_eq_true rfl); intro H hw; walk_at "nm") | (with_reducible refine x_isiI (b := true) (by decide +kernel) ?_) | (with_reducible refine x_isiB (b := true) (by decide +kernel) ?_) | (with_reducible refine x_isiS (b := true) (by decide +kernel) ?_) | (with_reducible refine x_isiN (b := true) (by decide +kernel) ?_) | (with_reducible refine x_isiI (b := false) (by decide +kernel) ?_) | (with_reducible refine x_isiB (b := false) (by decide +kernel) ?_) | (with_reducible refine x_isiS (b := false) (by decide +kernel) ?_) | (with_reducible refine x_isiN (b := false) (by decide +kernel) ?_) | ((with_reducible refine' x_eqIL ?zzh1 ?zzh2 ?_); (case zzh1 => walk_at "lst"); (case zzh2 => walk_at "lst")) | ((with_reducible refine' x_neIL ?zzh1 ?zzh2 ?_); (case zzh1 => walk_at "lst"); (case zzh2 => walk_at "lst")) | ((with_reducible refine' x_tyL ?zzh ?_); (case zzh => walk_at "lst")) | ((with_reducible refine' x_tyD ?zzh ?_); (case zzh => walk_at "lst")) | ((with_reducible refine' w_append (n := 0) hw ?zzh ?zze ?_); (case zzh => rfl); (case zze => first | (refine sz_lt ?_; simp; done) | (refine sz_lt ?_; simp; omega) | assumption); intro H hw; walk_at "nm") | ((with_reducible refine' w_append (n := 1) hw ?zzh ?zze ?_); (case zzh => rfl); (case zze => first | (refine sz_lt ?_; simp; done) | (refine sz_lt ?_; simp; omega) | assumption); intro H hw; walk_at "nm") | ((with_reducible refine' w_append (n := 2) hw ?zzh ?zze ?_); (case zzh => rfl); (case zze => first | (refine sz_lt ?_; simp; done) | (refine sz_lt ?_; simp; omega) | assumption); intro H hw; walk_at "nm") | ((with_reducible refine' w_append (n := 3) hw ?zzh ?zze ?_); (case zzh => rfl); (case zze => first | (refine sz_lt ?_; simp; done) | (refine sz_lt ?_; simp; omega) | assumption); intro H hw; walk_at "nm") | ((with_reducible refine' x_dgetS ?zzh ?zze ?_); (case zzh => walk_at "lst"); (case zze => rfl)) | ((with_reducible refine x_ifP (by first | omega | exact rfl) ?_)) | ((with_reducible refine x_ifN (by omega) ?_)) | ((with_reducible refine x_ifnP (by first | omega | exact rfl) ?_)) | ((with_reducible refine x_ifnN (by omega) ?_)) | (with_reducible refine x_ifbT (by decide +kernel) ?_) | (with_reducible refine x_ifbF (by decide +kernel) ?_))))
local macro_rules | `(tactic| walk_at "sxd") => `(tactic| (repeat (first | ((with_reducible refine' x_var ?zzh ?_); (case zzh => rfl)) | with_reducible refine x_truB ?_ | with_reducible refine x_gSub ?_ | with_reducible refine x_iEnumK ?_ | with_reducible refine x_iZipS ?_ | with_reducible refine x_made ?_ | with_reducible refine x_orT ?_ | with_reducible refine x_inSign ?_ | with_reducible refine x_fldOf ?_ | with_reducible refine x_mkO ?_ | with_reducible refine x_callNS ?_ | with_reducible refine x_callS ?_ | with_reducible refine x_bm ?_ | with_reducible refine x_bm0 ?_ | with_reducible refine x_tyS ?_ | with_reducible refine x_pairs ?_ | with_reducible refine x_pairs0 ?_ | with_reducible refine x_rev ?_ | with_reducible refine x_chain ?_ | ((with_reducible refine g_nx ?_); with_reducible refine x_nx ?_) | with_reducible refine x_seq ?_ | with_reducible refine x_op ?_ | with_reducible refine x_cons ?_ | with_reducible refine x_nil ?_ | with_reducible refine x_c ?_ | with_reducible refine x_set ?_ | with_reducible refine x_ret ?_ | ((with_reducible refine g_rt ?_); with_reducible refine x_rt ?_) | with_reducible refine x_cb ?_ | with_reducible refine x_call ?_ | with_reducible refine x_test ?_ | with_reducible refine x_B ?_ | with_reducible refine x_ifS ?_ | with_reducible refine x_if ?_ | with_reducible refine x_and ?_ | with_reducible refine x_or ?_ | with_reducible refine x_not ?_ | with_reducible refine x_andV ?_ | with_reducible refine x_orV ?_ | with_reducible refine x_notV ?_ | with_reducible refine x_un ?_ | with_reducible refine x_asgS ?_ | with_reducible refine x_asgT ?_ | with_reducible refine x_asgG ?_ | with_reducible refine x_drop ?_ | with_reducible refine x_next ?_ | with_reducible refine x_par ?_ | with_reducible refine x_par3 ?_ | with_reducible refine x_is2 ?_ | with_reducible refine x_is3 ?_ | with_reducible refine x_sl ?_ | with_reducible refine x_nopart ?_ | with_reducible refine x_part ?_ | with_reducible refine x_isint ?_ | with_reducible refine x_isbl ?_ | with_reducible refine x_addI ?_ | with_reducible refine x_rI0 ?_ | with_reducible refine x_rU ?_ | with_reducible refine x_isNI ?_ | with_reducible refine x_isNS ?_ | with_reducible refine x_isNB ?_ | with_reducible refine x_isNR ?_ | with_reducible refine x_isNN ?_ | with_reducible refine x_isNotNI ?_ | with_reducible refine x_isNotNS ?_ | with_reducible refine x_isNotNB ?_ | with_reducible refine x_isNotNR ?_ | with_reducible refine x_isNotNN ?_ | with_reducible refine x_eqR rfl ?_ | with_reducible refine x_neR rfl ?_ | with_reducible refine x_eqI ?_ | with_reducible refine x_neI ?_ | with_reducible refine x_eqStr ?_ | with_reducible refine x_neStr ?_ | with_reducible refine x_eqB ?_ | with_reducible refine x_neB ?_ | with_reducible refine x_isN ?_ | with_reducible refine x_isNotN ?_ | with_reducible refine x_isB ?_ | with_reducible refine x_isNotB ?_ | with_reducible refine x_minM ?_ | with_reducible refine x_maxM ?_ | with_reducible refine x_ifT ?_ | with_reducible refine x_ifF ?_ | with_reducible refine x_ifnT ?_ | with_reducible refine x_ifnF ?_ | with_reducible refine x_lst ?_ | with_reducible refine x_tup ?_ | with_reducible refine x_abs ?_ | with_reducible refine x_intI ?_ | with_reducible refine x_intB ?_ | with_reducible refine x_callN ?_ | with_reducible refine x_dget ?_ | with_reducible refine x_gName ?_ | with_reducible refine x_gCons ?_ | with_reducible refine x_gNil ?_ | with_reducible refine x_forK ?_ | with_reducible refine x_lc ?_ | with_reducible refine x_yes ?_ | with_reducible refine x_iU ?_ | with_reducible refine x_itS ?_ | with_reducible refine x_iList ?_ | with_reducible refine x_iTup ?_ | with_reducible refine x_iRng1 ?_ | with_reducible refine x_iRng2 ?_ | with_reducible refine x_iEnum ?_ | with_reducible refine x_iZip ?_ | with_reducible refine x_brk ?_ | with_reducible refine x_cont ?_ | ((with_reducible refine g_ct ?_); with_reducible refine x_ct ?_) | ((with_reducible refine g_bk ?_); with_reducible refine x_bk ?_) | ((with_reducible refine' x_aug ?zzh ?_); (case zzh => rfl)) | with_reducible refine x_ipI ?_ | ((with_reducible refine x_eqS ?zzh ?_); (case zzh => rfl)) | ((with_reducible refine x_neS ?zzh ?_); (case zzh => rfl)) | ((with_reducible refine x_mulI ?zzh ?_); (case zzh => first | exact .inl ⟨by omega, by omega⟩ | exact .inr ⟨by omega, by omega⟩)) | ((with_reducible refine x_rI ?zzh ?_); (case zzh => first | omega | exact ⟨by omega, by omega⟩ | exact ⟨by omega, by omega, by omega⟩)) | ((with_reducible refine' x_ixL ?zzh ?zze ?_); (case zzh => walk_at "sql"); (case zze => (first | rfl | assumption | exact atI_nat rfl | (simp; done)))) | ((with_reducible refine' x_lenL ?zzh ?_); (case zzh => walk_at "sql")) | ((with_reducible refine' w_setL hw 0 ?zzh ?zze ?_); (case zzh => rfl); (case zze => first | rfl | assumption); intro H hw; walk_at "nm") | ((with_reducible refine' w_setL hw 1 ?zzh ?zze ?_); (case zzh => rfl); (case zze => first | rfl | assumption); intro H hw; walk_at "nm") | ((with_reducible refine' w_setL hw 2 ?zzh ?zze ?_); (case zzh => rfl); (case zze => first | rfl | assumption); intro H hw; walk_at "nm") | ((with_reducible refine' w_setL hw 3 ?zzh ?zze ?_); (case zzh => rfl); (case zze => first | rfl | assumption); intro H hw; walk_at "nm") | ((with_reducible refine' w_setL hw 4 ?zzh ?zze ?_); (case zzh => rfl); (case zze => first | rfl | assumption); intro H hw; walk_at "nm") | ((with_reducible refine' w_setL hw 5 ?zzh ?zze ?_); (case zzh => rfl); (case zze => first | rfl | assumption); intro H hw; walk_at "nm") | ((with_reducible refine' w_lstD hw ?zzd ?zze ?_); (case zzd => walk_at "dd"); (case zze => exact szl rfl); intro p H hp hw) | ((with_reducible refine' w_tupD hw ?zzd ?zze ?_); (case zzd => walk_at "dd"); (case zze => exact szl rfl); intro p H hp hw) | ((with_reducible refine' x_inT ?zzh ?zze ?zze2 ?_); (case zzh => walk_at "sqt"); (case zze => rfl); (case zze2 => rfl)) | ((with_reducible refine' x_inL ?zzh ?zze ?zze2 ?_); (case zzh => walk_at "sql"); (case zze => rfl); (case zze2 => rfl)) | ((with_reducible refine' x_notInT ?zzh ?zze ?zze2 ?_); (case zzh => walk_at "sqt"); (case zze => rfl); (case zze2 => rfl)) | ((with_reducible refine' x_notInL ?zzh ?zze ?zze2 ?_); (case zzh => walk_at "sql"); (case zze => rfl); (case zze2 => rfl)) | ((with_reducible refine' x_ixT ?zzh ?zze ?_); (case zzh => walk_at "sqt"); (case zze => (first | rfl | assumption | exact atI_nat rfl | (simp; done)))) | ((with_reducible refine' w_slL hw ?zzh ?_); (case zzh => walk_at "sql"); intro p H hp hw) | ((with_reducible refine' w_listL hw ?zzh ?_); (case zzh => walk_at "sql"); intro p H hp hw) | ((with_reducible refine' x_itL ?zzh ?_); (case zzh => walk_at "sql")) | ((with_reducible refine' x_itT ?zzh ?_); (case zzh => walk_at "sqt")) | ((with_reducible refine' x_iL ?zzh ?_); (case zzh => walk_at "sql")) | ((with_reducible refine' x_en ?zzh ?_); (case zzh => walk_at "sql")) | ((with_reducible refine x_rng1 ?zzh1 ?zzh2 ?_); (case zzh1 => first | omega | (simp only [List.length_map]; omega)); (case zzh2 => first | omega | (simp only [List.length_map]; omega))) | ((with_reducible refine x_rng2 ?zzh ?_); (case zzh => first | exact ⟨by omega, by omega, by omega, by omega⟩)) | ((with_reducible refine' x_gTup ?zzh ?zze ?_); (case zzh => walk_at "sqt"); (case zze => rfl)) | (with_reducible refine x_wipe rfl ?_) | ((with_reducible refine' w_app hw 0 ?zzh ?zze ?_); (case zzh => rfl); (case zze => first | (refine sz_lt ?_; simp; done) | (refine sz_lt ?_; simp; omega) | assumption); intro H hw; walk_at "nm") | ((with_reducible refine' w_app hw 1 ?zzh ?zze ?_); (case zzh => rfl); (case zze => first | (refine sz_lt ?_; simp; done) | (refine sz_lt ?_; simp; omega) | assumption); intro H hw; walk_at "nm") | ((with_reducible refine' w_app hw 2 ?zzh ?zze ?_); (case zzh => rfl); (case zze => first | (refine sz_lt ?_; simp; done) | (refine sz_lt ?_; simp; omega) | assumption); intro H hw; walk_at "nm") | ((with_reducible refine' w_app hw 3 ?zzh ?zze ?_); (case zzh => rfl); (case zze => first | (refine sz_lt ?_; simp; done) | (refine sz_lt ?_; simp; omega) | assumption); intro H hw; walk_at "nm") | ((with_reducible refine' w_app hw 4 ?zzh ?zze ?_); (case zzh => rfl); (case zze => first | (refine sz_lt ?_; simp; done) | (refine sz_lt ?_; simp; omega) | assumption); intro H hw; walk_at "nm") | ((with_reducible refine' x_callL ?zzh ?_); (case zzh => rfl)) | (with_reducible refine x_lens rfl rfl ?_) | ((with_reducible refine' x_sum ?zzh ?_); (case zzh => walk_at "sql")) | ((with_reducible refine' x_gU2 ?zzh ?_); (case zzh => walk_at "sql")) | ((with_reducible refine' x_gU3 ?zzh ?_); (case zzh => walk_at "sql")) | ((with_reducible refine' x_gStL1 hw ?zzh ?zze ?_); (case zzh => walk_at "sql"); (case zze => simp); intro p H hp hw) | ((with_reducible refine' x_take hw 0 ?zzh ?zzbx ?zze ?zze2 ?zze3 ?_); (case zzh => rfl); (case zzbx => assumption); (case zze => omega); (case zze2 => omega); (case zze3 => omega); intro r a c H hr0 hr1 bx hcc hw; walk_at "nm") | ((with_reducible refine' x_take hw 1 ?zzh ?zzbx ?zze ?zze2 ?zze3 ?_); (case zzh => rfl); (case zzbx => assumption); (case zze => omega); (case zze2 => omega); (case zze3 => omega); intro r a c H hr0 hr1 bx hcc hw; walk_at "nm") | ((with_reducible refine' x_take hw 2 ?zzh ?zzbx ?zze ?zze2 ?zze3 ?_); (case zzh => rfl); (case zzbx => assumption); (case zze => omega); (case zze2 => omega); (case zze3 => omega); intro r a c H hr0 hr1 bx hcc hw; walk_at "nm") | ((with_reducible refine' x_take hw 3 ?zzh ?zzbx ?zze ?zze2 ?zze3 ?_); (case zzh => rfl); (case zzbx => assumption); (case zze => omega); (case zze2 => omega); (case zze3 => omega); intro r a c H hr0 hr1 bx hcc hw; walk_at "nm") | ((with_reducible refine' x_take hw 4 ?zzh ?zzbx ?zze ?zze2 ?zze3 ?_); (case zzh => rfl); (case zzbx => assumption); (case zze => omega); (case zze2 => omega); (case zze3 => omega); intro r a c H hr0 hr1 bx hcc hw; walk_at "nm") | ((with_reducible refine' w_catD hw ?zzh1 ?zzh2 ?zze ?_); (case zzh1 => walk_at "dd"); (case zzh2 => walk_at "dd"); (case zze => exact szl rfl); intro p H hp hw) | ((with_reducible refine' w_cat hw ?zzh1 ?zzh2 ?zze ?_); (case zzh1 => walk_at "lst"); (case zzh2 => walk_at "lst"); (case zze => first | exact szl rfl | (simp; omega)); intro p H hp hw) | ((with_reducible refine' w_rev hw ?zzh ?_); (case zzh => walk_at "sql"); intro p H hp hw) | ((with_reducible refine' w_disp hw ?_); intro p H hp hw) | ((with_reducible refine w_made hw ?_); intro v H hw) | ((with_reducible refine' w_dispEnd hw 0 ?zzh ?zze ?zze2 ?_); (case zzh => rfl); (case zze => rfl); (case zze2 => exact Nat.le_of_ble_eq_true rfl); intro H hw; walk_at "nm") | ((with_reducible refine' w_dispEnd hw 1 ?zzh ?zze ?zze2 ?_); (case zzh => rfl); (case zze => rfl); (case zze2 => exact Nat.le_of_ble_eq_true rfl); intro H hw; walk_at "nm") | ((with_reducible refine' w_dispEnd hw 2 ?zzh ?zze ?zze2 ?_); (case zzh => rfl); (case zze => rfl); (case zze2 => exact Nat.le_of_ble_eq_true rfl); intro H hw; walk_at "nm") | ((with_reducible refine' w_dispEnd hw 3 ?zzh ?zze ?zze2 ?_); (case zzh => rfl); (case zze => rfl); (case zze2 => exact Nat.le_of_ble_eq_true rfl); intro H hw; walk_at "nm") | ((with_reducible refine' w_update (n := 1) (m := 0) hw ?zzh ?zzh2 (by decide) ?zze ?_); (case zzh => rfl); (case zzh2 => rfl); (case zze => exact Nat.le_of_ble_eq_true rfl); intro H hw; walk_at "nm") | ((with_reducible refine' w_update (n := 0) (m := 1) hw ?zzh ?zzh2 (by decide) ?zze ?_); (case zzh => rfl); (case zzh2 => rfl); (case zze => exact Nat.le_of_ble_eq_true rfl); intro H hw; walk_at "nm") | ((with_reducible refine' w_update (n := 2) (m := 0) hw ?zzh ?zzh2 (by decide) ?zze ?_); (case zzh => rfl); (case zzh2 => rfl); (case zze => exact Nat.le_of_ble_eq_true rfl); intro H hw; walk_at "nm") | (with_reducible refine x_isiI (b := true) (by decide +kernel) ?_) | (with_reducible refine x_isiB (b := true) (by decide +kernel) ?_) | (with_reducible refine x_isiS (b := true) (by decide +kernel) ?_) | (with_reducible refine x_isiN (b := true) (by decide +kernel) ?_) | (with_reducible refine x_isiI (b := false) (by decide +kernel) ?_) | (with_reducible refine x_isiB (b := false) (by decide +kernel) ?_) | (with_reducible refine x_isiS (b := false) (by decide +kernel) ?_) | (with_reducible refine x_isiN (b := false) (by decide +kernel) ?_) | ((with_reducible refine' x_eqIL ?zzh1 ?zzh2 ?_); (case zzh1 => walk_at "lst"); (case zzh2 => walk_at "lst")) | ((with_reducible refine' x_neIL ?zzh1 ?zzh2 ?_); (case zzh1 => walk_at "lst"); (case zzh2 => walk_at "lst")) | ((with_reducible refine' x_tyL ?zzh ?_); (case zzh => walk_at "lst")) | ((with_reducible refine' x_tyD ?zzh ?_); (case zzh => walk_at "lst")) | ((with_reducible refine' w_append (n := 0) hw ?zzh ?zze ?_); (case zzh => rfl); (case zze => first | (refine sz_lt ?_; simp; done) | (refine sz_lt ?_; simp; omega) | assumption); intro H hw; walk_at "nm") | ((with_reducible refine' w_append (n := 1) hw ?zzh ?zze ?_); (case zzh => rfl); (case zze => first | (refine sz_lt ?_; simp; done) | (refine sz_lt ?_; simp; omega) | assumption); intro H hw; walk_at "nm") | ((with_reducible refine' w_append (n := 2) hw ?zzh ?zze ?_); (case zzh => rfl); (case zze => first | (refine sz_lt ?_; simp; done) | (refine sz_lt ?_; simp; omega) | assumption); intro H hw; walk_at "nm") | ((with_reducible refine' w_append (n := 3) hw ?zzh ?zze ?_); (case zzh => rfl); (case zze => first | (refine sz_lt ?_; simp; done) | (refine sz_lt ?_; simp; omega) | assumption); intro H hw; walk_at "nm") | ((with_reducible refine' x_dgetS ?zzh ?zze ?_); (case zzh => walk_at "lst"); (case zze => rfl)) | ((with_reducible refine x_ifP (by first | omega | exact rfl) ?_)) | ((with_reducible refine x_ifN (by omega) ?_)) | ((with_reducible refine x_ifnP (by first | omega | exact rfl) ?_)) | ((with_reducible refine x_ifnN (by omega) ?_)) | (with_reducible refine x_ifbT (by decide +kernel) ?_) | (with_reducible refine x_ifbF (by decide +kernel) ?_))))
local macro_rules | `(tactic| walk_at "sxp") => `(tactic| (repeat (first | ((with_reducible refine' x_var ?zzh ?_); (case zzh => rfl)) | with_reducible refine x_truB ?_ | with_reducible refine x_gSub ?_ | with_reducible refine x_iEnumK ?_ | with_reducible refine x_iZipS ?_ | with_reducible refine x_made ?_ | with_reducible refine x_orT ?_ | with_reducible refine x_inSign ?_ | with_reducible refine x_fldOf ?_ | with_reducible refine x_mkO ?_ | with_reducible refine x_callNS ?_ | with_reducible refine x_callS ?_ | with_reducible refine x_bm ?_ | with_reducible refine x_bm0 ?_ | with_reducible refine x_tyS ?_ | with_reducible refine x_pairs ?_ | with_reducible refine x_pairs0 ?_ | with_reducible refine x_rev ?_ | with_reducible refine x_chain ?_ | ((with_reducible refine g_nx ?_); with_reducible refine x_nx ?_) | with_reducible refine x_seq ?_ | with_reducible refine x_op ?_ | with_reducible refine x_cons ?_ | with_reducible refine x_nil ?_ | with_reducible refine x_c ?_ | with_reducible refine x_set ?_ | with_reducible refine x_ret ?_ | ((with_reducible refine g_rt ?_); with_reducible refine x_rt ?_) | with_reducible refine x_cb ?_ | with_reducible refine x_call ?_ | with_reducible refine x_test ?_ | with_reducible refine x_B ?_ | with_reducible refine x_ifS ?_ | with_reducible refine x_if ?_ | with_reducible refine x_and ?_ | with_reducible refine x_or ?_ | with_reducible refine x_not ?_ | with_reducible refine x_andV ?_ | with_reducible refine x_orV ?_ | with_reducible refine x_notV ?_ | with_reducible refine x_un ?_ | with_reducible refine x_asgS ?_ | with_reducible refine x_asgT ?_ | with_reducible refine x_asgG ?_ | with_reducible refine x_drop ?_ | with_reducible refine x_next ?_ | with_reducible refine x_par ?_ | with_reducible refine x_par3 ?_ | with_reducible refine x_is2 ?_ | with_reducible refine x_is3 ?_ | with_reducible refine x_sl ?_ | with_reducible refine x_nopart ?_ | with_reducible refine x_part ?_ | with_reducible refine x_isint ?_ | with_reducible refine x_isbl ?_ | with_reducible refine x_addI ?_ | with_reducible refine x_rI0 ?_ | with_reducible refine x_rU ?_ | with_reducible refine x_isNI ?_ | with_reducible refine x_isNS ?_ | with_reducible refine x_isNB ?_ | with_reducible refine x_isNR ?_ | with_reducible refine x_isNN ?_ | with_reducible refine x_isNotNI ?_ | with_reducible refine x_isNotNS ?_ | with_reducible refine x_isNotNB ?_ | with_reducible refine x_isNotNR ?_ | with_reducible refine x_isNotNN ?_ | with_reducible refine x_eqR rfl ?_ | with_reducible refine x_neR rfl ?_ | with_reducible refine x_eqI ?_ | with_reducible refine x_neI ?_ | with_reducible refine x_eqStr ?_ | with_reducible refine x_neStr ?_ | with_reducible refine x_eqB ?_ | with_reducible refine x_neB ?_ | with_reducible refine x_isN ?_ | with_reducible refine x_isNotN ?_ | with_reducible refine x_isB ?_ | with_reducible refine x_isNotB ?_ | with_reducible refine x_minM ?_ | with_reducible refine x_maxM ?_ | with_reducible refine x_ifT ?_ | with_reducible refine x_ifF ?_ | with_reducible refine x_ifnT ?_ | with_reducible refine x_ifnF ?_ | with_reducible refine x_lst ?_ | with_reducible refine x_tup ?_ | with_reducible refine x_abs ?_ | with_reducible refine x_intI ?_ | with_reducible refine x_intB ?_ | with_reducible refine x_callN ?_ | with_reducible refine x_dget ?_ | with_reducible refine x_gName ?_ | with_reducible refine x_gCons ?_ | with_reducible refine x_gNil ?_ | with_reducible refine x_forK ?_ | with_reducible refine x_lc ?_ | with_reducible refine x_yes ?_ | with_reducible refine x_iU ?_ | with_reducible refine x_itS ?_ | with_reducible refine x_iList ?_ | with_reducible refine x_iTup ?_ | with_reducible refine x_iRng1 ?_ | with_reducible refine x_iRng2 ?_ | with_reducible refine x_iEnum ?_ | with_reducible refine x_iZip ?_ | with_reducible refine x_brk ?_ | with_reducible refine x_cont ?_ | ((with_reducible refine g_ct ?_); with_reducible refine x_ct ?_) | ((with_reducible refine g_bk ?_); with_reducible refine x_bk ?_) | ((with_reducible refine' x_aug ?zzh ?_); (case zzh => rfl)) | with_reducible refine x_ipI ?_ | ((with_reducible refine x_eqS ?zzh ?_); (case zzh => rfl)) | ((with_reducible refine x_neS ?zzh ?_); (case zzh => rfl)) | ((with_reducible refine x_mulI ?zzh ?_); (case zzh => first | exact .inl ⟨by omega, by omega⟩ | exact .inr ⟨by omega, by omega⟩)) | ((with_reducible refine x_rI ?zzh ?_); (case zzh => first | omega | exact ⟨by omega, by omega⟩ | exact ⟨by omega, by omega, by omega⟩)) | ((with_reducible refine' x_ixL ?zzh ?zze ?_); (case zzh => walk_at "sql"); (case zze => (first | rfl | assumption | exact atI_nat rfl | (simp; done)))) | ((with_reducible refine' x_lenL ?zzh ?_); (case zzh => walk_at "sql")) | ((with_reducible refine' w_setL hw 0 ?zzh ?zze ?_); (case zzh => rfl); (case zze => first | rfl | assumption); intro H hw; walk_at "nm") | ((with_reducible refine' w_setL hw 1 ?zzh ?zze ?_); (case zzh => rfl); (case zze => first | rfl | assumption); intro H hw; walk_at "nm") | ((with_reducible refine' w_setL hw 2 ?zzh ?zze ?_); (case zzh => rfl); (case zze => first | rfl | assumption); intro H hw; walk_at "nm") | ((with_reducible refine' w_setL hw 3 ?zzh ?zze ?_); (case zzh => rfl); (case zze => first | rfl | assumption); intro H hw; walk_at "nm") | ((with_reducible refine' w_setL hw 4 ?zzh ?zze ?_); (case zzh => rfl); (case zze => first | rfl | assumption); intro H hw; walk_at "nm") | ((with_reducible refine' w_setL hw 5 ?zzh ?zze ?_); (case zzh => rfl); (case zze => first | rfl | assumption); intro H hw; walk_at "nm") | ((with_reducible refine w_lst hw (by first | exact szl rfl | assumption) ?_); intro p H hp hw) | ((with_reducible refine w_tupC hw (by first | exact szl rfl | assumption) ?_); intro p H hp hw) | ((with_reducible refine' x_inT ?zzh ?zze ?zze2 ?_); (case zzh => walk_at "sqt"); (case zze => rfl); (case zze2 => rfl)) | ((with_reducible refine' x_inL ?zzh ?zze ?zze2 ?_); (case zzh => walk_at "sql"); (case zze => rfl); (case zze2 => rfl)) | ((with_reducible refine' x_notInT ?zzh ?zze ?zze2 ?_); (case zzh => walk_at "sqt"); (case zze => rfl); (case zze2 => rfl)) | ((with_reducible refine' x_notInL ?zzh ?zze ?zze2 ?_); (case zzh => walk_at "sql"); (case zze => rfl); (case zze2 => rfl)) | ((with_reducible refine' x_ixT ?zzh ?zze ?_); (case zzh => walk_at "sqt"); (case zze => (first | rfl | assumption | exact atI_nat rfl | (simp; done)))) | ((with_reducible refine' w_slL hw ?zzh ?_); (case zzh => walk_at "sql"); intro p H hp hw) | ((with_reducible refine' w_listL hw ?zzh ?_); (case zzh => walk_at "sql"); intro p H hp hw) | ((with_reducible refine' x_itL ?zzh ?_); (case zzh => walk_at "sql")) | ((with_reducible refine' x_itT ?zzh ?_); (case zzh => walk_at "sqt")) | ((with_reducible refine' x_iL ?zzh ?_); (case zzh => walk_at "sql")) | ((with_reducible refine' x_en ?zzh ?_); (case zzh => walk_at "sql")) | ((with_reducible refine x_rng1 ?zzh1 ?zzh2 ?_); (case zzh1 => first | omega | (simp only [List.length_map]; omega)); (case zzh2 => first | omega | (simp only [List.length_map]; omega))) | ((with_reducible refine x_rng2 ?zzh ?_); (case zzh => first | exact ⟨by omega, by omega, by omega, by omega⟩)) | ((with_reducible refine' x_gTup ?zzh ?zze ?_); (case zzh => walk_at "sqt"); (case zze => rfl)) | (with_reducible refine x_wipe rfl ?_) | ((with_reducible refine' w_app hw 0 ?zzh ?zze ?_); (case zzh => rfl); (case zze => first | (refine sz_lt ?_; simp; done) | (refine sz_lt ?_; simp; omega) | assumption); intro H hw; walk_at "nm") | ((with_reducible refine' w_app hw 1 ?zzh ?zze ?_); (case zzh => rfl); (case zze => first | (refine sz_lt ?_; simp; done) | (refine sz_lt ?_; simp; omega) | assumption); intro H hw; walk_at "nm") | ((with_reducible refine' w_app hw 2 ?zzh ?zze ?_); (case zzh => rfl); (case zze => first | (refine sz_lt ?_; simp; done) | (refine sz_lt ?_; simp; omega) | assumption); intro H hw; walk_at "nm") | ((with_reducible refine' w_app hw 3 ?zzh ?zze ?_); (case zzh => rfl); (case zze => first | (refine sz_lt ?_; simp; done) | (refine sz_lt ?_; simp; omega) | assumption); intro H hw; walk_at "nm") | ((with_reducible refine' w_app hw 4 ?zzh ?zze ?_); (case zzh => rfl); (case zze => first | (refine sz_lt ?_; simp; done) | (refine sz_lt ?_; simp; omega) | assumption); intro H hw; walk_at "nm") | ((with_reducible refine' x_callL ?zzh ?_); (case zzh => rfl)) | (with_reducible refine x_lens rfl rfl ?_) | ((with_reducible refine' x_sum ?zzh ?_); (case zzh => walk_at "sql")) | ((with_reducible refine' x_gU2 ?zzh ?_); (case zzh => walk_at "sql")) | ((with_reducible refine' x_gU3 ?zzh ?_); (case zzh => walk_at "sql")) | ((with_reducible refine' x_gStL1 hw ?zzh ?zze ?_); (case zzh => walk_at "sql"); (case zze => simp); intro p H hp hw) | ((with_reducible refine' x_take hw 0 ?zzh ?zzbx ?zze ?zze2 ?zze3 ?_); (case zzh => rfl); (case zzbx => assumption); (case zze => omega); (case zze2 => omega); (case zze3 => omega); intro r a c H hr0 hr1 bx hcc hw; walk_at "nm") | ((with_reducible refine' x_take hw 1 ?zzh ?zzbx ?zze ?zze2 ?zze3 ?_); (case zzh => rfl); (case zzbx => assumption); (case zze => omega); (case zze2 => omega); (case zze3 => omega); intro r a c H hr0 hr1 bx hcc hw; walk_at "nm") | ((with_reducible refine' x_take hw 2 ?zzh ?zzbx ?zze ?zze2 ?zze3 ?_); (case zzh => rfl); (case zzbx => assumption); (case zze => omega); (case zze2 => omega); (case zze3 => omega); intro r a c H hr0 hr1 bx hcc hw; walk_at "nm") | ((with_reducible refine' x_take hw 3 ?zzh ?zzbx ?zze ?zze2 ?zze3 ?_); (case zzh => rfl); (case zzbx => assumption); (case zze => omega); (case zze2 => omega); (case zze3 => omega); intro r a c H hr0 hr1 bx hcc hw; walk_at "nm") | ((with_reducible refine' x_take hw 4 ?zzh ?zzbx ?zze ?zze2 ?zze3 ?_); (case zzh => rfl); (case zzbx => assumption); (case zze => omega); (case zze2 => omega); (case zze3 => omega); intro r a c H hr0 hr1 bx hcc hw; walk_at "nm") | ((with_reducible refine' w_cat hw ?zzh1 ?zzh2 ?zze ?_); (case zzh1 => walk_at "lst"); (case zzh2 => walk_at "lst"); (case zze => first | exact szl rfl | (simp; omega)); intro p H hp hw) | ((with_reducible refine' w_rev hw ?zzh ?_); (case zzh => walk_at "sql"); intro p H hp hw) | ((with_reducible refine' w_disp hw ?_); intro p H hp hw) | ((with_reducible refine w_made hw ?_); intro v H hw) | ((with_reducible refine' w_dispEnd hw 0 ?zzh ?zze ?zze2 ?_); (case zzh => rfl); (case zze => rfl); (case zze2 => exact Nat.le_of_ble_eq_true rfl); intro H hw; walk_at "nm") | ((with_reducible refine' w_dispEnd hw 1 ?zzh ?zze ?zze2 ?_); (case zzh => rfl); (case zze => rfl); (case zze2 => exact Nat.le_of_ble_eq_true rfl); intro H hw; walk_at "nm") | ((with_reducible refine' w_dispEnd hw 2 ?zzh ?zze ?zze2 ?_); (case zzh => rfl); (case zze => rfl); (case zze2 => exact Nat.le_of_ble_eq_true rfl); intro H hw; walk_at "nm") | ((with_reducible refine' w_dispEnd hw 3 ?zzh ?zze ?zze2 ?_); (case zzh => rfl); (case zze => rfl); (case zze2 => exact Nat.le_of_ble_eq_true rfl); intro H hw; walk_at "nm") | ((with_reducible refine' w_update (n := 1) (m := 0) hw ?zzh ?zzh2 (by decide) ?zze ?_); (case zzh => rfl); (case zzh2 => rfl); (case zze => exact Nat.le_of_ble_eq_true rfl); intro H hw; walk_at "nm") | ((with_reducible refine' w_update (n := 0) (m := 1) hw ?zzh ?zzh2 (by decide) ?zze ?_); (case zzh => rfl); (case zzh2 => rfl); (case zze => exact Nat.le_of_ble_eq_true rfl); intro H hw; walk_at "nm") | ((with_reducible refine' w_update (n := 2) (m := 0) hw ?zzh ?zzh2 (by decide) ?zze ?_); (case zzh => rfl); (case zzh2 => rfl); (case zze => exact Nat.le_of_ble_eq_true rfl); intro H hw; walk_at "nm") | (with_reducible refine x_isiI (b := true) (by decide +kernel) ?_) | (with_reducible refine x_isiB (b := true) (by decide +kernel) ?_) | (with_reducible refine x_isiS (b := true) (by decide +kernel) ?_) | (with_reducible refine x_isiN (b := true) (by decide +kernel) ?_) | (with_reducible refine x_isiI (b := false) (by decide +kernel) ?_) | (with_reducible refine x_isiB (b := false) (by decide +kernel) ?_) | (with_reducible refine x_isiS (b := false) (by decide +kernel) ?_) | (with_reducible refine x_isiN (b := false) (by decide +kernel) ?_) | ((with_reducible refine' x_eqIL ?zzh1 ?zzh2 ?_); (case zzh1 => walk_at "lst"); (case zzh2 => walk_at "lst")) | ((with_reducible refine' x_neIL ?zzh1 ?zzh2 ?_); (case zzh1 => walk_at "lst"); (case zzh2 => walk_at "lst")) | ((with_reducible refine' x_tyL ?zzh ?_); (case zzh => walk_at "lst")) | ((with_reducible refine' x_tyD ?zzh ?_); (case zzh => walk_at "lst")) | ((with_reducible refine' w_append (n := 0) hw ?zzh ?zze ?_); (case zzh => rfl); (case zze => first | (refine sz_lt ?_; simp; done) | (refine sz_lt ?_; simp; omega) | assumption); intro H hw; walk_at "nm") | ((with_reducible refine' w_append (n := 1) hw ?zzh ?zze ?_); (case zzh => rfl); (case zze => first | (refine sz_lt ?_; simp; done) | (refine sz_lt ?_; simp; omega) | assumption); intro H hw; walk_at "nm") | ((with_reducible refine' w_append (n := 2) hw ?zzh ?zze ?_); (case zzh => rfl); (case zze => first | (refine sz_lt ?_; simp; done) | (refine sz_lt ?_; simp; omega) | assumption); intro H hw; walk_at "nm") | ((with_reducible refine' w_append (n := 3) hw ?zzh ?zze ?_); (case zzh => rfl); (case zze => first | (refine sz_lt ?_; simp; done) | (refine sz_lt ?_; simp; omega) | assumption); intro H hw; walk_at "nm") | ((with_reducible refine' x_dgetS ?zzh ?zze ?_); (case zzh => walk_at "lst"); (case zze => rfl)) | ((with_reducible refine x_ifP (by first | omega | exact rfl) ?_)) | ((with_reducible refine x_ifN (by omega) ?_)) | ((with_reducible refine x_ifnP (by first | omega | exact rfl) ?_)) | ((with_reducible refine x_ifnN (by omega) ?_)) | (with_reducible refine x_ifbT (by decide +kernel) ?_) | (with_reducible refine x_ifbF (by decide +kernel) ?_) | with_reducible refine x_revS ?_ | ((with_reducible refine x_revP ?zzh ?_); (case zzh => omega); intro y hy) | ((with_reducible refine x_slP ?zzh ?_); (case zzh => omega); intro y hy) | ((with_reducible refine x_addP ?zzh ?_); (case zzh => omega); intro y hy) | ((with_reducible refine x_ixP ?zzh ?zzh1 ?zzh2 ?_); (case zzh => omega); (case zzh1 => omega); (case zzh2 => omega); intro y hy) | ((with_reducible refine x_mulP ?zzh ?zzh1 ?zzh2 ?_); (case zzh => omega); (case zzh1 => omega); (case zzh2 => first | omega | decide +kernel); intro y hy; (try simp only [Int.reduceToNat] at hy)) | ((with_reducible refine x_lenS ?zzh ?_); (case zzh => first | (refine sz_of ?_; omega))))))
local macro_rules | `(tactic| walk_at "sxq") => `(tactic| (repeat (first | ((with_reducible refine' x_var ?zzh ?_); (case zzh => rfl)) | with_reducible refine x_truB ?_ | with_reducible refine x_gSub ?_ | with_reducible refine x_iEnumK ?_ | with_reducible refine x_iZipS ?_ | with_reducible refine x_made ?_ | with_reducible refine x_orT ?_ | with_reducible refine x_inSign ?_ | with_reducible refine x_fldOf ?_ | with_reducible refine x_mkO ?_ | with_reducible refine x_callNS ?_ | with_reducible refine x_callS ?_ | with_reducible refine x_bm ?_ | with_reducible refine x_bm0 ?_ | with_reducible refine x_tyS ?_ | with_reducible refine x_pairs ?_ | with_reducible refine x_pairs0 ?_ | with_reducible refine x_rev ?_ | with_reducible refine x_chain ?_ | ((with_reducible refine g_nx ?_); with_reducible refine x_nx ?_) | with_reducible refine x_seq ?_ | with_reducible refine x_op ?_ | with_reducible refine x_cons ?_ | with_reducible refine x_nil ?_ | with_reducible refine x_c ?_ | with_reducible refine x_set ?_ | with_reducible refine x_ret ?_ | ((with_reducible refine g_rt ?_); with_reducible refine x_rt ?_) | with_reducible refine x_cb ?_ | with_reducible refine x_call ?_ | with_reducible refine x_test ?_ | with_reducible refine x_B ?_ | with_reducible refine x_ifS ?_ | with_reducible refine x_if ?_ | with_reducible refine x_and ?_ | with_reducible refine x_or ?_ | with_reducible refine x_not ?_ | with_reducible refine x_andV ?_ | with_reducible refine x_orV ?_ | with_reducible refine x_notV ?_ | with_reducible refine x_un ?_ | with_reducible refine x_asgS ?_ | with_reducible refine x_asgT ?_ | with_reducible refine x_asgG ?_ | with_reducible refine x_drop ?_ | with_reducible refine x_next ?_ | with_reducible refine x_par ?_ | with_reducible refine x_par3 ?_ | with_reducible refine x_is2 ?_ | with_reducible refine x_is3 ?_ | with_reducible refine x_sl ?_ | with_reducible refine x_nopart ?_ | with_reducible refine x_part ?_ | with_reducible refine x_isint ?_ | with_reducible refine x_isbl ?_ | with_reducible refine x_addI ?_ | with_reducible refine x_rI0 ?_ | with_reducible refine x_rU ?_ | with_reducible refine x_isNI ?_ | with_reducible refine x_isNS ?_ | with_reducible refine x_isNB ?_ | with_reducible refine x_isNR ?_ | with_reducible refine x_isNN ?_ | with_reducible refine x_isNotNI ?_ | with_reducible refine x_isNotNS ?_ | with_reducible refine x_isNotNB ?_ | with_reducible refine x_isNotNR ?_ | with_reducible refine x_isNotNN ?_ | with_reducible refine x_eqR rfl ?_ | with_reducible refine x_neR rfl ?_ | with_reducible refine x_eqI ?_ | with_reducible refine x_neI ?_ | with_reducible refine x_eqStr ?_ | with_reducible refine x_neStr ?_ | with_reducible refine x_eqB ?_ | with_reducible refine x_neB ?_ | with_reducible refine x_isN ?_ | with_reducible refine x_isNotN ?_ | with_reducible refine x_isB ?_ | with_reducible refine x_isNotB ?_ | with_reducible refine x_minM ?_ | with_reducible refine x_maxM ?_ | with_reducible refine x_ifT ?_ | with_reducible refine x_ifF ?_ | with_reducible refine x_ifnT ?_ | with_reducible refine x_ifnF ?_ | with_reducible refine x_lst ?_ | with_reducible refine x_tup ?_ | with_reducible refine x_abs ?_ | with_reducible refine x_intI ?_ | with_reducible refine x_intB ?_ | with_reducible refine x_callN ?_ | with_reducible refine x_dget ?_ | with_reducible refine x_gName ?_ | with_reducible refine x_gCons ?_ | with_reducible refine x_gNil ?_ | with_reducible refine x_forK ?_ | with_reducible refine x_lc ?_ | with_reducible refine x_yes ?_ | with_reducible refine x_iU ?_ | with_reducible refine x_itS ?_ | with_reducible refine x_iList ?_ | with_reducible refine x_iTup ?_ | with_reducible refine x_iRng1 ?_ | with_reducible refine x_iRng2 ?_ | with_reducible refine x_iEnum ?_ | with_reducible refine x_iZip ?_ | with_reducible refine x_brk ?_ | with_reducible refine x_cont ?_ | ((with_reducible refine g_ct ?_); with_reducible refine x_ct ?_) | ((with_reducible refine g_bk ?_); with_reducible refine x_bk ?_) | ((with_reducible refine' x_aug ?zzh ?_); (case zzh => rfl)) | with_reducible refine x_ipI ?_ | ((with_reducible refine x_eqS ?zzh ?_); (case zzh => rfl)) | ((with_reducible refine x_neS ?zzh ?_); (case zzh => rfl)) | ((with_reducible refine x_mulI ?zzh ?_); (case zzh => first | exact .inl ⟨by omega, by omega⟩ | exact .inr ⟨by omega, by omega⟩)) | ((with_reducible refine x_rI ?zzh ?_); (case zzh => first | omega | exact ⟨by omega, by omega⟩ | exact ⟨by omega, by omega, by omega⟩)) | ((with_reducible refine' x_ixL ?zzh ?zze ?_); (case zzh => walk_at "sql"); (case zze => (first | rfl | assumption | exact atI_nat rfl | (simp; done)))) | ((with_reducible refine' x_lenL ?zzh ?_); (case zzh => walk_at "sql")) | ((with_reducible refine' w_setL hw 0 ?zzh ?zze ?_); (case zzh => rfl); (case zze => first | rfl | assumption); intro H hw; walk_at "nm") | ((with_reducible refine' w_setL hw 1 ?zzh ?zze ?_); (case zzh => rfl); (case zze => first | rfl | assumption); intro H hw; walk_at "nm") | ((with_reducible refine' w_setL hw 2 ?zzh ?zze ?_); (case zzh => rfl); (case zze => first | rfl | assumption); intro H hw; walk_at "nm") | ((with_reducible refine' w_setL hw 3 ?zzh ?zze ?_); (case zzh => rfl); (case zze => first | rfl | assumption); intro H hw; walk_at "nm") | ((with_reducible refine' w_setL hw 4 ?zzh ?zze ?_); (case zzh => rfl); (case zze => first | rfl | assumption); intro H hw; walk_at "nm") | ((with_reducible refine' w_setL hw 5 ?zzh ?zze ?_); (case zzh => rfl); (case zze => first | rfl | assumption); intro H hw; walk_at "nm") | ((with_reducible refine w_lst hw (by first | exact szl rfl | assumption) ?_); intro p H hp hw) | ((with_reducible refine w_tupC hw (by first | exact szl rfl | assumption) ?_); intro p H hp hw) | ((with_reducible refine' x_inT ?zzh ?zze ?zze2 ?_); (case zzh => walk_at "sqt"); (case zze => rfl); (case zze2 => rfl)) | ((with_reducible refine' x_inL ?zzh ?zze ?zze2 ?_); (case zzh => walk_at "sql"); (case zze => rfl); (case zze2 => rfl)) | ((with_reducible refine' x_notInT ?zzh ?zze ?zze2 ?_); (case zzh => walk_at "sqt"); (case zze => rfl); (case zze2 => rfl)) | ((with_reducible refine' x_notInL ?zzh ?zze ?zze2 ?_); (case zzh => walk_at "sql"); (case zze => rfl); (case zze2 => rfl)) | ((with_reducible refine' x_ixT ?zzh ?zze ?_); (case zzh => walk_at "sqt"); (case zze => (first | rfl | assumption | exact atI_nat rfl | (simp; done)))) | ((with_reducible refine' x_itL ?zzh ?_); (case zzh => walk_at "sql")) | ((with_reducible refine' x_itT ?zzh ?_); (case zzh => walk_at "sqt")) | ((with_reducible refine' x_iL ?zzh ?_); (case zzh => walk_at "sql")) | ((with_reducible refine' x_en ?zzh ?_); (case zzh => walk_at "sql")) | ((with_reducible refine x_rng1 ?zzh1 ?zzh2 ?_); (case zzh1 => first | omega | (simp only [List.length_map]; omega)); (case zzh2 => first | omega | (simp only [List.length_map]; omega))) | ((with_reducible refine x_rng2 ?zzh ?_); (case zzh => first | exact ⟨by omega, by omega, by omega, by omega⟩)) | ((with_reducible refine' x_gTup ?zzh ?zze ?_); (case zzh => walk_at "sqt"); (case zze => rfl)) | (with_reducible refine x_wipe rfl ?_) | ((with_reducible refine' w_app hw 0 ?zzh ?zze ?_); (case zzh => rfl); (case zze => first | (refine sz_lt ?_; simp; done) | (refine sz_lt ?_; simp; omega) | assumption); intro H hw; walk_at "nm") | ((with_reducible refine' w_app hw 1 ?zzh ?zze ?_); (case zzh => rfl); (case zze => first | (refine sz_lt ?_; simp; done) | (refine sz_lt ?_; simp; omega) | assumption); intro H hw; walk_at "nm") | ((with_reducible refine' w_app hw 2 ?zzh ?zze ?_); (case zzh => rfl); (case zze => first | (refine sz_lt ?_; simp; done) | (refine sz_lt ?_; simp; omega) | assumption); intro H hw; walk_at "nm") | ((with_reducible refine' w_app hw 3 ?zzh ?zze ?_); (case zzh => rfl); (case zze => first | (refine sz_lt ?_; simp; done) | (refine sz_lt ?_; simp; omega) | assumption); intro H hw; walk_at "nm") | ((with_reducible refine' w_app hw 4 ?zzh ?zze ?_); (case zzh => rfl); (case zze => first | (refine sz_lt ?_; simp; done) | (refine sz_lt ?_; simp; omega) | assumption); intro H hw; walk_at "nm") | ((with_reducible refine' x_callL ?zzh ?_); (case zzh => rfl)) | (with_reducible refine x_lens rfl rfl ?_) | ((with_reducible refine' x_sum ?zzh ?_); (case zzh => walk_at "sql")) | ((with_reducible refine' x_gU2 ?zzh ?_); (case zzh => walk_at "sql")) | ((with_reducible refine' x_gU3 ?zzh ?_); (case zzh => walk_at "sql")) | ((with_reducible refine' x_gStL1 hw ?zzh ?zze ?_); (case zzh => walk_at "sql"); (case zze => simp); intro p H hp hw) | ((with_reducible refine' x_take hw 0 ?zzh ?zzbx ?zze ?zze2 ?zze3 ?_); (case zzh => rfl); (case zzbx => assumption); (case zze => omega); (case zze2 => omega); (case zze3 => omega); intro r a c H hr0 hr1 bx hcc hw; walk_at "nm") | ((with_reducible refine' x_take hw 1 ?zzh ?zzbx ?zze ?zze2 ?zze3 ?_); (case zzh => rfl); (case zzbx => assumption); (case zze => omega); (case zze2 => omega); (case zze3 => omega); intro r a c H hr0 hr1 bx hcc hw; walk_at "nm") | ((with_reducible refine' x_take hw 2 ?zzh ?zzbx ?zze ?zze2 ?zze3 ?_); (case zzh => rfl); (case zzbx => assumption); (case zze => omega); (case zze2 => omega); (case zze3 => omega); intro r a c H hr0 hr1 bx hcc hw; walk_at "nm") | ((with_reducible refine' x_take hw 3 ?zzh ?zzbx ?zze ?zze2 ?zze3 ?_); (case zzh => rfl); (case zzbx => assumption); (case zze => omega); (case zze2 => omega); (case zze3 => omega); intro r a c H hr0 hr1 bx hcc hw; walk_at "nm") | ((with_reducible refine' x_take hw 4 ?zzh ?zzbx ?zze ?zze2 ?zze3 ?_); (case zzh => rfl); (case zzbx => assumption); (case zze => omega); (case zze2 => omega); (case zze3 => omega); intro r a c H hr0 hr1 bx hcc hw; walk_at "nm") | ((with_reducible refine' w_cat hw ?zzh1 ?zzh2 ?zze ?_); (case zzh1 => walk_at "lst"); (case zzh2 => walk_at "lst"); (case zze => first | exact szl rfl | (simp; omega)); intro p H hp hw) | ((with_reducible refine' w_rev hw ?zzh ?_); (case zzh => walk_at "sql"); intro p H hp hw) | ((with_reducible refine' w_disp hw ?_); intro p H hp hw) | ((with_reducible refine w_made hw ?_); intro v H hw) | ((with_reducible refine' w_dispEnd hw 0 ?zzh ?zze ?zze2 ?_); (case zzh => rfl); (case zze => rfl); (case zze2 => exact Nat.le_of_ble_eq_true rfl); intro H hw; walk_at "nm") | ((with_reducible refine' w_dispEnd hw 1 ?zzh ?zze ?zze2 ?_); (case zzh => rfl); (case zze => rfl); (case zze2 => exact Nat.le_of_ble_eq_true rfl); intro H hw; walk_at "nm") | ((with_reducible refine' w_dispEnd hw 2 ?zzh ?zze ?zze2 ?_); (case zzh => rfl); (case zze => rfl); (case zze2 => exact Nat.le_of_ble_eq_true rfl); intro H hw; walk_at "nm") | ((with_reducible refine' w_dispEnd hw 3 ?zzh ?zze ?zze2 ?_); (case zzh => rfl); (case zze => rfl); (case zze2 => exact Nat.le_of_ble_eq_true rfl); intro H hw; walk_at "nm") | ((with_reducible refine' w_update (n := 1) (m := 0) hw ?zzh ?zzh2 (by decide) ?zze ?_); (case zzh => rfl); (case zzh2 => rfl); (case zze => exact Nat.le_of_ble_eq_true rfl); intro H hw; walk_at "nm") | ((with_reducible refine' w_update (n := 0) (m := 1) hw ?zzh ?zzh2 (by decide) ?zze ?_); (case zzh => rfl); (case zzh2 => rfl); (case zze => exact Nat.le_of_ble_eq_true rfl); intro H hw; walk_at "nm") | ((with_reducible refine' w_update (n := 2) (m := 0) hw ?zzh ?zzh2 (by decide) ?zze ?_); (case zzh => rfl); (case zzh2 => rfl); (case zze => exact Nat.le_of_ble_eq_true rfl); intro H hw; walk_at "nm") | (with_reducible refine x_isiI (b := true) (by decide +kernel) ?_) | (with_reducible refine x_isiB (b := true) (by decide +kernel) ?_) | (with_reducible refine x_isiS (b := true) (by decide +kernel) ?_) | (with_reducible refine x_isiN (b := true) (by decide +kernel) ?_) | (with_reducible refine x_isiI (b := false) (by decide +kernel) ?_) | (with_reducible refine x_isiB (b := false) (by decide +kernel) ?_) | (with_reducible refine x_isiS (b := false) (by decide +kernel) ?_) | (with_reducible refine x_isiN (b := false) (by decide +kernel) ?_) | ((with_reducible refine' x_eqIL ?zzh1 ?zzh2 ?_); (case zzh1 => walk_at "lst"); (case zzh2 => walk_at "lst")) | ((with_reducible refine' x_neIL ?zzh1 ?zzh2 ?_); (case zzh1 => walk_at "lst"); (case zzh2 => walk_at "lst")) | ((with_reducible refine' x_tyL ?zzh ?_); (case zzh => walk_at "lst")) | ((with_reducible refine' x_tyD ?zzh ?_); (case zzh => walk_at "lst")) | ((with_reducible refine' w_append (n := 0) hw ?zzh ?zze ?_); (case zzh => rfl); (case zze => first | (refine sz_lt ?_; simp; done) | (refine sz_lt ?_; simp; omega) | assumption); intro H hw; walk_at "nm") | ((with_reducible refine' w_append (n := 1) hw ?zzh ?zze ?_); (case zzh => rfl); (case zze => first | (refine sz_lt ?_; simp; done) | (refine sz_lt ?_; simp; omega) | assumption); intro H hw; walk_at "nm") | ((with_reducible refine' w_append (n := 2) hw ?zzh ?zze ?_); (case zzh => rfl); (case zze => first | (refine sz_lt ?_; simp; done) | (refine sz_lt ?_; simp; omega) | assumption); intro H hw; walk_at "nm") | ((with_reducible refine' w_append (n := 3) hw ?zzh ?zze ?_); (case zzh => rfl); (case zze => first | (refine sz_lt ?_; simp; done) | (refine sz_lt ?_; simp; omega) | assumption); intro H hw; walk_at "nm") | ((with_reducible refine' x_dgetS ?zzh ?zze ?_); (case zzh => walk_at "lst"); (case zze => rfl)) | ((with_reducible refine x_ifP (by first | omega | exact rfl) ?_)) | ((with_reducible refine x_ifN (by omega) ?_)) | ((with_reducible refine x_ifnP (by first | omega | exact rfl) ?_)) | ((with_reducible refine x_ifnN (by omega) ?_)) | (with_reducible refine x_ifbT (by decide +kernel) ?_) | (with_reducible refine x_ifbF (by decide +kernel) ?_))))
local macro_rules | `(tactic| walk_at "sxe") => `(tactic| (repeat (first | ((with_reducible refine' x_var ?zzh ?_); (case zzh => rfl)) | with_reducible refine x_truB ?_ | with_reducible refine x_gSub ?_ | with_reducible refine x_iEnumK ?_ | with_reducible refine x_iZipS ?_ | with_reducible refine x_made ?_ | with_reducible refine x_orT ?_ | with_reducible refine x_inSign ?_ | with_reducible refine x_fldOf ?_ | with_reducible refine x_mkO ?_ | with_reducible refine x_callNS ?_ | with_reducible refine x_callS ?_ | with_reducible refine x_bm ?_ | with_reducible refine x_bm0 ?_ | with_reducible refine x_tyS ?_ | with_reducible refine x_pairs ?_ | with_reducible refine x_pairs0 ?_ | with_reducible refine x_rev ?_ | with_reducible refine x_chain ?_ | ((with_reducible refine g_nx ?_); with_reducible refine x_nx ?_) | with_reducible refine x_seq ?_ | with_reducible refine x_op ?_ | with_reducible refine x_cons ?_ | with_reducible refine x_nil ?_ | with_reducible refine x_c ?_ | with_reducible refine x_set ?_ | with_reducible refine x_ret ?_ | ((with_reducible refine g_rt ?_); with_reducible refine x_rt ?_) | with_reducible refine x_cb ?_ | with_reducible refine x_call ?_ | with_reducible refine x_test ?_ | with_reducible refine x_B ?_ | with_reducible refine x_ifS ?_ | with_reducible refine x_if ?_ | with_reducible refine x_and ?_ | with_reducible refine x_or ?_ | with_reducible refine x_not ?_ | with_reducible refine x_andV ?_ | with_reducible refine x_orV ?_ | with_reducible refine x_notV ?_ | with_reducible refine x_un ?_ | with_reducible refine x_asgS ?_ | with_reducible refine x_asgT ?_ | with_reducible refine x_asgG ?_ | with_reducible refine x_drop ?_ | with_reducible refine x_next ?_ | with_reducible refine x_par ?_ | with_reducible refine x_par3 ?_ | with_reducible refine x_is2 ?_ | with_reducible refine x_is3 ?_ | with_reducible refine x_sl ?_ | with_reducible refine x_nopart ?_ | with_reducible refine x_part ?_ | with_reducible refine x_isint ?_ | with_reducible refine x_isbl ?_ | with_reducible refine x_addI ?_ | with_reducible refine x_rI0 ?_ | with_reducible refine x_rU ?_ | with_reducible refine x_isNI ?_ | with_reducible refine x_isNS ?_ | with_reducible refine x_isNB ?_ | with_reducible refine x_isNR ?_ | with_reducible refine x_isNN ?_ | with_reducible refine x_isNotNI ?_ | with_reducible refine x_isNotNS ?_ | with_reducible refine x_isNotNB ?_ | with_reducible refine x_isNotNR ?_ | with_reducible refine x_isNotNN ?_ | with_reducible refine x_eqR rfl ?_ | with_reducible refine x_neR rfl ?_ | with_reducible refine x_eqI ?_ | with_reducible refine x_neI ?_ | with_reducible refine x_eqStr ?_ | with_reducible refine x_neStr ?_ | with_reducible refine x_eqB ?_ | with_reducible refine x_neB ?_ | with_reducible refine x_isN ?_ | with_reducible refine x_isNotN ?_ | with_reducible refine x_isB ?_ | with_reducible refine x_isNotB ?_ | with_reducible refine x_minM ?_ | with_reducible refine x_maxM ?_ | with_reducible refine x_ifT ?_ | with_reducible refine x_ifF ?_ | with_reducible refine x_ifnT ?_ | with_reducible refine x_ifnF ?_ | with_reducible refine x_lst ?_ | with_reducible refine x_tup ?_ | with_reducible refine x_abs ?_ | with_reducible refine x_intI ?_ | with_reducible refine x_intB ?_ | with_reducible refine x_callN ?_ | with_reducible refine x_dget ?_ | with_reducible refine x_gName ?_ | with_reducible refine x_gCons ?_ | with_reducible refine x_gNil ?_ | with_reducible refine x_forK ?_ | with_reducible refine x_lc ?_ | with_reducible refine x_yes ?_ | with_reducible refine x_iU ?_ | with_reducible refine x_itS ?_ | with_reducible refine x_iList ?_ | with_reducible refine x_iTup ?_ | with_reducible refine x_iRng1 ?_ | with_reducible refine x_iRng2 ?_ | with_reducible refine x_iEnum ?_ | with_reducible refine x_iZip ?_ | with_reducible refine x_brk ?_ | with_reducible refine x_cont ?_ | ((with_reducible refine g_ct ?_); with_reducible refine x_ct ?_) | ((with_reducible refine g_bk ?_); with_reducible refine x_bk ?_) | ((with_reducible refine' x_aug ?zzh ?_); (case zzh => rfl)) | with_reducible refine x_ipI ?_ | ((with_reducible refine x_eqS ?zzh ?_); (case zzh => rfl)) | ((with_reducible refine x_neS ?zzh ?_); (case zzh => rfl)) | ((with_reducible refine x_mulI ?zzh ?_); (case zzh => first | exact .inl ⟨by omega, by omega⟩ | exact .inr ⟨by omega, by omega⟩)) | ((with_reducible refine x_rI ?zzh ?_); (case zzh => first | omega | exact ⟨by omega, by omega⟩ | exact ⟨by omega, by omega, by omega⟩)) | ((with_reducible refine' x_ixL ?zzh ?zze ?_); (case zzh => walk_at "sql"); (case zze => (first | rfl | assumption | exact atI_nat rfl | (simp; done)))) | ((with_reducible refine' x_lenL ?zzh ?_); (case zzh => walk_at "sql")) | ((with_reducible refine' w_setL hw 0 ?zzh ?zze ?_); (case zzh => rfl); (case zze => first | rfl | assumption); intro H hw; walk_at "nm") | ((with_reducible refine' w_setL hw 1 ?zzh ?zze ?_); (case zzh => rfl); (case zze => first | rfl | assumption); intro H hw; walk_at "nm") | ((with_reducible refine' w_setL hw 2 ?zzh ?zze ?_); (case zzh => rfl); (case zze => first | rfl | assumption); intro H hw; walk_at "nm") | ((with_reducible refine' w_setL hw 3 ?zzh ?zze ?_); (case zzh => rfl); (case zze => first | rfl | assumption); intro H hw; walk_at "nm") | ((with_reducible refine' w_setL hw 4 ?zzh ?zze ?_); (case zzh => rfl); (case zze => first | rfl | assumption); intro H hw; walk_at "nm") | ((with_reducible refine' w_setL hw 5 ?zzh ?zze ?_); (case zzh => rfl); (case zze => first | rfl | assumption); intro H hw; walk_at "nm") | ((with_reducible refine' w_lstD hw ?zzd ?zze ?_); (case zzd => walk_at "dd"); (case zze => exact szl rfl); intro p H hp hw) | ((with_reducible refine' w_tupD hw ?zzd ?zze ?_); (case zzd => walk_at "dd"); (case zze => exact szl rfl); intro p H hp hw) | ((with_reducible refine' x_inT ?zzh ?zze ?zze2 ?_); (case zzh => walk_at "sqt"); (case zze => rfl); (case zze2 => rfl)) | ((with_reducible refine' x_inL ?zzh ?zze ?zze2 ?_); (case zzh => walk_at "sql"); (case zze => rfl); (case zze2 => rfl)) | ((with_reducible refine' x_notInT ?zzh ?zze ?zze2 ?_); (case zzh => walk_at "sqt"); (case zze => rfl); (case zze2 => rfl)) | ((with_reducible refine' x_notInL ?zzh ?zze ?zze2 ?_); (case zzh => walk_at "sql"); (case zze => rfl); (case zze2 => rfl)) | ((with_reducible refine' x_ixT ?zzh ?zze ?_); (case zzh => walk_at "sqt"); (case zze => (first | rfl | assumption | exact atI_nat rfl | (simp; done)))) | ((with_reducible refine' x_itL ?zzh ?_); (case zzh => walk_at "sql")) | ((with_reducible refine' x_itT ?zzh ?_); (case zzh => walk_at "sqt")) | ((with_reducible refine' x_iL ?zzh ?_); (case zzh => walk_at "sql")) | ((with_reducible refine' x_en ?zzh ?_); (case zzh => walk_at "sql")) | ((with_reducible refine x_rng1 ?zzh1 ?zzh2 ?_); (case zzh1 => first | omega | (simp only [List.length_map]; omega)); (case zzh2 => first | omega | (simp only [List.length_map]; omega))) | ((with_reducible refine x_rng2 ?zzh ?_); (case zzh => first | exact ⟨by omega, by omega, by omega, by omega⟩)) | ((with_reducible refine' x_gTup ?zzh ?zze ?_); (case zzh => walk_at "sqt"); (case zze => rfl)) | (with_reducible refine x_wipe rfl ?_) | ((with_reducible refine' w_app hw 0 ?zzh ?zze ?_); (case zzh => rfl); (case zze => first | (refine sz_lt ?_; simp; done) | (refine sz_lt ?_; simp; omega) | assumption); intro H hw; walk_at "nm") | ((with_reducible refine' w_app hw 1 ?zzh ?zze ?_); (case zzh => rfl); (case zze => first | (refine sz_lt ?_; simp; done) | (refine sz_lt ?_; simp; omega) | assumption); intro H hw; walk_at "nm") | ((with_reducible refine' w_app hw 2 ?zzh ?zze ?_); (case zzh => rfl); (case zze => first | (refine sz_lt ?_; simp; done) | (refine sz_lt ?_; simp; omega) | assumption); intro H hw; walk_at "nm") | ((with_reducible refine' w_app hw 3 ?zzh ?zze ?_); (case zzh => rfl); (case zze => first | (refine sz_lt ?_; simp; done) | (refine sz_lt ?_; simp; omega) | assumption); intro H hw; walk_at "nm") | ((with_reducible refine' w_app hw 4 ?zzh ?zze ?_); (case zzh => rfl); (case zze => first | (refine sz_lt ?_; simp; done) | (refine sz_lt ?_; simp; omega) | assumption); intro H hw; walk_at "nm") | ((with_reducible refine' x_callL ?zzh ?_); (case zzh => rfl)) | (with_reducible refine x_lens rfl rfl ?_) | ((with_reducible refine' x_sum ?zzh ?_); (case zzh => walk_at "sql")) | ((with_reducible refine' x_gU2 ?zzh ?_); (case zzh => walk_at "sql")) | ((with_reducible refine' x_gU3 ?zzh ?_); (case zzh => walk_at "sql")) | ((with_reducible refine' x_gStL1 hw ?zzh ?zze ?_); (case zzh => walk_at "sql"); (case zze => simp); intro p H hp hw) | ((with_reducible refine' x_take hw 0 ?zzh ?zzbx ?zze ?zze2 ?zze3 ?_); (case zzh => rfl); (case zzbx => assumption); (case zze => omega); (case zze2 => omega); (case zze3 => omega); intro r a c H hr0 hr1 bx hcc hw; walk_at "nm") | ((with_reducible refine' x_take hw 1 ?zzh ?zzbx ?zze ?zze2 ?zze3 ?_); (case zzh => rfl); (case zzbx => assumption); (case zze => omega); (case zze2 => omega); (case zze3 => omega); intro r a c H hr0 hr1 bx hcc hw; walk_at "nm") | ((with_reducible refine' x_take hw 2 ?zzh ?zzbx ?zze ?zze2 ?zze3 ?_); (case zzh => rfl); (case zzbx => assumption); (case zze => omega); (case zze2 => omega); (case zze3 => omega); intro r a c H hr0 hr1 bx hcc hw; walk_at "nm") | ((with_reducible refine' x_take hw 3 ?zzh ?zzbx ?zze ?zze2 ?zze3 ?_); (case zzh => rfl); (case zzbx => assumption); (case zze => omega); (case zze2 => omega); (case zze3 => omega); intro r a c H hr0 hr1 bx hcc hw; walk_at "nm") | ((with_reducible refine' x_take hw 4 ?zzh ?zzbx ?zze ?zze2 ?zze3 ?_); (case zzh => rfl); (case zzbx => assumption); (case zze => omega); (case zze2 => omega); (case zze3 => omega); intro r a c H hr0 hr1 bx hcc hw; walk_at "nm") | ((with_reducible refine' w_catD hw ?zzh1 ?zzh2 ?zze ?_); (case zzh1 => walk_at "dd"); (case zzh2 => walk_at "dd"); (case zze => exact szl rfl); intro p H hp hw) | ((with_reducible refine' w_cat hw ?zzh1 ?zzh2 ?zze ?_); (case zzh1 => walk_at "lst"); (case zzh2 => walk_at "lst"); (case zze => first | exact szl rfl | (simp; omega)); intro p H hp hw) | ((with_reducible refine' w_rev hw ?zzh ?_); (case zzh => walk_at "sql"); intro p H hp hw) | ((with_reducible refine' w_disp hw ?_); intro p H hp hw) | ((with_reducible refine w_made hw ?_); intro v H hw) | ((with_reducible refine' w_dispEnd hw 0 ?zzh ?zze ?zze2 ?_); (case zzh => rfl); (case zze => rfl); (case zze2 => exact Nat.le_of_ble_eq_true rfl); intro H hw; walk_at "nm") | ((with_reducible refine' w_dispEnd hw 1 ?zzh ?zze ?zze2 ?_); (case zzh => rfl); (case zze => rfl); (case zze2 => exact Nat.le_of_ble_eq_true rfl); intro H hw; walk_at "nm") | ((with_reducible refine' w_dispEnd hw 2 ?zzh ?zze ?zze2 ?_); (case zzh => rfl); (case zze => rfl); (case zze2 => exact Nat.le_of_ble_eq_true rfl); intro H hw; walk_at "nm") | ((with_reducible refine' w_dispEnd hw 3 ?zzh ?zze ?zze2 ?_); (case zzh => rfl); (case zze => rfl); (case zze2 => exact Nat.le_of_ble_eq_true rfl); intro H hw; walk_at "nm") | ((with_reducible refine' w_update (n := 1) (m := 0) hw ?zzh ?zzh2 (by decide) ?zze ?_); (case zzh => rfl); (case zzh2 => rfl); (case zze => exact Nat.le_of_ble_eq_true rfl); intro H hw; walk_at "nm") | ((with_reducible refine' w_update (n := 0) (m := 1) hw ?zzh ?zzh2 (by decide) ?zze ?_); (case zzh => rfl); (case zzh2 => rfl); (case zze => exact Nat.le_of_ble_eq_true rfl); intro H hw; walk_at "nm") | ((with_reducible refine' w_update (n := 2) (m := 0) hw ?zzh ?zzh2 (by decide) ?zze ?_); (case zzh => rfl); (case zzh2 => rfl); (case zze => exact Nat.le_of_ble_eq_true rfl); intro H hw; walk_at "nm") | (with_reducible refine x_isiI (b := true) (by decide +kernel) ?_) | (with_reducible refine x_isiB (b := true) (by decide +kernel) ?_) | (with_reducible refine x_isiS (b := true) (by decide +kernel) ?_) | (with_reducible refine x_isiN (b := true) (by decide +kernel) ?_) | (with_reducible refine x_isiI (b := false) (by decide +kernel) ?_) | (with_reducible refine x_isiB (b := false) (by decide +kernel) ?_) | (with_reducible refine x_isiS (b := false) (by decide +kernel) ?_) | (with_reducible refine x_isiN (b := false) (by decide +kernel) ?_) | ((with_reducible refine' x_eqIL ?zzh1 ?zzh2 ?_); (case zzh1 => walk_at "lst"); (case zzh2 => walk_at "lst")) | ((with_reducible refine' x_neIL ?zzh1 ?zzh2 ?_); (case zzh1 => walk_at "lst"); (case zzh2 => walk_at "lst")) | ((with_reducible refine' x_tyL ?zzh ?_); (case zzh => walk_at "lst")) | ((with_reducible refine' x_tyD ?zzh ?_); (case zzh => walk_at "lst")) | ((with_reducible refine' w_append (n := 0) hw ?zzh ?zze ?_); (case zzh => rfl); (case zze => first | (refine sz_lt ?_; simp; done) | (refine sz_lt ?_; simp; omega) | assumption); intro H hw; walk_at "nm") | ((with_reducible refine' w_append (n := 1) hw ?zzh ?zze ?_); (case zzh => rfl); (case zze => first | (refine sz_lt ?_; simp; done) | (refine sz_lt ?_; simp; omega) | assumption); intro H hw; walk_at "nm") | ((with_reducible refine' w_append (n := 2) hw ?zzh ?zze ?_); (case zzh => rfl); (case zze => first | (refine sz_lt ?_; simp; done) | (refine sz_lt ?_; simp; omega) | assumption); intro H hw; walk_at "nm") | ((with_reducible refine' w_append (n := 3) hw ?zzh ?zze ?_); (case zzh => rfl); (case zze => first | (refine sz_lt ?_; simp; done) | (refine sz_lt ?_; simp; omega) | assumption); intro H hw; walk_at "nm") | ((with_reducible refine' x_dgetS ?zzh ?zze ?_); (case zzh => walk_at "lst"); (case zze => rfl)) | ((with_reducible refine x_ifP (by first | omega | exact rfl) ?_)) | ((with_reducible refine x_ifN (by omega) ?_)) | ((with_reducible refine x_ifnP (by first | omega | exact rfl) ?_)) | ((with_reducible refine x_ifnN (by omega) ?_)) | (with_reducible refine x_ifbT (by decide +kernel) ?_) | (with_reducible refine x_ifbF (by decide +kernel) ?_))))
namespace Law
open PySem PySem.Spec PyProof.Rows L2 Fw
def topS (i : Nat) : Stmt := PySem.Challenge.pw_threereckons_k18_trees_written_and_read.main.body.getD i (.Pass ⟨0, 0, 0, 0⟩)
structure Blt (mg : Str → Option Value) : Prop where
  len : mg "len" = none
  abs : mg "abs" = none
  int' : mg "int" = none
  list : mg "list" = none
  range : mg "range" = none
  enumerate : mg "enumerate" = none
/-! ### the draws -/
structure Bx (a s c : Int) : Prop where
  a0 : 0 ≤ a
  s0 : 0 ≤ s
  s1 : s < 2 ^ 62
  c0 : 0 ≤ c
abbrev box (a s c : Int) : HO := .lst [.int a, .int s, .int c]
abbrev s_law_take : Stmt := topS 20
theorem sc_law_take : FnScope ["_law_box", "_law_many", "_law_found", "_law_once", "_law_twice"] ["_law_box", "_law_many"] (defScope s_law_take) := ⟨rfl, rfl, rfl, by decide +kernel, rfl, by decide +kernel, by decide +kernel⟩

def spTake : Sp := fun vs H Q _ => ∃ (b : Addr) (a s c m : Int), vs = [.ref b, .int m] ∧ H b = some (box a s c) ∧ Bx a s c ∧ c < 2 ^ 40 ∧ 0 < m ∧ m < 2 ^ 30 ∧
  ∀ r a' c' H', 0 ≤ r → r < m → Bx a' s c' → c' ≤ c + 1 → Ex [b] H H' → H' b = some (box a' s c') → Q (.int r) H'
section
variable {P : Program} {w : World} {K : PySem.W.Frag} {mg : Str → Option Value} {base : Heap}
theorem ok_take {f : Addr} {fd : FuncData} {k : Nat} (F : Fun K "_law_take" "_law_take" s_law_take f fd) (B : Blt mg) : FnOk P w K mg base CX0 (k + 1) f fd ["_law_box", "_law_many"] spTake := by
  refine okS F sc_law_take (fun vs H Q E h => ?_) (fun cdv A outer s H0 vs Q E hr h => ?_)
  · obtain ⟨b, a, s, c, m, rfl, _⟩ := h
    rfl
  obtain ⟨b, a, s, c, m, rfl, hb, bx, hc, h0, h1, q⟩ := h
  have hA := bx.a0
  have hS := bx.s0
  have hS1 := bx.s1
  have hC := bx.c0
  have hw : W K H0 [b] [] H0 [(b, box a s c)] [] := W.start1 hb (fun _ z => nomatch z) (fun _ z => nomatch z)
  refine ⟨_, [some (.ref b), some (.int m), none, none, none], (pss_cons (ps_if (pt_cmpR (op_gt) (pe_ix (ix_U (K := K)) (pv 0) pe_int (fun _ _ => rfl)) pe_int (nomark _)) (pss_cons (ps_set (i := 2) sc_law_take.nd rfl (Or.inl rfl) (pe_op op_mod (pe_ix (ix_U (K := K)) (pv 0) pe_int (fun _ _ => rfl)) (pv 1)))
  (pss_cons (ps_asg (pe_op op_fdiv (pe_ix (ix_U (K := K)) (pv 0) pe_int (fun _ _ => rfl)) (pv 1)) (pg_sub (pv 0) pe_int set_list))
  (pss_one (ps_ret (pv 2))))) pss_nil)
  (pss_cons (ps_asg (pe_op (op_addU (K := K)) (pe_ix (ix_U (K := K)) (pv 0) pe_int (fun _ _ => rfl)) pe_int) (pg_sub (pv 0) pe_int set_list))
  (pss_cons (ps_set (i := 3) sc_law_take.nd rfl (Or.inl rfl) (pe_op op_mod (pe_op op_pow (pe_op (op_addU (K := K)) (pe_ix (ix_U (K := K)) (pv 0) pe_int (fun _ _ => rfl)) (pe_op (op_mulU (K := K)) pe_int (pe_ix (ix_U (K := K)) (pv 0) pe_int (fun _ _ => rfl)))) pe_int) pe_int))
  (pss_cons (ps_set (i := 4) sc_law_take.nd rfl (Or.inl rfl) (pe_op op_mod (pe_op (op_mulU (K := K)) (pe_op (op_addU (K := K)) (pe_op (op_addU (K := K)) (pv 3) (pe_ix (ix_U (K := K)) (pv 0) pe_int (fun _ _ => rfl))) (pe_op op_fdiv (pe_ix (ix_U (K := K)) (pv 0) pe_int (fun _ _ => rfl)) pe_int)) (pe_op (op_addU (K := K)) (pe_op (op_addU (K := K)) (pe_op op_mod (pv 3) pe_int) pe_int) (pe_ix (ix_U (K := K)) (pv 0) pe_int (fun _ _ => rfl)))) pe_int))
  (pss_one (ps_ret (pe_op op_mod (pe_op op_fdiv (pe_op op_mod (pe_op (op_addU (K := K)) (pe_op (op_mulU (K := K)) (pv 4) pe_int) (pv 3)) pe_int) pe_int) (pv 1)))))))), rfl, ?_⟩
  walk_at "sx"
  refine x_ifd (fun c1 => ?_) (fun c1 => ?_)
  · walk_at "sx"
    exact q _ _ _ _ (Int.emod_nonneg _ (by omega)) (Int.emod_lt_of_pos _ h0) ⟨Int.ediv_nonneg hA (by omega), hS, hS1, hC⟩ (by omega) hw.ex (hw.at 0 rfl)
  · walk_at "sx"
    exact q _ _ _ _ (Int.emod_nonneg _ (by omega)) (Int.emod_lt_of_pos _ h0) ⟨hA, hS, hS1, by omega⟩ (by omega) hw.ex (hw.at 0 rfl)
end
theorem x_take {K : PySem.W.Frag} {H0 H : Hp} {Ms M0 : List Addr} {L : List (Addr × HO)} {R : List Fa} {b : Addr} {a s c m : Int} {Q : VK} {E : XK} (hw : W K H0 Ms M0 H L R) (n : Nat) (hL : L[n]? = some (b, box a s c)) (bx : Bx a s c) (hc : c < 2 ^ 40) (h0 : 0 < m) (h1 : m < 2 ^ 30)
    (q : ∀ r a' c' H', 0 ≤ r → r < m → Bx a' s c' → c' ≤ c + 1 → W K H0 Ms M0 H' (L.set n (b, box a' s c')) R → Q (.int r) H') : spTake ([.ref b, .int m] ++ []) H Q E :=
  ⟨b, a, s, c, m, rfl, hw.at n hL, bx, hc, h0, h1, fun r a' c' H' r0 r1 bx' c1 e hb => q r a' c' H' r0 r1 bx' c1 (hw.call n hL e hb)⟩
abbrev s_law_dip : Stmt := topS 19
theorem sc_law_dip : FnScope ["_law_script", "_law_k", "_law_cell"] ["_law_script", "_law_k"] (defScope s_law_dip) := ⟨rfl, rfl, rfl, by decide +kernel, rfl, by decide +kernel, by decide +kernel⟩

/-- a new box of a list's k-th number -/
def spDip (K : PySem.W.Frag) : Sp := fun vs H Q _ => ∃ (M : List Addr) (a : Addr) (ns : List Int) (k : Int), vs = [.ref a, .int k] ∧ Al M H ∧ Rp K M H (.ref a) (.list (ns.map .int)) ∧ 0 ≤ k ∧ k ≤ 1000 ∧
  ∀ x y p H', Bx x y 0 → H p = none → Ex [] H H' → H' p = some (box x y 0) → Q (.ref p) H'
theorem at_ints {ns : List Int} {k : Int} (h0 : 0 ≤ k) (h1 : k < ns.length) : atI (ns.map V.int) k = some (.int (ns[k.toNat]'(by omega))) := by
  have e : k = ((k.toNat : Nat) : Int) := by omega
  have q : atI (ns.map V.int) ((k.toNat : Nat) : Int) = some (.int (ns[k.toNat]'(by omega))) := atI_nat (by rw [List.getElem?_map, List.getElem?_eq_getElem (by omega)]; rfl)
  rw [← e] at q
  exact q
theorem mul_nn {x : Int} (b : Bool) (h : 0 ≤ x) : 0 ≤ x * (if b then 1 else 0) := by
  cases b
  · simp
  · simp; exact h
section
variable {P : Program} {w : World} {K : PySem.W.Frag} {mg : Str → Option Value} {base : Heap}
theorem ok_dip {f : Addr} {fd : FuncData} {k : Nat} (F : Fun K "_law_dip" "_law_dip" s_law_dip f fd) (B : Blt mg) : FnOk P w K mg base CX0 (k + 1) f fd ["_law_script", "_law_k"] (spDip K) := by
  refine okS F sc_law_dip (fun vs H Q E h => ?_) (fun cdv A outer s H0 vs Q E hr h => ?_)
  · obtain ⟨M, a, ns, k, rfl, _⟩ := h
    rfl
  obtain ⟨M, a, ns, k, rfl, hM, hb, h0, h1, q⟩ := h
  have hw : W K H0 [] M H0 [] [.rp (.ref a) (.list (ns.map .int))] := W.start0 hM (fun r z => by rw [List.mem_singleton.mp z]; exact hb)
  refine ⟨_, [some (.ref a), some (.int k), none], (pss_cons (ps_set (i := 2) sc_law_dip.nd rfl (Or.inl rfl) (pe_ifExp (pt_cmpR (op_lt) (pv 1) (pe_callB (call_lenU (K := K)) (by rfl) B.len (by decide +kernel) (pa_cons (pv 0) pa_nil)) (nomark _)) (pe_ix (ix_U (K := K)) (pv 0) (pv 1) (fun _ _ => rfl)) pe_int))
  (pss_one (ps_ret (pe_lst (pa_cons (pe_op (op_mulU (K := K)) (pe_callB call_absU (by rfl) B.abs (by decide +kernel) (pa_cons (pv 2) pa_nil)) (pe_callTy call_intU (by rfl) B.int' (by decide +kernel) (pa_cons (pe_cmpR (op_ge) (pe_callB call_absU (by rfl) B.abs (by decide +kernel) (pa_cons (pv 2) pa_nil)) (pe_powc (z := 1000000000000000000) ⟨by decide, by decide, by decide⟩ (by rfl)) (nomark _)) pa_nil))) (pa_cons (pe_op (op_addU (K := K)) (pe_op (op_addU (K := K)) (pe_op op_mod (pv 2) pe_int) (pe_op (op_mulU (K := K)) pe_int (pv 1))) pe_int) (pa_cons pe_int pa_nil))))))), rfl, ?_⟩
  walk_at "sx"
  refine x_ifd (fun c1 => ?_) (fun c1 => ?_)
  · rw [List.length_map] at c1
    refine x_op (x_var rfl (x_var rfl (x_ixL (SqL.of hb.ints) (at_ints h0 c1) ?_)))
    generalize ns[k.toNat]'_ = n
    walk_at "sx"
    exact q _ _ p H ⟨mul_nn _ (by split <;> omega), by omega, by omega, by omega⟩ hp hw.ex (hw.at 0 rfl)
  · walk_at "sx"
    exact q _ _ p H ⟨mul_nn _ (by split <;> omega), by omega, by omega, by omega⟩ hp hw.ex (hw.at 0 rfl)
end
abbrev s_law_folded : Stmt := topS 21
theorem sc_law_folded : FnScope ["_law_script", "_law_size", "_law_cells", "_law_k", "_law_cell"] ["_law_script", "_law_size"] (defScope s_law_folded) := ⟨rfl, rfl, rfl, by decide +kernel, rfl, by decide +kernel, by decide +kernel⟩

/-- a new list of numbers, at most z of them, one at least where there is one -/
def spFolded (K : PySem.W.Frag) : Sp := fun vs H Q _ => ∃ (a : Addr) (ns : List Int) (z : Nat), vs = [.ref a, .int (z : Int)] ∧ SqL K H a (ns.map V.int) ∧ 0 < z ∧ z ≤ 1000 ∧ ns.length ≤ 1000 ∧
  ∀ (ms : List Int) p H', ms.length = min z ns.length → H p = none → Ex [] H H' → H' p = some (.lst (ms.map V.int)) → Q (.ref p) H'
theorem cut_to {xs : List V} (z : Nat) : cutV xs none (some (z : Int)) = xs.take z := by
  unfold cutV
  rw [HT.sIx_none, HT.sIx_nat, List.drop_zero, Nat.sub_zero]
  by_cases h : z ≤ xs.length
  · rw [Nat.min_eq_left h]
  · rw [Nat.min_eq_right (by omega), List.take_length, List.take_of_length_le (by omega)]
theorem cut_from {xs : List V} (z : Nat) (u : Option Int) (h : xs.length ≤ z) : cutV xs (some (z : Int)) u = [] := by
  unfold cutV
  rw [HT.sIx_nat, Nat.min_eq_right h, List.drop_length, List.take_nil]
theorem cut_mem {ns : List Int} {lo hi : Option Int} {i : Nat} {x : V} (h : (cutV (ns.map V.int) lo hi)[i]? = some x) : ∃ n, x = .int n := by
  have h1 : x ∈ ns.map V.int := List.mem_of_mem_drop (List.mem_of_mem_take (List.mem_of_getElem? h))
  obtain ⟨n, _, e⟩ := List.mem_map.mp h1
  exact ⟨n, e.symm⟩
section
variable {P : Program} {w : World} {K : PySem.W.Frag} {mg : Str → Option Value} {base : Heap}
theorem ok_folded {f : Addr} {fd : FuncData} {k : Nat} (F : Fun K "_law_folded" "_law_folded" s_law_folded f fd) (B : Blt mg) : FnOk P w K mg base CX0 (k + 1) f fd ["_law_script", "_law_size"] (spFolded K) := by
  refine okS F sc_law_folded (fun vs H Q E h => ?_) (fun cdv A outer s H0 vs Q E hr h => ?_)
  · obtain ⟨a, ns, z, rfl, _⟩ := h
    rfl
  obtain ⟨a, ns, z, rfl, hb, z0, z1, hn, q⟩ := h
  have hw : W K H0 [] [] H0 [] [] := W.start0 (fun _ z => nomatch z) (fun _ z => nomatch z)
  refine ⟨_, [some (.ref a), some (.int z), none, none, none], (pss_cons (ps_set (i := 2) sc_law_folded.nd rfl (Or.inl rfl) (pe_callTy (call_listU (K := K)) (by rfl) B.list (by decide +kernel) (pa_cons (pe_slice (sl_U (K := K)) (pv 0) po_none (po_some (pv 1))) pa_nil)))
  (pss_cons (ps_for PassesOwn.never rfl (pi_En (K := K) (by rfl) B.enumerate (pa_cons (pe_slice (sl_U (K := K)) (pv 0) (po_some (pv 1)) (po_some pe_int)) pa_nil)) (pg_T (K := K) (n := 2) rfl (pgs_cons (pg_name (i := 3) sc_law_folded.nd rfl (Or.inl rfl)) (pgs_cons (pg_name (i := 4) sc_law_folded.nd rfl (Or.inl rfl)) pgs_nil))) (pss_one (ps_asg (pe_op (op_addU (K := K)) (pe_ix (ix_U (K := K)) (pv 2) (pe_op op_mod (pv 3) (pv 1)) (fun _ _ => rfl)) (pe_op (op_mulU (K := K)) (pv 4) (pe_op (op_addU (K := K)) (pv 3) pe_int))) (pg_sub (pv 2) (pe_op op_mod (pv 3) (pv 1)) set_list))))
  (pss_one (ps_ret (pv 2))))), rfl, ?_⟩
  walk_at "sx"
  rename_i p2 _ _ _ p1 _ _ _
  refine w_for (walk_enum (xs := cutV (ns.map V.int) (some z) (some 63))) (fun i σ H' => ∃ (ms : List Int) (y3 y4 : Option V), σ = [some (.ref a), some (.int z), some (.ref p1), y3, y4] ∧ ms.length = min z ns.length ∧
    W K H0 [] [] H' [(p, .lst (cutV (ns.map V.int) (some z) (some 63))), (p1, .lst (ms.map V.int)), (p2, .lst (cutV (ns.map V.int) none (some z)))] []) ?_ ?_ ?_ ?_
  · rw [cut_to, ← List.map_take] at hw
    rw [cut_to]
    refine ⟨ns.take z, none, none, rfl, by rw [List.length_take], ?_⟩
    rw [← List.map_take]
    exact hw
  · rintro i σ H' _ ⟨ms, y3, y4, rfl, _, hw⟩
    exact SqL.of (hw.at 0 rfl)
  · rintro i x σ H H' hi ⟨ms, y3, y4, rfl, hl, hw⟩ ⟨T, x, y, rfl, hT, rfl, e1, e2⟩
    cases e1
    obtain ⟨n, rfl⟩ := cut_mem e2
    have hz : z < ns.length := by
      rcases Nat.lt_or_ge z ns.length with h | h
      · exact h
      · rw [cut_from z _ (by rw [List.length_map]; exact h)] at hi
        exact absurd hi (Nat.not_lt_zero _)
    have hw := hw.pure (Ex.new (o := .tup [.int i, .int n]) hT)
    have hTT : SqT K (upd H T (.tup [.int i, .int n])) T [.int i, .int n] := .inl (.inl upd_same)
    have h63 : i < 1000 := by
      have := hi
      unfold cutV at this
      rw [List.length_take, List.length_drop, List.length_map] at this
      omega
    have hmod0 : 0 ≤ (i : Int) % z := Int.emod_nonneg _ (by omega)
    have hmod1 : (i : Int) % z < z := Int.emod_lt_of_pos _ (by omega)
    have hat : atI (ms.map V.int) ((i : Int) % z) = some (.int (ms[((i : Int) % z).toNat]'(by omega))) := at_ints hmod0 (by omega)
    have hix : ixN (ms.map V.int).length ((i : Int) % z) = some ((i : Int) % z).toNat := by
      unfold ixN
      rw [if_pos hmod0, if_pos (by rw [List.length_map]; omega)]
    generalize ms[((i : Int) % z).toNat]'_ = mm at hat
    walk_at "sx"
    refine ⟨ms.set ((i : Int) % z).toNat (mm + n * ((i : Int) + 2)), _, _, rfl, by rw [List.length_set]; exact hl, ?_⟩
    rw [List.map_set]
    exact hw
  · rintro σ H ⟨ms, y3, y4, rfl, hl, hw⟩
    walk_at "sx"
    exact q ms p1 H hl (hw.fresh0 1 rfl) (hw.ex) (hw.at 1 rfl)
end
end Law
namespace Law
open PySem PySem.Spec PyProof.Rows L2 Fw L2H HotX
def mkD (x : Str) (st : Stmt) (kwd : List (Str × He.Dv)) : He.DefD := ⟨(x, none), x, x, defArgs st, defBody st, defScope st, [], kwd⟩
def fn : List He.DefD := [mkD "head_text" (topS 9) [],
  mkD "parts_within" (topS 10) [],
  mkD "tree_text" (topS 11) [],
  mkD "signs_on" (topS 12) [],
  mkD "name_at" (topS 13) [],
  mkD "own_at" (topS 14) [],
  mkD "closed" (topS 15) [],
  mkD "goes_on" (topS 16) [],
  mkD "tree_in" (topS 17) [],
  mkD "_law_dip" (topS 19) [],
  mkD "_law_take" (topS 20) [],
  mkD "_law_folded" (topS 21) [],
  mkD "_law_one_of" (topS 22) [],
  mkD "_law_strewn" (topS 23) [],
  mkD "_law_named" (topS 24) [],
  mkD "_law_number" (topS 25) [],
  mkD "_law_sort_rows" (topS 26) [],
  mkD "_law_rules_for" (topS 27) [],
  mkD "_law_drawn" (topS 28) [],
  mkD "_law_any" (topS 29) [],
  mkD "_law_sizes" (topS 30) [],
  mkD "_law_grown" (topS 31) [],
  mkD "_law_tree_of" (topS 32) [],
  mkD "_law_same" (topS 33) [],
  mkD "_law_wild" (topS 34) [],
  mkD "_law_spelled" (topS 35) [],
  mkD "_law_right" (topS 36) [],
  mkD "law" (topS 37) [],
  ⟨("BadText", some "__init__"), "__init__", "BadText.__init__", defArgs (inClass (topS 1) 0), defBody (inClass (topS 1) 0), defScope (inClass (topS 1) 0), [], []⟩]
def fa : List He.Fa := [.glo "head_text", .glo "parts_within", .glo "tree_text", .glo "signs_on", .glo "name_at", .glo "own_at", .glo "closed", .glo "goes_on", .glo "tree_in", .glo "_law_dip", .glo "_law_take", .glo "_law_folded", .glo "_law_one_of", .glo "_law_strewn", .glo "_law_named", .glo "_law_number", .glo "_law_sort_rows", .glo "_law_rules_for", .glo "_law_drawn", .glo "_law_any", .glo "_law_sizes", .glo "_law_grown", .glo "_law_tree_of", .glo "_law_same", .glo "_law_wild", .glo "_law_spelled", .glo "_law_right", .glo "law", .glo "BadText", .free "len", .free "abs", .free "int", .free "list", .free "range", .free "enumerate", .free "min", .free "tuple", .free "dict", .free "all", .free "sum", .free "max", .free "sorted", .free "isinstance", .free "str", .free "bool", .free "zip", .free "repr", .free "reversed", .free "ValueError", .int "MOST_SIGNS" 6, .int "MOST_PARTS" 2, .int "MOST_DEEP" 30, .str "SMALL" "abcdefghijklmnopqrstuvwxyz", .str "FIGURES" "0123456789", .str "NO_NAME" "own"]
def ts : List He.Tab := []
def exB : PySem.W.Frag → Bool := fun K => Fw.ownB K (He.ga K "BadText") "ValueError.__new__" [.type "ValueError", .type "Exception", .type "BaseException", .type "object"] && decide (PySem.W.findIn K (.ref (He.ga K "BadText")) "at" = some none) && decide (PySem.W.findIn K (.ref (He.ga K "BadText")) "__init__" = some (some (.ref (He.ma K (He.ga K "BadText") "__init__")))) && decide (PySem.W.typeIn K (.ref (He.ma K (He.ga K "BadText") "__init__")) = some (.type "function"))
abbrev R0 : PySem.W.OpenRow := PySem.W.OpenLaw.row PySem.Challenge.rw_threereckons_k18_trees_written_and_read
abbrev hk : PySem.W.Hook := He.hookX 4 fa fn ts [] exB
def ob (s : PySem.W.SharedT) : He.AlX := He.obsX 4 fa fn ts [] exB (HandSHeadRun.getT s)
theorem ob_eq (s : PySem.W.SharedT) : ob s = hk.obs s.abs := He.obsX_eq (HandSHeadRun.getT_eq s)
def loose : List Str := (["BadText", "SMALL", "FIGURES", "MOST_SIGNS", "MOST_PARTS", "MOST_DEEP", "NO_NAME", "head_text", "parts_within", "tree_text", "signs_on", "name_at", "own_at", "closed", "goes_on", "tree_in", "_law_dip", "_law_take", "_law_folded", "_law_one_of", "_law_strewn", "_law_named", "_law_number", "_law_sort_rows", "_law_rules_for", "_law_drawn", "_law_any", "_law_sizes", "_law_grown", "_law_tree_of"] : List Str) ++ (["_law_same", "_law_wild", "_law_spelled", "_law_right"] : List Str)
theorem runF (w : World) : HandSHeadRun.RunEq R0 (PySem.W.view R0.prog [37]) hk ob 8000 loose (w.withFollow "special-get-raises" false) := by intro os; kernel_rfl
theorem runT (w : World) : HandSHeadRun.RunEq R0 (PySem.W.view R0.prog [37]) hk ob 8000 loose (w.withFollow "special-get-raises" true) := by intro os; kernel_rfl
theorem topRun (w : World) : HandSHeadRun.RunEq R0 (PySem.W.view R0.prog [37]) hk ob 8000 loose w := PySem.W.byRow2 "special-get-raises" (P := fun w => HandSHeadRun.RunEq R0 (PySem.W.view R0.prog [37]) hk ob 8000 loose w) runF runT w
end Law
namespace Law
open PySem PySem.Spec PyProof.Rows L2 Fw
structure BltT (mg : Str → Option Value) : Prop extends Blt mg where
  min : mg "min" = none
  tuple : mg "tuple" = none
abbrev s_law_one_of : Stmt := topS 22
theorem sc_law_one_of : FnScope ["_law_box", "_law_some"] ["_law_box", "_law_some"] (defScope s_law_one_of) := ⟨rfl, rfl, rfl, by decide +kernel, rfl, by decide +kernel, by decide +kernel⟩

abbrev s_law_number : Stmt := topS 25
theorem sc_law_number : FnScope ["_law_box"] ["_law_box"] (defScope s_law_number) := ⟨rfl, rfl, rfl, by decide +kernel, rfl, by decide +kernel, by decide +kernel⟩

abbrev s_law_named : Stmt := topS 24
theorem sc_law_named : FnScope ["_law_box", "_law_many", "_law_letters", "_law_found", "_law_words", "_law_k", "_law_name", "_law_turn"] ["_law_box", "_law_many"] (defScope s_law_named) := ⟨rfl, rfl, rfl, by decide +kernel, rfl, by decide +kernel, by decide +kernel⟩

def spOneOf (K : PySem.W.Frag) : Sp := fun vs H Q _ => ∃ (b p : Addr) (xs : List V) (a s c : Int), vs = [.ref b, .ref p] ∧ H b = some (box a s c) ∧ p ≠ b ∧ SqL K H p xs ∧ 0 < xs.length ∧ xs.length < 1000000 ∧ Bx a s c ∧ c + 1 < 2 ^ 40 ∧
  ∀ v a' c' H', v ∈ xs → Bx a' s c' → c' ≤ c + 1 → Ex [b] H H' → H' b = some (box a' s c') → Q v H'
def spNumber : Sp := fun vs H Q _ => ∃ (b : Addr) (a s c : Int), vs = [.ref b] ∧ H b = some (box a s c) ∧ Bx a s c ∧ c + 4 < 2 ^ 40 ∧
  ∀ (n : Int) a' c' H', 0 ≤ n → n < 1000000 → Bx a' s c' → c' ≤ c + 4 → Ex [b] H H' → H' b = some (box a' s c') → Q (.int n) H'
def spNamed : Sp := fun vs H Q _ => ∃ (b : Addr) (a s c : Int) (m : Nat), vs = [.ref b, .int m] ∧ m ≤ 14 ∧ H b = some (box a s c) ∧ Bx a s c ∧ c + 200 < 2 ^ 40 ∧
  ∀ (ns : List Str) p a' c' H', ns.length = m → (∀ x ∈ ns, NameOk x) → ns.Nodup → H p = none → Bx a' s c' → c' ≤ c + 200 → Ex [b] H H' → H' b = some (box a' s c') → H' p = some (.lst (ns.map V.str)) → p ≠ b → Q (.ref p) H'
section
variable {P : Program} {w : World} {K : PySem.W.Frag} {mg : Str → Option Value} {base : Heap} {f : Addr} {fd : FuncData} {k : Nat} {kws : List (Str × V)}
theorem ok_one_of (F : FunD K "_law_one_of" "_law_one_of" (defArgs s_law_one_of) (defBody s_law_one_of) (defScope s_law_one_of) [] kws f fd) (B : BltT mg) (G_law_take : Fq P w K mg base CX0 1 "_law_take" ["_law_box", "_law_many"] spTake) : FnG P w K mg base CX0 2 f fd ["_law_box", "_law_some"] (spOneOf K) := by
  refine okG F sc_law_one_of (fun vs H Q E h => ?_) (fun cdv A outer s H0 vs Q E hG hr h => ?_)
  · obtain ⟨b, p, xs, a, s, c, rfl, _⟩ := h
    rfl
  obtain ⟨b, pp, xs, a, s, c, rfl, hb, hne, hp, h0, h1, bx, hc, q⟩ := h
  have hw : W K H0 [b] [] H0 [(b, box a s c)] [] := W.start1 hb (fun _ z => nomatch z) (fun _ z => nomatch z)
  have keep : ∀ {H L R}, W K H0 [b] [] H L R → SqL K H pp xs := fun {H L R} hw => by
    rcases hp with (h | ⟨o, h⟩) | h
    · exact .inl (.inl (hw.ex _ _ (fun z => hne (List.mem_singleton.mp z)) h))
    · exact .inl (.inr ⟨o, hw.ex _ _ (fun z => hne (List.mem_singleton.mp z)) h⟩)
    · exact .inr h
  refine ⟨_, [some (.ref b), some (.ref pp)], (pss_one (ps_ret (pe_ix (ix_U (K := K)) (pv 1) (pe_fq hG G_law_take hr (by first | decide | omega) (by rfl) pass0 (pa_cons (pv 0) (pa_cons (pe_callB (call_lenU (K := K)) (by rfl) B.len (by decide +kernel) (pa_cons (pv 1) pa_nil)) pa_nil))) (fun _ _ => rfl)))), rfl, ?_⟩
  walk_at "sx"
  exact x_ixAny (keep hw) hr0 hr1 fun v hv => q v _ _ _ hv bx (by omega) hw.ex (hw.at 0 rfl)
theorem ok_number (F : FunD K "_law_number" "_law_number" (defArgs s_law_number) (defBody s_law_number) (defScope s_law_number) [] kws f fd) (G_law_take : Fq P w K mg base CX0 1 "_law_take" ["_law_box", "_law_many"] spTake) : FnG P w K mg base CX0 2 f fd ["_law_box"] spNumber := by
  refine okG F sc_law_number (fun vs H Q E h => ?_) (fun cdv A outer s H0 vs Q E hG hr h => ?_)
  · obtain ⟨b, a, s, c, rfl, _⟩ := h
    rfl
  obtain ⟨b, a, s, c, rfl, hb, bx, hc, q⟩ := h
  have hw : W K H0 [b] [] H0 [(b, box a s c)] [] := W.start1 hb (fun _ z => nomatch z) (fun _ z => nomatch z)
  refine ⟨_, [some (.ref b)], (pss_one (ps_ret (pe_ix (ix_U (K := K)) (pe_lst (pa_cons (pe_fq hG G_law_take hr (by first | decide | omega) (by rfl) pass0 (pa_cons (pv 0) (pa_cons pe_int pa_nil))) (pa_cons (pe_fq hG G_law_take hr (by first | decide | omega) (by rfl) pass0 (pa_cons (pv 0) (pa_cons pe_int pa_nil))) (pa_cons (pe_fq hG G_law_take hr (by first | decide | omega) (by rfl) pass0 (pa_cons (pv 0) (pa_cons (pe_powc (z := 1000000) ⟨by decide, by decide, by decide⟩ (by rfl)) pa_nil))) pa_nil)))) (pe_fq hG G_law_take hr (by first | decide | omega) (by rfl) pass0 (pa_cons (pv 0) (pa_cons pe_int pa_nil))) (fun _ _ => rfl)))), rfl, ?_⟩
  walk_at "sx"
  refine x_ixAny (SqL.of (hw.at 0 rfl)) hr0 (by exact hr1) fun v hv => ?_
  simp only [List.mem_cons, List.not_mem_nil, or_false] at hv
  rcases hv with rfl | rfl | rfl <;> exact q _ _ _ _ (by omega) (by omega) bx (by omega) hw.ex (hw.at 1 rfl)
end
def abc : Str := "abcdefghijklmnopqrstuvwxyz"
theorem abc_ok : ∀ c ∈ cd abc, 97 ≤ c ∧ c ≤ 122 := by decide +kernel
theorem abc_len : (cd abc).length = 26 := by decide +kernel
def words : Str := "copy plus less over rest least same pick sort make rule cap kept at number lay put end ask tree"
theorem words_split : (Txt.split words " ").length = 20 ∧ ∀ x ∈ Txt.split words " ", 1 ≤ x.length ∧ x.length ≤ 6 ∧ (∀ c ∈ cd x, 97 ≤ c ∧ c ≤ 122) := by decide +kernel
/-- small letters, one to six -/
structure Nm (x : Str) : Prop where
  l1 : 1 ≤ x.length
  l6 : x.length ≤ 6
  small : ∀ c ∈ cd x, 97 ≤ c ∧ c ≤ 122
theorem join_signs : ∀ (ys : List Str), (∀ y ∈ ys, y.length = 1 ∧ ∀ c ∈ cd y, 97 ≤ c ∧ c ≤ 122) → (Txt.join "" ys).length = ys.length ∧ ∀ c ∈ cd (Txt.join "" ys), 97 ≤ c ∧ c ≤ 122 := by
  intro ys h
  have e : Txt.join "" ys = Str.join "" ys := PySem.StrLaws.glued_eq_join "" ys
  rw [e]
  induction ys with
  | nil => exact ⟨rfl, fun c hc => by simp [Str.join, Str.empty] at hc⟩
  | cons y r ih =>
    have ih := ih (fun y hy => h y (List.mem_cons_of_mem _ hy)) (PySem.StrLaws.glued_eq_join "" r)
    have hy := h y (List.mem_cons_self ..)
    cases r with
    | nil => exact ⟨hy.1, hy.2⟩
    | cons z r =>
      have e2 : Str.join "" (y :: z :: r) = y ++ "" ++ Str.join "" (z :: r) := rfl
      rw [e2]
      refine ⟨?_, fun c hc => ?_⟩
      · rw [strLen_append, strLen_append, hy.1, ih.1]
        show 1 + 0 + _ = _
        simp; omega
      · rw [cd_app, cd_app] at hc
        rcases List.mem_append.mp hc with hc | hc
        · rcases List.mem_append.mp hc with hc | hc
          · exact hy.2 c hc
          · exact absurd hc (fun z => nomatch z)
        · exact ih.2 c hc
section
variable {P : Program} {w : World} {K : PySem.W.Frag} {mg : Str → Option Value} {base : Heap} {f : Addr} {fd : FuncData} {k : Nat} {kws : List (Str × V)}
theorem x_ixC {K : PySem.W.Frag} {H : Hp} {Q : VK} {u : Str} {i : Int} (h : u.length ≤ 1000000) (h0 : 0 ≤ i) (h1 : i < u.length) (k : ∀ y : Str, y.length = 1 → (∀ c ∈ cd y, c ∈ cd u) → Q (.str y) H) : uIx K (.str u) (.int i) H Q :=
  x_ixS (Nat.le_trans h (by rw [sizeLine_eq]; decide)) (at_get h0 (by rw [Array.length_toList]; exact h1)) (k _ rfl fun c hc => by
    have e : c = _ := List.mem_singleton.mp hc
    rw [e]
    exact List.getElem_mem _)
theorem nodup_snoc {α : Type} {xs : List α} {x : α} (h : xs.Nodup) (n : x ∉ xs) : (xs ++ [x]).Nodup := List.nodup_append.mpr ⟨h, List.nodup_cons.mpr ⟨(fun z => nomatch z), .nil⟩, fun a ha b hb e => by rw [List.mem_singleton.mp hb] at e; exact n (e ▸ ha)⟩
theorem nodup_sub : ∀ {B ns : List Str}, B.Nodup → (∀ x ∈ B, x ∈ ns) → B.length ≤ ns.length
  | [], _, _, _ => Nat.zero_le _
  | x :: B, ns, nd, h => by
    obtain ⟨h1, h2⟩ := List.nodup_cons.mp nd
    have hx := h x (List.mem_cons_self ..)
    have := nodup_sub (B := B) (ns := ns.erase x) h2 fun y hy => by
      have : y ≠ x := fun e => h1 (e ▸ hy)
      exact (List.mem_erase_of_ne this).mpr (h y (List.mem_cons_of_mem _ hy))
    rw [List.length_erase_of_mem hx] at this
    have : 0 < ns.length := List.length_pos_of_mem hx
    rw [List.length_cons]
    omega
def lastC (x : Str) : Option Nat := (cd x).getLast?
theorem abc_at {j : Nat} (h : j < 26) : ∃ c, (cd abc)[j]? = some c ∧ c = 97 + j := by
  have key : ∀ j : Fin 26, ∃ c, (cd abc)[j.val]? = some c ∧ c = 97 + j.val := by decide +kernel
  exact key ⟨j, h⟩
theorem name_new {name y : Str} {d : Nat} (h : Nm name) (hd : cd y = [d]) (h2 : d ∈ cd abc) : Nm (cutS name none (some 4) ++ ⟨#[97]⟩ ++ y) ∧ cutS name none (some 4) ++ ⟨#[97]⟩ ++ y ≠ "own" ∧ lastC (cutS name none (some 4) ++ ⟨#[97]⟩ ++ y) = some d := by
  obtain ⟨l1, l6, sm⟩ := h
  have hc : cd (cutS name none (some (4 : Int))) = (cd name).take 4 := by
    unfold cutS
    rw [HT.sIx_none, show ((4 : Int)) = ((4 : Nat) : Int) from rfl, HT.sIx_nat, List.drop_zero, Nat.sub_zero]
    show ((cd name).take (min 4 name.length)) = _
    by_cases h4 : 4 ≤ name.length
    · rw [Nat.min_eq_left h4]
    · rw [Nat.min_eq_right (by omega), List.take_of_length_le (by rw [cd_len]; omega), List.take_of_length_le (by rw [cd_len]; omega)]
  have hs : cd (cutS name none (some 4) ++ ⟨#[97]⟩ ++ y) = (cd name).take 4 ++ [97] ++ [d] := by rw [cd_app, cd_app, hc, hd]
  have hl : (cutS name none (some 4) ++ ⟨#[97]⟩ ++ y).length = min 4 name.length + 2 := by
    rw [← cd_len, hs]
    simp only [List.length_append, List.length_take, List.length_cons, List.length_nil]
    rw [cd_len]
  refine ⟨⟨by omega, by omega, fun c hcc => ?_⟩, fun e => ?_, ?_⟩
  · rw [hs] at hcc
    rcases List.mem_append.mp hcc with hcc | hcc
    · rcases List.mem_append.mp hcc with hcc | hcc
      · exact sm c (List.mem_of_mem_take hcc)
      · rw [List.mem_singleton.mp hcc]; decide
    · rw [List.mem_singleton.mp hcc]; exact abc_ok d h2
  · have e1 := congrArg cd e
    rw [hs] at e1
    have e2 : cd (Str.ofString "own") = [111, 119, 110] := by decide +kernel
    rw [e2] at e1
    match hq : (cd name).take 4, e1 with
    | [], e1 => simp at e1
    | [_], e1 => simp at e1
    | _ :: _ :: _, e1 =>
      have := congrArg List.length e1
      simp at this
  · unfold lastC
    rw [hs, List.getLast?_append]
    rfl
/-- a name on its way: good, or behind so many others that were taken -/
def Way (ns : List Str) (j : Nat) (name : Str) : Prop := (name ∉ ns ∧ name ≠ "own") ∨ (0 < j → name ≠ "own" ∧ lastC name = some (97 + (j - 1)) ∧ ∃ B : List Str, B.Nodup ∧ (∀ x ∈ B, x ∈ ns) ∧ B.length + 1 = j ∧ ∀ x ∈ B, ∃ i, i + 1 < j ∧ lastC x = some (97 + i))
theorem Way.on {ns : List Str} {j : Nat} {name name' : Str} (h : Way ns j name) (bad : name ∈ ns ∨ name = "own") (h1 : name' ≠ "own") (h2 : lastC name' = some (97 + j)) : Way ns (j + 1) name' := by
  refine .inr fun _ => ⟨h1, h2, ?_⟩
  rcases h with ⟨a, b⟩ | h
  · rcases bad with z | z
    · exact absurd z a
    · exact absurd z b
  · cases j with
    | zero => exact ⟨[], .nil, (fun _ z => nomatch z), rfl, fun _ z => nomatch z⟩
    | succ j =>
      obtain ⟨a, b, B, nd, hs, hl, hx⟩ := h (Nat.succ_pos _)
      have hin : name ∈ ns := bad.resolve_right a
      refine ⟨name :: B, List.nodup_cons.mpr ⟨fun z => ?_, nd⟩, fun x hx => ?_, by rw [List.length_cons, hl], fun x hx' => ?_⟩
      · obtain ⟨i, h1, h2⟩ := hx name z
        rw [b] at h2
        have := Option.some.inj h2
        omega
      · rcases List.mem_cons.mp hx with rfl | hx
        · exact hin
        · exact hs x hx
      · rcases List.mem_cons.mp hx' with rfl | hx'
        · exact ⟨j, by omega, by rw [b]; rfl⟩
        · obtain ⟨i, h1, h2⟩ := hx x hx'
          exact ⟨i, by omega, h2⟩
theorem Way.good {ns : List Str} {name : Str} (h : Way ns (ns.length + 2) name) : name ∉ ns ∧ name ≠ "own" := by
  rcases h with h | h
  · exact h
  · obtain ⟨_, _, B, nd, hs, hl, _⟩ := h (by omega)
    have := nodup_sub nd hs
    omega
theorem ok_named (F : FunD K "_law_named" "_law_named" (defArgs s_law_named) (defBody s_law_named) (defScope s_law_named) [] kws f fd) (B : BltT mg) (G_law_take : Fq P w K mg base CX0 1 "_law_take" ["_law_box", "_law_many"] spTake) : FnG P w K mg base CX0 2 f fd ["_law_box", "_law_many"] spNamed := by
  refine okG F sc_law_named (fun vs H Q E h => ?_) (fun cdv A outer s H0 vs Q E hG hr h => ?_)
  · obtain ⟨b, a, s, c, m, rfl, _⟩ := h
    rfl
  obtain ⟨b, a, s, c, m, rfl, hm, hb, bx, hc, q⟩ := h
  have hw : W K H0 [b] [] H0 [(b, box a s c)] [] := W.start1 hb (fun _ z => nomatch z) (fun _ z => nomatch z)
  have hla : abc.length = 26 := by decide +kernel
  refine ⟨_, [some (.ref b), some (.int m), none, none, none, none, none, none], (pss_cons (ps_asg (pe_tup (pa_cons pe_str (pa_cons (pe_lst pa_nil) pa_nil))) (pg_T (K := K) (n := 2) rfl (pgs_cons (pg_name (i := 2) sc_law_named.nd rfl (Or.inr rfl)) (pgs_cons (pg_name (i := 3) sc_law_named.nd rfl (Or.inl rfl)) pgs_nil))))
  (pss_cons (ps_set (i := 4) sc_law_named.nd rfl (Or.inl rfl) pe_str)
  (pss_cons (ps_for PassesOwn.never rfl (pi_range1 (by rfl) B.range (pa_cons (pv 1) pa_nil)) (pg_name (i := 5) sc_law_named.nd rfl (Or.inl rfl)) (pss_cons (ps_set (i := 6) sc_law_named.nd rfl (Or.inl rfl) (Fw.pe_m1 (K := K) PySem.F.plainAttrs_str PySem.F.slot_str_join PySem.F.type_str_join mt_join pe_str (pa_cons (pe_lc (own := [("_law_turn", 7)]) rfl sc_law_named.nd (pi_range1 (by rfl) B.range (pa_cons (pe_ix (ix_U (K := K)) (pe_lst (pa_cons pe_int (pa_cons pe_int (pa_cons pe_int (pa_cons pe_int pa_nil))))) (pe_fq hG G_law_take hr (by first | decide | omega) (by rfl) pass0 (pa_cons (pv 0) (pa_cons pe_int pa_nil))) (fun _ _ => rfl)) pa_nil)) (blkOk_by (own := [("_law_turn", 7)]) (N := ["_law_box", "_law_many", "_law_letters", "_law_found", "_law_words", "_law_k", "_law_name", "_law_turn"]) (sc := defScope s_law_named) (by decide +kernel)) (fun _ _ _ _ _ => (pg_name (i := 7) sc_law_named.nd rfl (Or.inl rfl))) (fun _ _ _ _ _ => pts_nil) (fun _ _ _ _ _ => (pe_ix (ix_U (K := K)) (pv 2) (pe_fq hG G_law_take hr (by first | decide | omega) (by rfl) pass0 (pa_cons (pv 0) (pa_cons pe_int pa_nil))) (fun _ _ => rfl)))) pa_nil)))
  (pss_cons (ps_if (pt_cmpR (op_eqU (K := K) hr) (pe_fq hG G_law_take hr (by first | decide | omega) (by rfl) pass0 (pa_cons (pv 0) (pa_cons pe_int pa_nil))) pe_int (nomark _)) (pss_one (ps_set (i := 6) sc_law_named.nd rfl (Or.inl rfl) (pe_ix (ix_U (K := K)) (Fw.pe_m1 (K := K) PySem.F.plainAttrs_str PySem.F.slot_str_split PySem.F.type_str_split mt_split (pv 4) (pa_cons pe_str pa_nil)) (pe_fq hG G_law_take hr (by first | decide | omega) (by rfl) pass0 (pa_cons (pv 0) (pa_cons pe_int pa_nil))) (fun _ _ => rfl)))) pss_nil)
  (pss_cons (ps_for PassesOwn.never rfl (pi_range1 (by rfl) B.range (pa_cons (pe_op (op_addU (K := K)) (pe_callB (call_lenU (K := K)) (by rfl) B.len (by decide +kernel) (pa_cons (pv 3) pa_nil)) pe_int) pa_nil)) (pg_name (i := 7) sc_law_named.nd rfl (Or.inl rfl)) (pss_one (ps_if (PW.pt (pw_or (pt_cmpR (op_inU (K := K) hr) (pv 6) (pv 3) (by rfl)) (pw_or1 (pt_cmpR (op_eqU (K := K) hr) (pv 6) pe_str (nomark _))))) (pss_one (ps_set (i := 6) sc_law_named.nd rfl (Or.inl rfl) (pe_op (op_addU (K := K)) (pe_op (op_addU (K := K)) (pe_slice (sl_U (K := K)) (pv 6) po_none (po_some pe_int)) (pe_ix (ix_U (K := K)) (pv 2) (pe_op op_fdiv (pv 7) pe_int) (fun _ _ => rfl))) (pe_ix (ix_U (K := K)) (pv 2) (pe_op op_mod (pv 7) pe_int) (fun _ _ => rfl))))) pss_nil)))
  (pss_one (ps_expr (Fw.pe_m1 (K := K) PySem.F.plainAttrs_list PySem.F.slot_list_append PySem.F.type_list_append mt_append (pv 3) (pa_cons (pv 6) pa_nil))))))))
  (pss_one (ps_ret (pv 3)))))), rfl, ?_⟩
  walk_at "sx"
  replace hw := hw.drop1
  rename_i pf _ _ _
  refine w_for walk_range (fun i σ H' => ∃ (ns : List Str) (a1 c1 : Int) (y5 y6 y7 : Option V), σ = [some (.ref b), some (.int m), some (.str abc), some (.ref pf), some (.str words), y5, y6, y7] ∧ ns.length = i ∧ (∀ x ∈ ns, NameOk x) ∧ ns.Nodup ∧ Bx a1 s c1 ∧ c1 ≤ c + 10 * i ∧ W K H0 [b] [] H' [(pf, .lst (ns.map V.str)), (b, box a1 s c1)] []) ?_ ?_ ?_ ?_
  · exact ⟨[], a, c, _, _, _, rfl, rfl, (fun _ z => nomatch z), .nil, bx, by omega, hw⟩
  · intros
    trivial
  · rintro i x σ H _ hi ⟨ns, a1, c1, y5, y6, y7, rfl, hln, hns, hnd, bx, hc1, hw⟩ ⟨rfl, rfl⟩
    have hi14 : i < 14 := by omega
    walk_at "sx"
    refine x_ixAny (SqL.of (hw.at 0 rfl)) hr0 (by exact hr1) fun v hv => ?_
    obtain ⟨n, rfl, hn1, hn6⟩ : ∃ n : Nat, v = .int n ∧ 1 ≤ n ∧ n ≤ 6 := by
      simp only [List.mem_cons, List.not_mem_nil, or_false] at hv
      rcases hv with rfl | rfl | rfl | rfl
      · exact ⟨1, rfl, by decide, by decide⟩
      · exact ⟨2, rfl, by decide, by decide⟩
      · exact ⟨3, rfl, by decide, by decide⟩
      · exact ⟨6, rfl, by decide, by decide⟩
    rename_i _ a2 c2 _ _ _ _ _ _
    replace hw := hw.drop1
    walk_at "sx"
    refine w_lcK hw walk_range (fun D j H' => ∃ (ys : List Str) (a3 c3 : Int), ys.length = j ∧ (∀ y ∈ ys, y.length = 1 ∧ ∀ c ∈ cd y, 97 ≤ c ∧ c ≤ 122) ∧ Bx a3 s c3 ∧ c3 ≤ c1 + 1 + j ∧ W K H0 [b] [] H' [(D, .lst (ys.map V.str)), (pf, .lst (ns.map V.str)), (b, box a3 s c3)] []) ?_ ?_ ?_ ?_
    · intro D H _ hw
      exact ⟨[], _, _, rfl, (fun _ z => nomatch z), bx, by omega, hw⟩
    · intros
      trivial
    · rintro D j x H _ hj ⟨ys, a3, c3, hly, hys, bx, hc3, hw⟩ ⟨rfl, rfl⟩
      rw [Int.toNat_natCast] at hj
      have hz : (ys.map V.str).length < sizeLine := sz_lt (by rw [List.length_map]; omega)
      walk_at "sx"
      refine x_ixC (by rw [hla]; decide) hr0 (by rw [hla]; exact hr1) fun y hy1 hy2 => ?_
      walk_at "sx"
      refine ⟨ys ++ [y], _, _, by simp [hly], fun z hz => ?_, bx, by omega, by rw [List.map_append]; exact hw⟩
      rcases List.mem_append.mp hz with hz | hz
      · exact hys z hz
      · rw [List.mem_singleton.mp hz]
        exact ⟨hy1, fun c hc => abc_ok c (hy2 c hc)⟩
    rintro D H ⟨ys, a3, c3, hly, hys, bx, hc3, hw⟩
    rw [Int.toNat_natCast] at hly hc3
    obtain ⟨hj1, hj2⟩ := join_signs ys hys
    walk_at "sx"
    refine ⟨_, D, ys, rfl, rfl, .inl (SqL.of (hw.at 0 rfl)), ?_, ?_⟩
    · have e0 : (Str.ofString "").length = 0 := rfl
      have : (ys.map (·.length)).sum ≤ 6 * 1 := by
        have key : ∀ ys : List Str, (∀ y ∈ ys, y.length = 1 ∧ ∀ c ∈ cd y, 97 ≤ c ∧ c ≤ 122) → (ys.map (·.length)).sum = ys.length := by
          intro ys h
          induction ys with
          | nil => rfl
          | cons y r ih => rw [List.map_cons, List.sum_cons, ih fun z hz => h z (List.mem_cons_of_mem _ hz), (h y (List.mem_cons_self ..)).1, List.length_cons]; omega
        rw [key ys hys]; omega
      rw [e0]
      omega
    have hnm : Nm (Txt.join "" ys) := ⟨by omega, by omega, hj2⟩
    generalize Txt.join "" ys = name at hnm
    replace hw := hw.drop1
    have hc9 : c3 ≤ c1 + 7 := by omega
    clear hj1 hj2 hc3 hly hys
    walk_at "sx"
    refine x_ifd (fun c5 => ?b1) (fun c5 => ?b2)
    case' b1 =>
      walk_at "sx"
      refine ⟨_, _, rfl, rfl, by decide, by decide +kernel, fun p hp => ?_⟩
      replace hw := hw.new hp (.lst ((Txt.split words " ").map V.str))
      walk_at "sx"
      refine x_ixAny (SqL.of (hw.at 0 rfl)) hr0 (by rw [List.length_map, words_split.1]; exact hr1) fun v hv => ?_
      obtain ⟨name, hname, rfl⟩ := List.mem_map.mp hv
      obtain ⟨z1, z2, z3⟩ := words_split.2 name hname
      have hnm : Nm name := ⟨z1, z2, z3⟩
      replace hw := hw.drop1
    all_goals
      walk_at "sx"
      refine w_for walk_range (fun j σ H' => ∃ (name : Str) (y7 : Option V), σ = [some (.ref b), some (.int m), some (.str abc), some (.ref pf), some (.str words), some (.int (0 + i)), some (.str name), y7] ∧ Nm name ∧ Way ns j name ∧ W K H0 [b] [] H' [(pf, .lst (ns.map V.str)), (b, box a s c)] []) ?_ ?_ ?_ ?_
      · exact ⟨name, _, rfl, hnm, .inr (fun z => absurd z (by decide)), hw⟩
      · intros
        trivial
      · rintro j x σ H _ hj ⟨name, y7, rfl, hnm, hown, hw⟩ ⟨rfl, rfl⟩
        have hj20 : j < 16 := by
          rw [List.length_map] at hj
          omega
        have hl1 := hnm.l1
        have hl6 := hnm.l6
        have e26 : (0 + (j : Int)) / 26 = 0 := by omega
        walk_at "sx"
        refine x_inL (xs := ns.map V.str) (SqL.of (hw.at 0 rfl)) rfl (by simp [flatV]) ?_
        rw [inV_strs]
        walk_at "sx"
        refine x_ifd (fun c7 => ?_) (fun c7 => ?_)
        rotate_left
        walk_at "sx"
        refine x_ifd (fun c8 => ?_) (fun c8 => ?_)
        rotate_left
        · walk_at "sx"
          exact ⟨name, _, rfl, hnm, .inl ⟨c7, c8⟩, hw⟩
        all_goals
          walk_at "sx"
          refine x_slX (by omega) ?_
          walk_at "sx"
          rw [e26]
          refine x_ixS (c := 97) (by rw [hla, sizeLine_eq]; decide) rfl ?_
          walk_at "sx"
          refine x_addS (by rw [sizeLine_eq]; have := cutS_length name none (some 4); show _ + 1 ≤ _; omega) ?_
          walk_at "sx"
          obtain ⟨d, hd1, hd2⟩ := abc_at (j := j) (by omega)
          rw [show (0 + (j : Int)) % 26 = ((j : Nat) : Int) by omega]
          refine x_ixS (c := d) (by rw [hla, sizeLine_eq]; decide) (atI_nat hd1) ?_
          walk_at "sx"
          obtain ⟨nn, hno, hla2⟩ := name_new (y := ⟨#[d]⟩) hnm rfl (List.mem_of_getElem? hd1)
          replace hla2 := hla2.trans (congrArg some hd2)
          refine x_addS (by rw [sizeLine_eq]; have := nn.l6; rw [strLen_append] at this; omega) ?_
          walk_at "sx"
          exact ⟨_, _, rfl, nn, hown.on (by first | exact .inl c7 | exact .inr c8) hno hla2, hw⟩
      rintro σ H ⟨name, y7, rfl, hnm, hown, hw⟩
      have hz : (ns.map V.str).length < sizeLine := sz_lt (by rw [List.length_map]; omega)
      have hno : name ∉ ns ∧ name ≠ "own" := Way.good (by rw [List.length_map, show (((ns.length : Nat) : Int) + 2).toNat = ns.length + 2 by omega] at hown; exact hown)
      walk_at "sx"
      refine ⟨ns ++ [name], a, c, _, _, _, rfl, by simp [hln], fun z hz => ?_, nodup_snoc hnd hno.1, bx, by omega, by rw [List.map_append]; exact hw⟩
      rcases List.mem_append.mp hz with hz | hz
      · exact hns z hz
      · rw [List.mem_singleton.mp hz]
        exact ⟨hnm.l1, hnm.l6, hnm.small, hno.2⟩
  · rintro σ H ⟨ns, a1, c1, y5, y6, y7, rfl, hln, hns, hnd, bx, hc1, hw⟩
    walk_at "sx"
    rw [Int.toNat_natCast] at hln hc1
    exact q ns pf _ _ _ hln hns hnd (hw.fresh1 0 1 rfl rfl (by decide)) bx (by omega) hw.ex (hw.at 1 rfl) (hw.at 0 rfl) (hw.ne (i := 0) (j := 1) rfl rfl (by decide))
end
end Law
namespace Law
open PySem PySem.Spec PyProof.Rows L2 Fw
abbrev s_law_strewn : Stmt := topS 23
theorem sc_law_strewn : FnScope ["_law_box", "_law_some", "_law_found", "_law_one"] ["_law_box", "_law_some"] (defScope s_law_strewn) := ⟨rfl, rfl, rfl, by decide +kernel, rfl, by decide +kernel, by decide +kernel⟩

abbrev s_law_sort_rows : Stmt := topS 26
theorem sc_law_sort_rows : FnScope ["_law_box", "_law_many", "_law_names", "_law_rows", "_law_k", "_law_some", "_law_cut"] ["_law_box", "_law_many"] (defScope s_law_sort_rows) := ⟨rfl, rfl, rfl, by decide +kernel, rfl, by decide +kernel, by decide +kernel⟩

def spStrewn (K : PySem.W.Frag) : Sp := fun vs H Q _ => ∃ (M : List Addr) (b p : Addr) (ds : List PyData) (a s c : Int), vs = [.ref b, .ref p] ∧ Al M H ∧ b ∈ M ∧ H b = some (box a s c) ∧ Bx a s c ∧ (Rp K M H (.ref p) (.list ds) ∨ Rp K M H (.ref p) (.tuple ds)) ∧ ds.length ≤ 1000 ∧ c + ds.length < 2 ^ 40 ∧
  ∀ q ds' a' c' H', ds'.Perm ds → Bx a' s c' → c' ≤ c + ds.length → Ex [b] H H' → H' b = some (box a' s c') → Rp K M H' (.ref q) (.list ds') → Q (.ref q) H'
structure SOk (r : SRow) : Prop where
  nm : NameOk r.1
  dn : r.2.1.length ≤ 2
  up : r.2.2.length ≤ 2
  all : r.2.1.length + r.2.2.length ≤ 3
  nd : (r.2.1 ++ r.2.2).Nodup
  ok : ∀ x ∈ r.2.1 ++ r.2.2, NameOk x
def spSortRows (K : PySem.W.Frag) : Sp := fun vs H Q _ => ∃ (M : List Addr) (b : Addr) (a s c : Int) (m : Nat), vs = [.ref b, .int m] ∧ 1 ≤ m ∧ m ≤ 4 ∧ Al M H ∧ b ∈ M ∧ H b = some (box a s c) ∧ Bx a s c ∧ c + 300 < 2 ^ 40 ∧
  ∀ q (rows : List SRow) a' c' H', rows.length = m → (rows.map (·.1)).Nodup → (∀ r ∈ rows, SOk r) → Bx a' s c' → c' ≤ c + 300 → Ex [b] H H' → H' b = some (box a' s c') → Rp K M H' (.ref q) (.list (rows.map SRow.d)) → Q (.ref q) H'
section
variable {K : PySem.W.Frag} {H0 H : Hp} {Ms M0 : List Addr} {L : List (Addr × HO)} {R : List Fa} {b p : Addr} {a s c : Int} {Q : VK} {E : XK}
theorem x_named {m : Int} {n : Nat} (hw : W K H0 Ms M0 H L R) (i : Nat) (hL : L[i]? = some (b, box a s c)) (hm : m = n) (hn : n ≤ 14) (bx : Bx a s c) (hc : c + 200 < 2 ^ 40)
    (q : ∀ (ns : List Str) p a' c' H', ns.length = n → (∀ x ∈ ns, NameOk x) → ns.Nodup → Bx a' s c' → c' ≤ c + 200 → W K H0 Ms M0 H' (L.set i (b, box a' s c')) (.rp (.ref p) (.list (ns.map PyData.str)) :: R) → Q (.ref p) H') : spNamed [.ref b, .int m] H Q E := by
  subst hm
  refine ⟨b, a, s, c, n, rfl, hn, hw.at i hL, bx, hc, fun ns p a' c' H' h1 h2 h3 h4 h5 h6 h7 h8 h9 h10 => q ns p a' c' H' h1 h2 h3 h5 h6 (hw.callD i hL h7 h8 (Dd.lst ?_ (DdAll.strs ns)))⟩
  rw [del_out fun z => hw.alloc' p z h4]
  exact h9
theorem x_strewn {ds : List PyData} (hw : W K H0 Ms M0 H L R) (i : Nat) (hL : L[i]? = some (b, box a s c)) (h : Rp K (av L M0) H (.ref p) (.list ds) ∨ Rp K (av L M0) H (.ref p) (.tuple ds)) (hl : ds.length ≤ 1000) (bx : Bx a s c) (hc : c + ds.length < 2 ^ 40)
    (q : ∀ p ds' a' c' H', ds'.Perm ds → Bx a' s c' → c' ≤ c + ds.length → W K H0 Ms M0 H' (L.set i (b, box a' s c')) (.rp (.ref p) (.list ds') :: R) → Q (.ref p) H') : spStrewn K [.ref b, .ref p] H Q E :=
  ⟨av L M0, b, p, ds, a, s, c, rfl, hw.alloc', List.mem_append_left _ (List.mem_map.mpr ⟨_, List.mem_of_getElem? hL, rfl⟩), hw.at i hL, bx, h, hl, hc, fun p' ds' a' c' H' k1 k2 k3 k4 k5 k6 => q p' ds' a' c' H' k1 k2 k3 (hw.callD i hL k4 k5 k6)⟩
theorem x_oneD {ds : List PyData} (hw : W K H0 Ms M0 H L R) (i : Nat) (hL : L[i]? = some (b, box a s c)) (h : Rp K (av L M0) H (.ref p) (.list ds)) (h0 : 0 < ds.length) (hl : ds.length ≤ 1000) (bx : Bx a s c) (hc : c + 1 < 2 ^ 40)
    (q : ∀ v d a' c' H', d ∈ ds → Bx a' s c' → c' ≤ c + 1 → W K H0 Ms M0 H' (L.set i (b, box a' s c')) (.rp v d :: R) → Q v H') : spOneOf K [.ref b, .ref p] H Q E := by
  obtain ⟨xs, hx, hr⟩ := Rp.unL h
  have hl2 := hr.length
  have hne : p ≠ b := by
    cases h with
    | lst z _ =>
      intro e
      subst e
      exact (del_some z).1 (List.mem_append_left _ (List.mem_map.mpr ⟨_, List.mem_of_getElem? hL, rfl⟩))
  refine ⟨b, p, xs, a, s, c, rfl, hw.at i hL, hne, SqL.of hx, by omega, by omega, bx, hc, fun v a' c' H' k1 k2 k3 k4 k5 => ?_⟩
  obtain ⟨n, hn⟩ := List.mem_iff_getElem?.mp k1
  obtain ⟨d, hd, hrp⟩ := RpAll.item hr hn
  refine q v d a' c' H' (List.mem_of_getElem? hd) k2 k3 (hw.callD i hL k4 k5 (hrp.call k4 fun x hx => ?_))
  rw [List.mem_singleton.mp hx]
  exact List.mem_append_left _ (List.mem_map.mpr ⟨_, List.mem_of_getElem? hL, rfl⟩)
theorem x_number (hw : W K H0 Ms M0 H L R) (i : Nat) (hL : L[i]? = some (b, box a s c)) (bx : Bx a s c) (hc : c + 4 < 2 ^ 40)
    (q : ∀ (n : Nat) a' c' H', n < 1000000 → Bx a' s c' → c' ≤ c + 4 → W K H0 Ms M0 H' (L.set i (b, box a' s c')) R → Q (.int n) H') : spNumber [.ref b] H Q E := by
  refine ⟨b, a, s, c, rfl, hw.at i hL, bx, hc, fun n a' c' H' h0 h1 h2 h3 h4 h5 => ?_⟩
  obtain ⟨m, rfl⟩ := Int.eq_ofNat_of_zero_le h0
  exact q m a' c' H' (by omega) h2 h3 (hw.call i hL h4 h5)
end
section
variable {P : Program} {w : World} {K : PySem.W.Frag} {mg : Str → Option Value} {base : Heap} {f : Addr} {fd : FuncData} {k : Nat} {kws : List (Str × V)}
theorem ok_strewn (F : FunD K "_law_strewn" "_law_strewn" (defArgs s_law_strewn) (defBody s_law_strewn) (defScope s_law_strewn) [] kws f fd) (B : BltT mg) (G_law_take : Fq P w K mg base CX0 1 "_law_take" ["_law_box", "_law_many"] spTake) : FnG P w K mg base CX0 2 f fd ["_law_box", "_law_some"] (spStrewn K) := by
  refine okG F sc_law_strewn (fun vs H Q E h => ?_) (fun cdv A outer s H0 vs Q E hG hr h => ?_)
  · obtain ⟨M, b, p, ds, a, s, c, rfl, _⟩ := h
    rfl
  obtain ⟨M, b, pp, ds, a, s, c, rfl, hM, hbM, hb, bx, hp, hl, hc, q⟩ := h
  rcases hp with hp | hp
  · have hw : W K H0 [b] M H0 [(b, box a s c)] [.rp (.ref pp) (.list ds)] := W.start1 hb hM (fun r z => by rw [List.mem_singleton.mp z]; exact fa_in (r := .rp _ _) hp hbM)
    obtain ⟨xs, hxs, hw⟩ := hw.open (hw.rp 0 rfl)
    replace hw := hw.addA hxs
    have hxl := hxs.length
    refine ⟨_, [some (.ref b), some (.ref pp), none, none], (pss_cons (ps_set (i := 2) sc_law_strewn.nd rfl (Or.inl rfl) (pe_lst pa_nil))
  (pss_cons (ps_for PassesOwn.never rfl (pi_U (K := K) (pv 1)) (pg_name (i := 3) sc_law_strewn.nd rfl (Or.inl rfl)) (pss_one (ps_expr (Fw.pe_m1 (K := K) PySem.F.plainAttrs_list PySem.F.slot_list_insert PySem.F.type_list_insert mt_insertR (pv 2) (pa_cons (pe_fq hG G_law_take hr (by first | decide | omega) (by rfl) pass0 (pa_cons (pv 0) (pa_cons (pe_op (op_addU (K := K)) (pe_callB (call_lenU (K := K)) (by rfl) B.len (by decide +kernel) (pa_cons (pv 2) pa_nil)) pe_int) pa_nil))) (pa_cons (pv 3) pa_nil))))))
  (pss_one (ps_ret (pv 2))))), rfl, ?_⟩
    walk_at "sx"
    rename Addr => pf
    refine w_for (walk_list (xs := xs)) (fun i σ H' => ∃ (vs : List V) (es : List PyData) (a1 c1 : Int) (y3 : Option V), σ = [some (.ref b), some (.ref pp), some (.ref pf), y3] ∧ es.length = i ∧ vs.length = i ∧ es.Perm (ds.take i) ∧ Bx a1 s c1 ∧ c1 ≤ c + i ∧ W K H0 [b] M H' [(pf, .lst vs), (b, box a1 s c1)] [.al vs es, .al xs ds, .kn pp (.lst xs)]) ?_ ?_ ?_ ?_
    · exact ⟨[], [], a, c, _, rfl, rfl, rfl, (by rw [List.take_zero]), bx, by omega, (hw.pick [0, 1] rfl).alNil⟩
    · rintro i σ H _ ⟨vs, es, a1, c1, y3, rfl, _, _, _, _, _, hw⟩
      exact SqL.of (hw.kn 2 rfl)
    · rintro i x σ _ H hi ⟨vs, es, a1, c1, y3, rfl, hel, hvl, hes, bx, hc1, hw⟩ ⟨rfl, hx⟩
      obtain ⟨d, hd, hrp⟩ := RpAll.item (hw.all 1 rfl) hx
      replace hw := hw.add hrp
      walk_at "sx"
      refine w_insert (n := 0) hw rfl (by omega) hr0 (by omega) fun H hw => ?_
      simp only [List.set_cons_zero] at hw
      replace hw := hw.addA (DdAll.insertAt r.toNat (hw.all 1 rfl) (hw.rp 0 rfl))
      walk_at "sx"
      refine ⟨_, _, _, _, _, rfl, ?_, ?_, ?_, bx, by omega, hw.pick [0, 3, 4] rfl⟩
      · simp only [List.length_append, List.length_take, List.length_drop, List.length_singleton]; omega
      · simp only [List.length_append, List.length_take, List.length_drop, List.length_singleton]; omega
      · rw [List.take_add_one, hd]
        exact (ins_perm _).trans ((List.Perm.cons _ hes).trans (List.perm_append_singleton _ _).symm)
    · rintro σ H ⟨vs, es, a1, c1, y3, rfl, hel, hvl, hes, bx, hc1, hw⟩
      walk_at "sx"
      have hb := hw.at 1 rfl
      have he := hw.ex
      replace hw := hw.freeze1 0 rfl (hw.all 0 rfl)
      exact q pf es _ _ _ (by rw [hxl, List.take_length] at hes; exact hes) bx (by omega) he hb ((hw.rp 0 rfl).less fun x hx => List.mem_append_right _ hx)
  · have hw : W K H0 [b] M H0 [(b, box a s c)] [.rp (.ref pp) (.tuple ds)] := W.start1 hb hM (fun r z => by rw [List.mem_singleton.mp z]; exact fa_in (r := .rp _ _) hp hbM)
    obtain ⟨xs, hxs, hw⟩ := hw.openT (hw.rp 0 rfl)
    replace hw := hw.addA hxs
    have hxl := hxs.length
    refine ⟨_, [some (.ref b), some (.ref pp), none, none], (pss_cons (ps_set (i := 2) sc_law_strewn.nd rfl (Or.inl rfl) (pe_lst pa_nil))
  (pss_cons (ps_for PassesOwn.never rfl (pi_U (K := K) (pv 1)) (pg_name (i := 3) sc_law_strewn.nd rfl (Or.inl rfl)) (pss_one (ps_expr (Fw.pe_m1 (K := K) PySem.F.plainAttrs_list PySem.F.slot_list_insert PySem.F.type_list_insert mt_insertR (pv 2) (pa_cons (pe_fq hG G_law_take hr (by first | decide | omega) (by rfl) pass0 (pa_cons (pv 0) (pa_cons (pe_op (op_addU (K := K)) (pe_callB (call_lenU (K := K)) (by rfl) B.len (by decide +kernel) (pa_cons (pv 2) pa_nil)) pe_int) pa_nil))) (pa_cons (pv 3) pa_nil))))))
  (pss_one (ps_ret (pv 2))))), rfl, ?_⟩
    walk_at "sx"
    rename Addr => pf
    refine w_for (walk_tup (xs := xs)) (fun i σ H' => ∃ (vs : List V) (es : List PyData) (a1 c1 : Int) (y3 : Option V), σ = [some (.ref b), some (.ref pp), some (.ref pf), y3] ∧ es.length = i ∧ vs.length = i ∧ es.Perm (ds.take i) ∧ Bx a1 s c1 ∧ c1 ≤ c + i ∧ W K H0 [b] M H' [(pf, .lst vs), (b, box a1 s c1)] [.al vs es, .al xs ds, .tp pp xs]) ?_ ?_ ?_ ?_
    · exact ⟨[], [], a, c, _, rfl, rfl, rfl, (by rw [List.take_zero]), bx, by omega, (hw.pick [0, 1] rfl).alNil⟩
    · rintro i σ H _ ⟨vs, es, a1, c1, y3, rfl, _, _, _, _, _, hw⟩
      exact hw.tp 2 rfl
    · rintro i x σ _ H hi ⟨vs, es, a1, c1, y3, rfl, hel, hvl, hes, bx, hc1, hw⟩ ⟨rfl, hx⟩
      obtain ⟨d, hd, hrp⟩ := RpAll.item (hw.all 1 rfl) hx
      replace hw := hw.add hrp
      walk_at "sx"
      refine w_insert (n := 0) hw rfl (by omega) hr0 (by omega) fun H hw => ?_
      simp only [List.set_cons_zero] at hw
      replace hw := hw.addA (DdAll.insertAt r.toNat (hw.all 1 rfl) (hw.rp 0 rfl))
      walk_at "sx"
      refine ⟨_, _, _, _, _, rfl, ?_, ?_, ?_, bx, by omega, hw.pick [0, 3, 4] rfl⟩
      · simp only [List.length_append, List.length_take, List.length_drop, List.length_singleton]; omega
      · simp only [List.length_append, List.length_take, List.length_drop, List.length_singleton]; omega
      · rw [List.take_add_one, hd]
        exact (ins_perm _).trans ((List.Perm.cons _ hes).trans (List.perm_append_singleton _ _).symm)
    · rintro σ H ⟨vs, es, a1, c1, y3, rfl, hel, hvl, hes, bx, hc1, hw⟩
      walk_at "sx"
      have hb := hw.at 1 rfl
      have he := hw.ex
      replace hw := hw.freeze1 0 rfl (hw.all 0 rfl)
      exact q pf es _ _ _ (by rw [hxl, List.take_length] at hes; exact hes) bx (by omega) he hb ((hw.rp 0 rfl).less fun x hx => List.mem_append_right _ hx)
theorem ok_sort_rows (F : FunD K "_law_sort_rows" "_law_sort_rows" (defArgs s_law_sort_rows) (defBody s_law_sort_rows) (defScope s_law_sort_rows) [] kws f fd) (B : BltT mg) (G_law_take : Fq P w K mg base CX0 1 "_law_take" ["_law_box", "_law_many"] spTake) (G_law_named : Fq P w K mg base CX0 2 "_law_named" ["_law_box", "_law_many"] spNamed) (G_law_strewn : Fq P w K mg base CX0 2 "_law_strewn" ["_law_box", "_law_some"] (spStrewn K)) : FnG P w K mg base CX0 3 f fd ["_law_box", "_law_many"] (spSortRows K) := by
  refine okG F sc_law_sort_rows (fun vs H Q E h => ?_) (fun cdv A outer s H0 vs Q E hG hr h => ?_)
  · obtain ⟨M, b, a, s, c, m, rfl, _⟩ := h
    rfl
  obtain ⟨M, b, a, s, c, m, rfl, hm1, hm4, hM, hbM, hb, bx, hc, q⟩ := h
  have hw : W K H0 [b] M H0 [(b, box a s c)] [] := W.start1 hb hM (fun r z => nomatch z)
  refine ⟨_, [some (.ref b), some (.int m), none, none, none, none, none], (pss_cons (ps_par (i := 2) (j := 3) rfl sc_law_sort_rows.nd rfl rfl (by decide) rfl rfl (pa_cons (pe_fq hG G_law_named hr (by first | decide | omega) (by rfl) pass0 (pa_cons (pv 0) (pa_cons (pe_op (op_addU (K := K)) (pv 1) pe_int) pa_nil))) (pa_cons (pe_lst pa_nil) pa_nil)) (by rfl))
  (pss_cons (ps_for PassesOwn.never rfl (pi_range1 (by rfl) B.range (pa_cons (pv 1) pa_nil)) (pg_name (i := 4) sc_law_sort_rows.nd rfl (Or.inl rfl)) (pss_cons (ps_set (i := 5) sc_law_sort_rows.nd rfl (Or.inl rfl) (pe_ifExp (pt_cmpR (op_eqU (K := K) hr) (pe_fq hG G_law_take hr (by first | decide | omega) (by rfl) pass0 (pa_cons (pv 0) (pa_cons pe_int pa_nil))) pe_int (nomark _)) (pe_slice (sl_U (K := K)) (pe_fq hG G_law_strewn hr (by first | decide | omega) (by rfl) pass0 (pa_cons (pv 0) (pa_cons (pe_slice (sl_U (K := K)) (pv 2) (po_some (pv 1)) po_none) pa_nil))) po_none (po_some pe_int)) (pe_slice (sl_U (K := K)) (pe_slice (sl_U (K := K)) (pv 2) (po_some (pe_op (op_addU (K := K)) (pv 1) (pe_op (op_mulU (K := K)) pe_int (pv 4)))) po_none) po_none (po_some pe_int))))
  (pss_cons (ps_set (i := 6) sc_law_sort_rows.nd rfl (Or.inl rfl) (pe_fq hG G_law_take hr (by first | decide | omega) (by rfl) pass0 (pa_cons (pv 0) (pa_cons pe_int pa_nil))))
  (pss_one (ps_expr (Fw.pe_m1 (K := K) PySem.F.plainAttrs_list PySem.F.slot_list_append PySem.F.type_list_append mt_append (pv 3) (pa_cons (pe_tup (pa_cons (pe_ix (ix_U (K := K)) (pv 2) (pv 4) (fun _ _ => rfl)) (pa_cons (pe_callTy (call_tupleU (K := K)) (by rfl) B.tuple (by decide +kernel) (pa_cons (pe_slice (sl_U (K := K)) (pv 5) po_none (po_some (pv 6))) pa_nil)) (pa_cons (pe_callTy (call_tupleU (K := K)) (by rfl) B.tuple (by decide +kernel) (pa_cons (pe_slice (sl_U (K := K)) (pv 5) (po_some (pv 6)) (po_some (pe_op (op_addU (K := K)) (pe_op (op_addU (K := K)) (pv 6) pe_int) (pe_fq hG G_law_take hr (by first | decide | omega) (by rfl) pass0 (pa_cons (pv 0) (pa_cons pe_int pa_nil)))))) pa_nil)) pa_nil)))) pa_nil)))))))
  (pss_one (ps_ret (pv 3))))), rfl, ?_⟩
  walk_at "sx"
  refine x_named hw 0 rfl (n := m + 8) rfl (by omega) bx (by omega) fun ns pn a c0 H hnl hns hnd bx hc0 hw => ?_
  simp only [List.set_cons_zero, List.set_cons_succ] at hw
  walk_at "sx"
  rename Addr => pr
  refine w_for walk_range (fun i σ H' => ∃ (rows : List SRow) (xs : List V) (a1 c1 : Int) (y4 y5 y6 : Option V), σ = [some (.ref b), some (.int m), some (.ref pn), some (.ref pr), y4, y5, y6] ∧ rows.length = i ∧ xs.length = i ∧ rows.map (·.1) = ns.take i ∧ (∀ r ∈ rows, SOk r) ∧ Bx a1 s c1 ∧ c1 ≤ c0 + 20 * i ∧
    W K H0 [b] M H' [(pr, .lst xs), (b, box a1 s c1)] [.al xs (rows.map SRow.d), .rp (.ref pn) (.list (ns.map PyData.str))]) ?_ ?_ ?_ ?_
  · exact ⟨[], [], a, c0, _, _, _, rfl, rfl, rfl, rfl, (fun _ z => nomatch z), bx, by omega, hw.alNil⟩
  · intros
    trivial
  · rintro i x σ _ H hi ⟨rows, xs, a1, c1, y4, y5, y6, rfl, hrl, hxl, hrn, hrs, bx, hc1, hw⟩ ⟨rfl, rfl⟩
    rw [Int.toNat_natCast] at hi
    have hz : xs.length < sizeLine := sz_lt (by omega)
    refine x_seq (x_asgG (x_via (C := fun Q' => ∀ (p : Addr) (zs : List Str) (a2 c2 : Int) H', zs.length ≤ 3 → zs.Nodup → (∀ x ∈ zs, NameOk x) → Bx a2 s c2 → c2 ≤ c1 + 15 → W K H0 [b] M H' [(pr, .lst xs), (b, box a2 s c2)] [.rp (.ref p) (.list (zs.map PyData.str)), .al xs (rows.map SRow.d), .rp (.ref pn) (.list (ns.map PyData.str))] → Q' (.ref p) H') ?_ ?_))
    · intro Q' k
      walk_at "sxq"
      refine x_ifd (fun c1 => ?_) (fun c1 => ?_)
      · walk_at "sxq"
        refine w_slLD hw (hw.rp 1 rfl) fun p1 H hp1 hw => ?_
        rw [cutD_from] at hw
        walk_at "sxq"
        refine x_strewn hw 1 rfl (.inl (hw.rp 0 rfl)) (by simp; omega) bx (by simp; omega) fun p2 ds' a2 c2 H hperm bx hc2 hw => ?_
        simp only [List.set_cons_zero, List.set_cons_succ] at hw
        walk_at "sxq"
        refine w_slLD hw (hw.rp 0 rfl) fun p3 H hp3 hw => ?_
        rw [← List.map_drop] at hperm
        obtain ⟨zs, rfl, hzs⟩ := strs_of hperm
        rw [show (3 : Int) = ((3 : Nat) : Int) from rfl, cutD_to, ← List.map_take] at hw
        have hzl := hperm.length_eq
        simp only [List.length_map, List.length_drop] at hzl hc2
        refine k p3 (zs.take 3) _ _ _ (by simp; omega) ?_ ?_ bx (by omega) (hw.pick [0, 3, 4] rfl)
        · exact (List.take_sublist _ _).nodup (hzs.nodup_iff.mpr ((List.drop_sublist _ _).nodup hnd))
        · exact fun x hx => hns x (List.mem_of_mem_drop (hzs.mem_iff.mp (List.mem_of_mem_take hx)))
      · walk_at "sxq"
        rw [show (m : Int) + 2 * (0 + (i : Int)) = ((m + 2 * i : Nat) : Int) by omega]
        refine w_slLD hw (hw.rp 1 rfl) fun p1 H hp1 hw => ?_
        rw [cutD_from] at hw
        walk_at "sxq"
        refine w_slLD hw (hw.rp 0 rfl) fun p3 H hp3 hw => ?_
        rw [show (3 : Int) = ((3 : Nat) : Int) from rfl, cutD_to, ← List.map_drop, ← List.map_take] at hw
        refine k p3 _ _ _ _ (by simp; omega) ?_ ?_ bx (by omega) (hw.pick [0, 2, 3] rfl)
        · exact (List.take_sublist _ _).nodup ((List.drop_sublist _ _).nodup hnd)
        · exact fun x hx => hns x (List.mem_of_mem_drop (List.mem_of_mem_take hx))
    intro ps zs a2 c2 H hzl hznd hzs bx hc2 hw
    walk_at "sxq"
    refine x_ixDL (hw.rp 2 rfl) (by omega) (by simp; omega) fun v d hd hv => ?_
    rw [show (0 + (i : Int)).toNat = i by omega, List.getElem?_map] at hd
    obtain ⟨nm, hnm, rfl⟩ := Option.map_eq_some_iff.mp hd
    cases hv
    walk_at "sxq"
    obtain ⟨r, rfl⟩ := Int.eq_ofNat_of_zero_le hr0
    refine w_slLD hw (hw.rp 0 rfl) fun p1 H hp1 hw => ?_
    rw [cutD_to, ← List.map_take] at hw
    walk_at "sxq"
    refine w_tupleD hw (hw.rp 0 rfl) fun p2 H hp2 hw => ?_
    have hr3 : r < 3 := by omega
    clear hr0 hr1
    walk_at "sxq"
    obtain ⟨t, rfl⟩ := Int.eq_ofNat_of_zero_le hr0
    rw [show (r : Int) + 1 + (t : Int) = ((r + 1 + t : Nat) : Int) by omega]
    refine w_slLD hw (hw.rp 2 rfl) fun p3 H hp3 hw => ?_
    rw [cutD_both, ← List.map_drop, ← List.map_take] at hw
    walk_at "sxq"
    refine w_tupleD hw (hw.rp 0 rfl) fun p4 H hp4 hw => ?_
    walk_at "sxe"
    have ht2 : t < 2 := by omega
    have hsub : (zs.take r ++ (zs.drop r).take (r + 1 + t - r)).Sublist zs := by
      have h1 : ((zs.drop r).take (r + 1 + t - r)).Sublist (zs.drop r) := List.take_sublist _ _
      have h2 := List.Sublist.append (List.Sublist.refl (zs.take r)) h1
      rwa [List.take_append_drop] at h2
    refine ⟨rows ++ [(nm, zs.take r, (zs.drop r).take (r + 1 + t - r))], xs ++ [.ref p], _, _, _, _, _, rfl, by simp [hrl], by simp [hxl], ?_, fun z hz => ?_, bx, by omega, ?_⟩
    · rw [List.map_append, hrn, List.take_add_one, hnm]
      rfl
    · rcases List.mem_append.mp hz with hz | hz
      · exact hrs z hz
      · rw [List.mem_singleton.mp hz]
        refine ⟨hns nm (List.mem_of_getElem? hnm), ?_, ?_, ?_, hsub.nodup hznd, fun x hx => hzs x (hsub.subset hx)⟩
        · simp only [List.length_take]; omega
        · simp only [List.length_take, List.length_drop]; omega
        · have := hsub.length_le
          rw [List.length_append] at this
          show (zs.take r).length + ((zs.drop r).take (r + 1 + t - r)).length ≤ 3
          omega
    · rw [List.map_append]
      exact (hw.alSnoc (hw.all 6 rfl) (hw.rp 0 rfl)).pick [0, 8] rfl
  · rintro σ H ⟨rows, xs, a1, c1, y4, y5, y6, rfl, hrl, hxl, hrn, hrs, bx, hc1, hw⟩
    rw [Int.toNat_natCast] at hrl hxl hc1 hrn
    walk_at "sxq"
    have hb := hw.at 1 rfl
    have he := hw.ex
    replace hw := hw.freeze1 0 rfl (hw.all 0 rfl)
    exact q pr rows _ _ _ hrl (by rw [hrn]; exact (List.take_sublist _ _).nodup hnd) hrs bx (by omega) he hb ((hw.rp 0 rfl).less fun x hx => List.mem_append_right _ hx)
end
end Law
namespace Law
open PySem PySem.Spec PyProof.Rows L2 Fw
abbrev s_law_rules_for : Stmt := topS 27
theorem sc_law_rules_for : FnScope ["_law_box", "_law_g", "_law_row", "_law_phases", "_law_wild_here", "_law_places", "_law_ends", "_law_rules", "_law_known", "_law_ops", "_law_at", "_law_place", "_law_name", "_law_free", "_law_end", "_law_op", "_law_some", "_law_operands", "_law_turn", "_law_way", "_law_one", "_law_worth"] ["_law_box", "_law_g", "_law_row", "_law_phases", "_law_wild_here"] (defScope s_law_rules_for) := ⟨rfl, rfl, rfl, by decide +kernel, rfl, by decide +kernel, by decide +kernel⟩

abbrev s_law_drawn : Stmt := topS 28
theorem sc_law_drawn : FnScope ["_law_box", "_law_roof", "_law_wild_here", "_law_kinds", "_law_g", "_law_phases", "_law_k", "_law_name", "_law_kind", "_law_size", "_law_row", "_law_turn"] ["_law_box", "_law_roof", "_law_wild_here"] (defScope s_law_drawn) := ⟨rfl, rfl, rfl, by decide +kernel, rfl, by decide +kernel, by decide +kernel⟩

abbrev s_law_any : Stmt := topS 29
theorem sc_law_any : FnScope ["_law_box", "_law_roof"] ["_law_box"] (defScope s_law_any) := ⟨rfl, rfl, rfl, by decide +kernel, rfl, by decide +kernel, by decide +kernel⟩

abbrev s_law_sizes : Stmt := topS 30
theorem sc_law_sizes : FnScope ["_law_g", "_law_sizes_here", "_law_making", "_law_kind", "_law_parts", "_law_size", "_law_part"] ["_law_g"] (defScope s_law_sizes) := ⟨rfl, rfl, rfl, by decide +kernel, rfl, by decide +kernel, by decide +kernel⟩

abbrev s_law_grown : Stmt := topS 31
theorem sc_law_grown : FnScope ["_law_box", "_law_g", "_law_sizes_here", "_law_kind", "_law_room", "_law_deep", "_law_some", "_law_parts", "_law_row", "_law_size", "_law_left", "_law_at", "_law_part", "_law_more"] ["_law_box", "_law_g", "_law_sizes_here", "_law_kind", "_law_room", "_law_deep"] (defScope s_law_grown) := ⟨rfl, rfl, rfl, by decide +kernel, rfl, by decide +kernel, by decide +kernel⟩

abbrev s_law_tree_of : Stmt := topS 32
theorem sc_law_tree_of : FnScope ["_law_box", "_law_g", "_law_most", "_law_sizes_here"] ["_law_box", "_law_g", "_law_most"] (defScope s_law_tree_of) := ⟨rfl, rfl, rfl, by decide +kernel, rfl, by decide +kernel, by decide +kernel⟩

structure BltD (mg : Str → Option Value) : Prop extends BltT mg where
  dict : mg "dict" = none
  all : mg "all" = none
  sum : mg "sum" = none
  max : mg "max" = none
  sorted : mg "sorted" = none
abbrev ofD (rows : List SRow) : List PyData := rows.map fun r => .tuple [strsD r.2.1, strsD r.2.2]
abbrev phD (phs : List (List Str)) : List PyData := phs.map fun l => .list (l.map PyData.str)
abbrev gK (cap : Nat) (v1 v2 v3 : V) (o : Addr) : List (Key × V) := [(.inr "cap", .int cap), (.inr "sorts", v1), (.inr "makings", v2), (.inr "rules", v3), (.inr "of", .ref o)]
/-- what a making's rules are drawn from -/
abbrev gF (rows : List SRow) (row : MRow) (phs : List (List Str)) (cap : Nat) (wb : Bool) (wn : Nat) (g o ph ro wl : Addr) (v1 v2 v3 : V) (ov fv : List V) : List Fa :=
  [.kn g (.dK (gK cap v1 v2 v3 o)), .kn o (.dK (kvZ (rows.map (·.1)) ov)), .al ov (ofD rows), .kn ph (.dK (kvZ (rows.map (·.1)) fv)), .al fv (phD phs), .rp (.ref ro) (MRow.d row), .tp wl [.bl wb, .int wn]]
def spRules (K : PySem.W.Frag) : Sp := fun vs H Q _ => ∃ (M : List Addr) (rows : List SRow) (row : MRow) (phs : List (List Str)) (cap : Nat) (wb : Bool) (wn : Nat) (b g o ph ro wl : Addr) (v1 v2 v3 : V) (ov fv : List V) (a s c : Int),
  vs = [.ref b, .ref g, .ref ro, .ref ph, .ref wl] ∧ GIn rows row phs ∧ 1 ≤ wn ∧ wn ≤ 1000 ∧ Al M H ∧ b ∈ M ∧ H b = some (box a s c) ∧ Bx a s c ∧ c + 1000 < 2 ^ 40 ∧ (∀ r ∈ gF rows row phs cap wb wn g o ph ro wl v1 v2 v3 ov fv, r.ok K (del H M)) ∧
  ∀ q (rules : List GRule) a' c' H', RlsOk rows row cap rules → Bx a' s c' → c' ≤ c + 1000 → Ex [b] H H' → H' b = some (box a' s c') → Rp K M H' (.ref q) (.list (rules.map GRule.d)) → Q (.ref q) H'
/-! ### a drawn grammar -/
structure GrV where
  p1 : Addr
  p2 : Addr
  p3 : Addr
  o : Addr
  o2 : Addr
  o3 : Addr
  ov : List V
  bv : List V
  he : List Ent
abbrev byD (ms : List MRow) : List PyData := ms.map fun m => .tuple [.str m.2.1, strsD m.2.2]
abbrev hasD (rs : List GRule) : List PyData := rs.map fun r => .tuple [.str r.op, .tuple (r.of.map Opd.d)]
def enKey : En → NestedKey
  | .at i x => .tup [.text "at", .num i, .text x]
  | .kept x => .tup [.text "kept", .text x]
def ruleKey (r : GRule) : List NestedKey := [.text r.by', enKey r.to]
abbrev grF (P : Program) (w : World) (G : Gr) (g : Addr) (x : GrV) : List Fa :=
  [.kn g (.dK [(.inr "cap", .int G.cap), (.inr "sorts", .ref x.p1), (.inr "makings", .ref x.p2), (.inr "rules", .ref x.p3), (.inr "of", .ref x.o), (.inr "by", .ref x.o2), (.inr "has", .ref x.o3)]),
   .rp (.ref x.p1) (.list (G.sorts.map SRow.d)), .rp (.ref x.p2) (.list (G.makings.map MRow.d)), .rp (.ref x.p3) (.list (G.rules.map GRule.d)),
   .kn x.o (.dK (kvZ (G.sorts.map (·.1)) x.ov)), .al x.ov (ofD G.sorts), .kn x.o2 (.dK (kvZ (G.makings.map (·.1)) x.bv)), .al x.bv (byD G.makings),
   .kn x.o3 (dnO P w x.o3 (mergeE [] x.he)), .al (x.he.map (·.2.2)) (hasD G.rules), .al (x.he.map fun e => .ref e.2.1) (x.he.map fun e => e.1.data)]
def heOk (G : Gr) (x : GrV) : Prop := x.he.map (·.1) = G.rules.map fun r => NestedKey.tup (ruleKey r)
def spDrawn (K : PySem.W.Frag) (P : Program) (w : World) : Sp := fun vs H Q _ => ∃ (M : List Addr) (cap : Nat) (wb : Bool) (wn : Nat) (b wl : Addr) (a s c : Int),
  vs = [.ref b, .int cap, .ref wl] ∧ cap ≤ 9 ∧ 1 ≤ wn ∧ wn ≤ 1000 ∧ Al M H ∧ b ∈ M ∧ H b = some (box a s c) ∧ Bx a s c ∧ c + 20000 < 2 ^ 40 ∧ SqT K (del H M) wl [.bl wb, .int wn] ∧
  ∀ g (G : Gr) (x : GrV) a' c' H', GrOk G → G.cap = cap → heOk G x → Bx a' s c' → c' ≤ c + 20000 → Ex [b] H H' → H' b = some (box a' s c') → (∀ r ∈ grF P w G g x, r.ok K (del H' M)) → Q (.ref g) H'
def spAny (K : PySem.W.Frag) (P : Program) (w : World) : Sp := fun vs H Q _ => ∃ (M : List Addr) (b : Addr) (a s c : Int),
  vs = [.ref b] ∧ Al M H ∧ b ∈ M ∧ H b = some (box a s c) ∧ Bx a s c ∧ c + 21000 < 2 ^ 40 ∧
  ∀ g (G : Gr) (x : GrV) a' c' H', GrOk G → heOk G x → Bx a' s c' → c' ≤ c + 21000 → Ex [b] H H' → H' b = some (box a' s c') → (∀ r ∈ grF P w G g x, r.ok K (del H' M)) → Q (.ref g) H'
/-! ### trees of it -/
/-- what is asked of the grammar: its makings -/
def mkK (kvs : List (Key × V)) (p2 : Addr) : Prop := valV kvs (.inr "makings") = some (.ref p2)
def spSizes (K : PySem.W.Frag) : Sp := fun vs H Q _ => ∃ (M : List Addr) (g p2 : Addr) (kvs : List (Key × V)) (ms : List MRow), vs = [.ref g] ∧ Al M H ∧ del H M g = some (.dK kvs) ∧ mkK kvs p2 ∧ Rp K M H (.ref p2) (.list (ms.map MRow.d)) ∧ ms.length ≤ 8 ∧ (∀ m ∈ ms, m.2.2.length ≤ 2) ∧
  ∀ q H', Ex [] H H' → H q = none → H' q = some (.dK (szK (szPass ms 4))) → Q (.ref q) H'
/-- the index of a call for a tree: by depth, then by least size -/
def grIx (d : Int) (n i : Nat) : Prop := (1 ≤ d → d + 15 ≤ i) ∧ (d ≤ 0 → n ≤ i)
def spGrown (K : PySem.W.Frag) (i : Nat) : Sp := fun vs H Q _ => ∃ (M : List Addr) (b g z p2 : Addr) (kvs : List (Key × V)) (ms : List MRow) (m : Sz) (k : Str) (n : Nat) (ro d a s c : Int), vs = [.ref b, .ref g, .ref z, .str k, .int ro, .int d] ∧ Al M H ∧ b ∈ M ∧ del H M g = some (.dK kvs) ∧ mkK kvs p2 ∧ Rp K M H (.ref p2) (.list (ms.map MRow.d)) ∧ del H M z = some (.dK (szK m)) ∧
  SzOk ms m ∧ ms.length ≤ 8 ∧ (∀ r ∈ ms, NameOk r.1 ∧ r.2.2.length ≤ 2) ∧ m.lookup k = some n ∧ grIx d n i ∧ 0 ≤ ro ∧ ro ≤ 100 ∧ H b = some (box a s c) ∧ Bx a s c ∧ c + 20 * max ro n < 2 ^ 40 ∧
  ∀ v t a' c' H', TrOk t → (t.size : Int) ≤ max ro n → (t.high : Int) ≤ (if 1 ≤ d then d + 15 else n) → Bx a' s c' → c' ≤ c + 20 * max ro n → Ex [b] H H' → H' b = some (box a' s c') → Rp K M H' v t.data → Q v H'
def spTreeOf (K : PySem.W.Frag) : Sp := fun vs H Q _ => ∃ (M : List Addr) (b g p2 : Addr) (kvs : List (Key × V)) (ms : List MRow) (names : List Str) (mo a s c : Int), vs = [.ref b, .ref g, .int mo] ∧ Al M H ∧ b ∈ M ∧ del H M g = some (.dK kvs) ∧ mkK kvs p2 ∧ Rp K M H (.ref p2) (.list (ms.map MRow.d)) ∧
  ms.length ≤ 8 ∧ (∀ r ∈ ms, NameOk r.1 ∧ r.2.2.length ≤ 2) ∧ (∀ r ∈ ms, r.2.1 ∈ names) ∧ names.length ≤ 4 ∧ 1 ≤ mo ∧ mo ≤ 40 ∧ H b = some (box a s c) ∧ Bx a s c ∧ c + 2000 < 2 ^ 40 ∧
  (∀ a' c' H', Bx a' s c' → c' ≤ c + 2000 → Ex [b] H H' → H' b = some (box a' s c') → Q .non H') ∧
  ∀ v t a' c' H', TrOk t → t.size ≤ 50 → t.high ≤ 28 → Bx a' s c' → c' ≤ c + 2000 → Ex [b] H H' → H' b = some (box a' s c') → Rp K M H' v t.data → Q v H'
section
variable {P : Program} {w : World} {K : PySem.W.Frag} {H0 H : Hp} {Ms M0 : List Addr} {L : List (Addr × HO)} {R : List Fa} {b p : Addr} {a s c : Int} {Q : VK} {E : XK}
theorem x_ifJoin {c : Prop} [Decidable c] {t e : TS} {D : Ends} {σ : L2.St} {H : Hp} (C : (L2.St → Hp → Prop) → Prop) (h : ∀ N, C N → if c then t { D with nx := N } σ H else e { D with nx := N } σ H) (k : C D.nx) : if c then t D σ H else e D σ H := h D.nx k
theorem x_tvia {c : TT} {σ : L2.St} {H : Hp} {Q : Bool → Hp → Prop} (C : (Bool → Hp → Prop) → Prop) (h : ∀ Q', C Q' → c σ H Q') (k : C Q) : c σ H Q := h Q k
theorem x_rules {rows : List SRow} {row : MRow} {phs : List (List Str)} {cap : Nat} {wb : Bool} {wn : Nat} {g o ph ro wl : Addr} {v1 v2 v3 : V} {ov fv : List V} (hw : W K H0 Ms M0 H L R) (i j : Nat) (hL : L[i]? = some (b, box a s c)) (hg : L[j]? = some (g, .dK (gK cap v1 v2 v3 o))) (hij : i ≠ j) (gi : GIn rows row phs) (h1 : 1 ≤ wn) (h2 : wn ≤ 1000) (bx : Bx a s c) (hc : c + 1000 < 2 ^ 40)
    (hR : ∀ r ∈ (gF rows row phs cap wb wn g o ph ro wl v1 v2 v3 ov fv).tail, r ∈ R)
    (q : ∀ q (rules : List GRule) a' c' H', RlsOk rows row cap rules → Bx a' s c' → c' ≤ c + 1000 → W K H0 Ms M0 H' (L.set i (b, box a' s c')) (.rp (.ref q) (.list (rules.map GRule.d)) :: R) → Q (.ref q) H') : spRules K [.ref b, .ref g, .ref ro, .ref ph, .ref wl] H Q E := by
  have hbg : b ≠ g := hw.ne hL hg hij
  have hbM : b ∈ av L M0 := List.mem_append_left _ (List.mem_map.mpr ⟨_, List.mem_of_getElem? hL, rfl⟩)
  refine ⟨without (av L M0) g, rows, row, phs, cap, wb, wn, b, g, o, ph, ro, wl, v1, v2, v3, ov, fv, a, s, c, rfl, gi, h1, h2, fun x hx => hw.alloc' x (without_sub x hx), without_in hbM hbg, hw.at i hL, bx, hc, fun r hr => ?_, fun q' rules a' c' H' k1 k2 k3 k4 k5 k6 => q q' rules a' c' H' k1 k2 k3 (hw.callD i hL k4 k5 (Rp.offW (k4 g _ (fun z => hbg (List.mem_singleton.mp z).symm) (hw.at j hg)) k6))⟩
  rcases List.mem_cons.mp hr with rfl | hr
  · show Fw.del H _ g = _
    rw [del_out without_not]
    exact hw.at j hg
  · exact Fa.ext (del_sub without_sub) (hw.rep r (hR r hr))
end
end Law
namespace Law
open PySem PySem.Spec PyProof.Rows L2 Fw
section
variable {P : Program} {w : World} {K : PySem.W.Frag} {mg : Str → Option Value} {base : Heap} {f : Addr} {fd : FuncData} {k : Nat} {kws : List (Str × V)}
theorem opn (op : Str) : (valV [((.inr "copy" : Key), V.int 1), (.inr "pick", .int 3)] (.inr op)).getD (.int 2) = .int (opParts op : Nat) := by
  unfold opParts
  by_cases h : op = "copy"
  · subst h; rfl
  · rw [valV_neg (fun z => h (Sum.inr.inj z).symm), if_neg h]
    by_cases h2 : op = "pick"
    · subst h2; rfl
    · rw [valV_neg (fun z => h2 (Sum.inr.inj z).symm), if_neg h2]; rfl
theorem opParts_le (op : Str) : opParts op ≤ 3 := by
  unfold opParts
  split
  · decide
  · split <;> decide
theorem cutD_neg {ds : List PyData} {x : Int} (h : x < 0) (n : ds ≠ []) : 0 < (cutD ds (some x) none).length := by
  unfold Fw.cutD
  rw [HT.sIx_none]
  have hp : 0 < ds.length := List.length_pos_iff.mpr n
  have e : HT.sIx ds.length 0 (some x) = (x + (ds.length : Int)).toNat := if_pos h
  rw [e, List.length_take, List.length_drop]
  omega
theorem ok_rules_for (F : FunD K "_law_rules_for" "_law_rules_for" (defArgs s_law_rules_for) (defBody s_law_rules_for) (defScope s_law_rules_for) [] kws f fd) (B : BltT mg) (G_law_take : Fq P w K mg base CX0 1 "_law_take" ["_law_box", "_law_many"] spTake) (G_law_named : Fq P w K mg base CX0 2 "_law_named" ["_law_box", "_law_many"] spNamed) (G_law_strewn : Fq P w K mg base CX0 2 "_law_strewn" ["_law_box", "_law_some"] (spStrewn K))
    (G_law_one_of : Fq P w K mg base CX0 2 "_law_one_of" ["_law_box", "_law_some"] (spOneOf K)) (G_law_number : Fq P w K mg base CX0 2 "_law_number" ["_law_box"] spNumber) : FnG P w K mg base CX0 3 f fd ["_law_box", "_law_g", "_law_row", "_law_phases", "_law_wild_here"] (spRules K) := by
  refine okG F sc_law_rules_for (fun vs H Q E h => ?_) (fun cdv A outer s H0 vs Q E hG hr h => ?_)
  · obtain ⟨M, rows, row, phs, cap, wb, wn, b, g, o, ph, ro, wl, v1, v2, v3, ov, fv, a, s, c, rfl, _⟩ := h
    rfl
  obtain ⟨M, rows, row, phs, cap, wb, wn, b, g, o, ph, ro, wl, v1, v2, v3, ov, fv, a, s, c, rfl, gi, hw1, hw2, hM, hbM, hb, bx, hc, hF, q⟩ := h
  have hw : W K H0 [b] M H0 [(b, box a s c)] (gF rows row phs cap wb wn g o ph ro wl v1 v2 v3 ov fv) := W.start1 hb hM (fun r z => fa_in (hF r z) hbM)
  refine ⟨_, [some (.ref b), some (.ref g), some (.ref ro), some (.ref ph), some (.ref wl), none, none, none, none, none, none, none, none, none, none, none, none, none, none, none, none, none], (pss_cons (ps_asg (pe_tup (pa_cons (pe_op (op_addU (K := K)) (pe_tup (pa_cons (pe_ix (ix_U (K := K)) (pv 2) pe_int (fun _ _ => rfl)) pa_nil)) (pe_ix (ix_U (K := K)) (pv 2) pe_int (fun _ _ => rfl))) (pa_cons (pe_lst pa_nil) (pa_cons (pe_lst pa_nil) (pa_cons (pe_lst pa_nil) (pa_cons (pe_lst (pa_cons pe_str (pa_cons pe_str (pa_cons pe_str (pa_cons pe_str pa_nil))))) pa_nil)))))) (pg_T (K := K) (n := 5) rfl (pgs_cons (pg_name (i := 5) sc_law_rules_for.nd rfl (Or.inr rfl)) (pgs_cons (pg_name (i := 6) sc_law_rules_for.nd rfl (Or.inl rfl)) (pgs_cons (pg_name (i := 7) sc_law_rules_for.nd rfl (Or.inl rfl)) (pgs_cons (pg_name (i := 8) sc_law_rules_for.nd rfl (Or.inl rfl)) (pgs_cons (pg_name (i := 9) sc_law_rules_for.nd rfl (Or.inl rfl)) pgs_nil)))))))
  (pss_cons (ps_if (pt_cmpR (op_eqU (K := K) hr) (pe_dget (hu_of hr) (pv 1) pe_str (fun _ _ => rfl)) pe_int (nomark _)) (pss_one (ps_set (i := 9) sc_law_rules_for.nd rfl (Or.inl rfl) (pe_op (op_addU (K := K)) (pv 9) (pe_lst (pa_cons pe_str (pa_cons pe_str (pa_cons pe_str (pa_cons pe_str (pa_cons pe_str (pa_cons pe_str (pa_cons pe_str (pa_cons pe_str pa_nil)))))))))))) pss_nil)
  (pss_cons (ps_for PassesOwn.never rfl (pi_range1 (by rfl) B.range (pa_cons pe_int pa_nil)) (pg_name (i := 10) sc_law_rules_for.nd rfl (Or.inl rfl)) (pss_one (ps_for PassesOwn.never rfl (pi_U (K := K) (pe_fq hG G_law_strewn hr (by first | decide | omega) (by rfl) pass0 (pa_cons (pv 0) (pa_cons (pe_callTy (cr_listRng rfl) (by rfl) B.list (by decide +kernel) (pa_cons (pe_callTy cr_range1 (by rfl) B.range (by decide +kernel) (pa_cons (pe_callB (call_lenU (K := K)) (by rfl) B.len (by decide +kernel) (pa_cons (pv 5) pa_nil)) pa_nil)) pa_nil)) pa_nil)))) (pg_name (i := 11) sc_law_rules_for.nd rfl (Or.inr rfl)) (pss_one (ps_set (i := 6) sc_law_rules_for.nd rfl (Or.inl rfl) (pe_op (op_addU (K := K)) (pv 6) (pe_lc (own := [("_law_worth", 21)]) rfl sc_law_rules_for.nd (pi_U (K := K) (pe_slice (sl_U (K := K)) (pe_dget (hu_of hr) (pv 3) (pe_ix (ix_U (K := K)) (pv 5) (pv 11) (fun _ _ => rfl)) (fun _ _ => rfl)) (po_some (pv 10)) (po_some (pe_op (op_addU (K := K)) (pv 10) pe_int)))) (blkOk_by (own := [("_law_worth", 21)]) (N := ["_law_box", "_law_g", "_law_row", "_law_phases", "_law_wild_here", "_law_places", "_law_ends", "_law_rules", "_law_known", "_law_ops", "_law_at", "_law_place", "_law_name", "_law_free", "_law_end", "_law_op", "_law_some", "_law_operands", "_law_turn", "_law_way", "_law_one", "_law_worth"]) (sc := defScope s_law_rules_for) (by decide +kernel)) (fun _ _ _ _ _ => (pg_name (i := 21) sc_law_rules_for.nd rfl (Or.inl rfl))) (fun _ _ _ _ _ => pts_nil) (fun _ _ _ _ _ => (pe_tup (pa_cons pe_str (pa_cons (pv 11) (pa_cons (pv 21) pa_nil))))))))))))
  (pss_cons (ps_for PassesOwn.never rfl (pi_U (K := K) (pe_fq hG G_law_named hr (by first | decide | omega) (by rfl) pass0 (pa_cons (pv 0) (pa_cons (pe_fq hG G_law_take hr (by first | decide | omega) (by rfl) pass0 (pa_cons (pv 0) (pa_cons pe_int pa_nil))) pa_nil)))) (pg_name (i := 12) sc_law_rules_for.nd rfl (Or.inl rfl)) (pss_one (ps_if (pt_cmpR (op_notInU (K := K) hr) (pv 12) (pe_dget (hu_of hr) (pv 3) (pe_ix (ix_U (K := K)) (pv 2) pe_int (fun _ _ => rfl)) (fun _ _ => rfl)) (by rfl)) (pss_one (ps_expr (Fw.pe_m1 (K := K) PySem.F.plainAttrs_list PySem.F.slot_list_insert PySem.F.type_list_insert mt_insertR (pv 6) (pa_cons (pe_fq hG G_law_take hr (by first | decide | omega) (by rfl) pass0 (pa_cons (pv 0) (pa_cons (pe_op (op_addU (K := K)) (pe_callB (call_lenU (K := K)) (by rfl) B.len (by decide +kernel) (pa_cons (pv 6) pa_nil)) pe_int) pa_nil))) (pa_cons (pe_tup (pa_cons pe_str (pa_cons (pv 12) pa_nil))) pa_nil))))) pss_nil)))
  (pss_cons (ps_set (i := 13) sc_law_rules_for.nd rfl (Or.inr rfl) (pe_lc (own := [("_law_end", 14)]) rfl sc_law_rules_for.nd (pi_U (K := K) (pv 6)) (blkOk_by (own := [("_law_end", 14)]) (N := ["_law_box", "_law_g", "_law_row", "_law_phases", "_law_wild_here", "_law_places", "_law_ends", "_law_rules", "_law_known", "_law_ops", "_law_at", "_law_place", "_law_name", "_law_free", "_law_end", "_law_op", "_law_some", "_law_operands", "_law_turn", "_law_way", "_law_one", "_law_worth"]) (sc := defScope s_law_rules_for) (by decide +kernel)) (fun _ _ _ _ _ => (pg_name (i := 14) sc_law_rules_for.nd rfl (Or.inl rfl))) (fun _ _ _ _ _ => (pts_one (PW.pt (pw_or (pt_cmpR (op_eqU (K := K) hr) (pe_ix (ix_U (K := K)) (pv 14) pe_int (fun _ _ => rfl)) pe_str (nomark _)) (pw_or1 (pt_cmpR (op_notInU (K := K) hr) (pe_ix (ix_U (K := K)) (pv 14) pe_int (fun _ _ => rfl)) (pe_ix (ix_U (K := K)) (pe_dget (hu_of hr) (pe_dget (hu_of hr) (pv 1) pe_str (fun _ _ => rfl)) (pe_ix (ix_U (K := K)) (pv 5) (pe_ix (ix_U (K := K)) (pv 14) pe_int (fun _ _ => rfl)) (fun _ _ => rfl)) (fun _ _ => rfl)) (pe_callTy call_intU (by rfl) B.int' (by decide +kernel) (pa_cons (pe_cmpR (op_eqU (K := K) hr) (pe_ix (ix_U (K := K)) (pv 14) pe_int (fun _ _ => rfl)) pe_int (nomark _)) pa_nil)) (fun _ _ => rfl)) (by rfl))))))) (fun _ _ _ _ _ => (pv 14))))
  (pss_cons (ps_for PassesOwn.never rfl (pi_U (K := K) (pv 6)) (pg_name (i := 14) sc_law_rules_for.nd rfl (Or.inl rfl)) (pss_cons (ps_if (PW.pt (pw_and (PW.pt (pw_or (pt_cmpR (op_eqU (K := K) hr) (pe_ix (ix_U (K := K)) (pv 14) pe_int (fun _ _ => rfl)) pe_str (nomark _)) (pw_or1 (pt_cmpR (op_notInU (K := K) hr) (pv 14) (pv 13) (by rfl))))) (pw_and1 (pt_cmpR (op_gt) (pe_fq hG G_law_take hr (by first | decide | omega) (by rfl) pass0 (pa_cons (pv 0) (pa_cons (pe_ix (ix_U (K := K)) (pv 4) pe_int (fun _ _ => rfl)) pa_nil))) pe_int (nomark _))))) (pss_cons (ps_par3 (i := 15) (j := 16) (l := 17) rfl sc_law_rules_for.nd rfl rfl rfl (by decide) (by decide) (by decide) rfl rfl rfl (pa_cons (pe_fq hG G_law_one_of hr (by first | decide | omega) (by rfl) pass0 (pa_cons (pv 0) (pa_cons (pv 9) pa_nil))) (pa_cons (pe_ifExp (pt_truth (pe_ix (ix_U (K := K)) (pv 4) pe_int (fun _ _ => rfl)) (by intro _; rfl)) (pv 13) (pv 8)) (pa_cons (pe_lst pa_nil) pa_nil))) (by rfl))
  (pss_cons (ps_for PassesOwn.never rfl (pi_range1 (by rfl) B.range (pa_cons (pe_dget2 (hu_of hr) (pe_disp (pps_cons pe_str pe_int (pps_cons pe_str pe_int pps_nil)) (by rfl) (by rfl) (fun z => by cases z) (by decide)) (pv 15) pe_int ⟨rfl, rfl, rfl, rfl⟩) pa_nil)) (pg_name (i := 18) sc_law_rules_for.nd rfl (Or.inl rfl)) (pss_cons (ps_set (i := 19) sc_law_rules_for.nd rfl (Or.inl rfl) (pe_fq hG G_law_take hr (by first | decide | omega) (by rfl) pass0 (pa_cons (pv 0) (pa_cons pe_int pa_nil))))
  (pss_cons (ps_set (i := 20) sc_law_rules_for.nd rfl (Or.inl rfl) (pe_ix (ix_U (K := K)) (pe_lst (pa_cons (pe_tup (pa_cons pe_str pa_nil)) (pa_cons (pe_tup (pa_cons pe_str (pa_cons (pe_fq hG G_law_number hr (by first | decide | omega) (by rfl) pass0 (pa_cons (pv 0) pa_nil)) pa_nil))) pa_nil))) (pe_op op_mod (pv 19) pe_int) (fun _ _ => rfl)))
  (pss_one (ps_expr (Fw.pe_m1 (K := K) PySem.F.plainAttrs_list PySem.F.slot_list_append PySem.F.type_list_append mt_append (pv 17) (pa_cons (pe_ifExp (PW.pt (pw_and (pt_cmpR (op_lt) (pv 19) pe_int (nomark _)) (pw_and1 (pt_cmpR (op_neU (K := K) hr) (pv 16) (pe_lst pa_nil) (nomark _))))) (pe_fq hG G_law_one_of hr (by first | decide | omega) (by rfl) pass0 (pa_cons (pv 0) (pa_cons (pe_slice (sl_U (K := K)) (pv 16) (po_some (pe_op op_sub (pe_un un_neg pe_int) (pv 19))) po_none) pa_nil))) (pv 20)) pa_nil)))))))
  (pss_one (ps_expr (Fw.pe_m1 (K := K) PySem.F.plainAttrs_list PySem.F.slot_list_append PySem.F.type_list_append mt_append (pv 7) (pa_cons (pe_tup (pa_cons (pe_ix (ix_U (K := K)) (pv 2) pe_int (fun _ _ => rfl)) (pa_cons (pv 14) (pa_cons (pv 15) (pa_cons (pe_callTy (call_tupleU (K := K)) (by rfl) B.tuple (by decide +kernel) (pa_cons (pv 17) pa_nil)) pa_nil))))) pa_nil)))))) pss_nil)
  (pss_one (ps_set (i := 8) sc_law_rules_for.nd rfl (Or.inl rfl) (pe_op (op_addU (K := K)) (pv 8) (pe_lc (own := [("_law_one", 20)]) rfl sc_law_rules_for.nd (pi_U (K := K) (pe_lst (pa_cons (pv 14) pa_nil))) (blkOk_by (own := [("_law_one", 20)]) (N := ["_law_box", "_law_g", "_law_row", "_law_phases", "_law_wild_here", "_law_places", "_law_ends", "_law_rules", "_law_known", "_law_ops", "_law_at", "_law_place", "_law_name", "_law_free", "_law_end", "_law_op", "_law_some", "_law_operands", "_law_turn", "_law_way", "_law_one", "_law_worth"]) (sc := defScope s_law_rules_for) (by decide +kernel)) (fun _ _ _ _ _ => (pg_name (i := 20) sc_law_rules_for.nd rfl (Or.inl rfl))) (fun _ _ _ _ _ => (pts_one (pt_cmpR (op_inU (K := K) hr) (pv 20) (pv 13) (by rfl)))) (fun _ _ _ _ _ => (pv 20))))))))
  (pss_one (ps_ret (pv 7))))))))), rfl, ?_⟩
  walk_at "sxq"
  refine x_ixDT (hw.rp 5 rfl) (by decide) (by simp) fun v d hd hv => ?_
  obtain rfl := Option.some.inj hd
  cases hv
  walk_at "sxe"
  refine x_ixDT (hw.rp 6 rfl) (by decide) (by simp) fun v d hd hv => ?_
  obtain rfl := Option.some.inj hd
  obtain ⟨t, ys, rfl, hts, hty⟩ := Rp.tupI hv
  replace hw := hw.add hv
  refine w_catTD hw (hw.rp 1 rfl) (hw.rp 0 rfl) (by have := gi.plen2; simp; omega) fun pl H hw => ?_
  replace hw : W K H0 [b] M H [(b, box a s c)] (.rp (.ref pl) (strsD (placesOf row)) :: gF rows row phs cap wb wn g o ph ro wl v1 v2 v3 ov fv) := hw.pick [0, 3, 4, 5, 6, 7, 8, 9] rfl
  clear hts hty hv hd
  walk_at "sxq"
  rename_i pe _ _ _ pr _ _ _ pk _ _ _ po _ _ _
  replace hw : W K H0 [b] M H [(pk, .lst []), (po, .lst ((["copy", "plus", "least", "most"] : List Str).map V.str)), (pr, .lst []), (pe, .lst []), (b, box a s c)] _ := hw.cells [2, 1, 3, 4, 5] rfl (by decide)
  replace hw := hw.freeze1 (ds := []) 3 rfl .nil
  replace hw := hw.freeze1 (ds := (["copy", "plus", "least", "most"] : List Str).map PyData.str) 2 rfl (DdAll.strs _)
  refine x_ifJoin (C := fun N => ∀ po H', W K H0 [b] M H' [(pr, .lst []), (pe, .lst []), (b, box a s c)] (.rp (.ref po) (.list ((opsLet cap).map PyData.str)) :: .rp (.ref pk) (.list []) :: .rp (.ref pl) (strsD (placesOf row)) :: gF rows row phs cap wb wn g o ph ro wl v1 v2 v3 ov fv) →
    N [some (.ref b), some (.ref g), some (.ref ro), some (.ref ph), some (.ref wl), some (.ref pl), some (.ref pe), some (.ref pr), some (.ref pk), some (.ref po), none, none, none, none, none, none, none, none, none, none, none, none] H') (fun N k => ?_) ?_
  · refine x_ifd (fun c1 => ?_) (fun c1 => ?_)
    · walk_at "sxe"
      refine k p _ ?_
      rw [show opsLet cap = (["copy", "plus", "least", "most"] : List Str) ++ (["plus", "less", "times", "over", "rest", "same", "under", "pick"] : List Str) by unfold opsLet; rw [if_pos (by omega)], List.map_append]
      exact hw.pick [0, 3, 4, 5, 6, 7, 8, 9, 10, 11] rfl
    · refine k po _ ?_
      rw [show opsLet cap = (["copy", "plus", "least", "most"] : List Str) by unfold opsLet; rw [if_neg (by omega)]; rfl]
      exact hw
  intro po H hw
  obtain ⟨plv, hpl, hw⟩ := hw.openT (hw.rp 2 rfl)
  obtain rfl := DdAll.strs_inv hpl
  replace hw : W K H0 [b] M H [(pr, .lst []), (pe, .lst []), (b, box a s c)] (.tp pl ((placesOf row).map V.str) :: .rp (.ref po) (.list ((opsLet cap).map PyData.str)) :: .rp (.ref pk) (.list []) :: gF rows row phs cap wb wn g o ph ro wl v1 v2 v3 ov fv) := hw.pick [0, 1, 2, 4, 5, 6, 7, 8, 9, 10] rfl
  have hpl3 : (placesOf row).length ≤ 3 := by have := gi.plen2; unfold placesOf; rw [List.length_cons]; omega
  walk_at "sxq"
  refine w_for walk_range (fun i σ H' => ∃ (es : List En) (xs : List V) (pe : Addr) (a1 c1 : Int) (y10 y11 y21 : Option V), σ = [some (.ref b), some (.ref g), some (.ref ro), some (.ref ph), some (.ref wl), some (.ref pl), some (.ref pe), some (.ref pr), some (.ref pk), some (.ref po), y10, y11, none, none, none, none, none, none, none, none, none, y21] ∧
    es.Nodup ∧ (∀ e ∈ es, Came (rows.map (·.1)) phs row i [] e) ∧ es.length ≤ 3 * i ∧ Bx a1 s c1 ∧ c1 ≤ c + 3 * i ∧ W K H0 [b] M H' [(pe, .lst xs), (pr, .lst []), (b, box a1 s c1)] (.al xs (es.map En.d) :: .tp pl ((placesOf row).map V.str) :: .rp (.ref po) (.list ((opsLet cap).map PyData.str)) :: .rp (.ref pk) (.list []) :: gF rows row phs cap wb wn g o ph ro wl v1 v2 v3 ov fv)) ?_ ?_ ?_ ?_
  · exact ⟨[], [], pe, a, c, _, _, _, rfl, .nil, (fun _ z => nomatch z), by simp, bx, by omega, (hw.cells [1, 0, 2] rfl (by decide)).alNil⟩
  · intros
    trivial
  · rintro i x σ _ H hi ⟨es, xs, pe, a1, c1, y10, y11, y21, rfl, hnd, hcm, hel, bx, hc1, hw⟩ ⟨rfl, rfl⟩
    have hi3 : i < 3 := hi
    walk_at "sxq"
    refine x_lenT (hw.tp 1 rfl) ?_
    walk_at "sxq"
    refine w_range1 hw fun pg H hpg hw => ?_
    walk_at "sxq"
    refine w_listRng (n := (placesOf row).length) hw (by simp) (by omega) fun pq H hw => ?_
    walk_at "sxq"
    refine x_strewn hw 2 rfl (.inl (hw.rp 0 rfl)) (by simp; omega) bx (by simp; omega) fun pz ds' a2 c2 H hperm bx hc2 hw => ?_
    simp only [List.set_cons_zero, List.set_cons_succ] at hw
    obtain ⟨is, rfl, his⟩ := ints_of hperm
    have hisnd : is.Nodup := his.nodup_iff.mpr List.nodup_range
    have hisl : is.length = (placesOf row).length := by rw [his.length_eq, List.length_range]
    simp only [List.length_map, List.length_range] at hc2
    obtain ⟨isv, hisv, hw⟩ := hw.open (hw.rp 0 rfl)
    have hisv2 : isv = is.map fun (i : Nat) => V.int i := by
      have := DdAll.ints_inv (ns := is.map fun (i : Nat) => (i : Int)) (by rw [List.map_map]; exact hisv)
      rw [this, List.map_map]
      rfl
    subst hisv2
    replace hw := hw.rm2
    walk_at "sxq"
    refine w_for (walk_list (xs := is.map fun (i : Nat) => V.int i)) (fun k σ H' => ∃ (es : List En) (xs : List V) (pe : Addr) (y11 y21 : Option V), σ = [some (.ref b), some (.ref g), some (.ref ro), some (.ref ph), some (.ref wl), some (.ref pl), some (.ref pe), some (.ref pr), some (.ref pk), some (.ref po), some (.int (0 + i)), y11, none, none, none, none, none, none, none, none, none, y21] ∧
      es.Nodup ∧ (∀ e ∈ es, Came (rows.map (·.1)) phs row i (is.take k) e) ∧ es.length ≤ 3 * i + k ∧ W K H0 [b] M H' [(pe, .lst xs), (pr, .lst []), (b, box a2 s c2)] (.al xs (es.map En.d) :: .kn pz (.lst (is.map fun (i : Nat) => V.int i)) :: .tp pl ((placesOf row).map V.str) :: .rp (.ref po) (.list ((opsLet cap).map PyData.str)) :: .rp (.ref pk) (.list []) :: gF rows row phs cap wb wn g o ph ro wl v1 v2 v3 ov fv)) ?_ ?_ ?_ ?_
    · exact ⟨es, xs, pe, _, _, rfl, hnd, hcm, by omega, (hw.addA (hw.all 1 rfl)).sub fun r hr => by
        rcases List.mem_cons.mp hr with h | h
        · rw [h]; exact List.mem_cons_self ..
        · rcases List.mem_cons.mp h with h | h
          · rw [h]; exact List.mem_cons_of_mem _ (List.mem_cons_self ..)
          · exact List.mem_cons_of_mem _ (List.mem_cons_of_mem _ (List.mem_cons_of_mem _ h))⟩
    · rintro k σ H _ ⟨es, xs, pe, y11, y21, rfl, _, _, _, hw⟩
      exact SqL.of (hw.kn 1 rfl)
    · rintro k x σ _ H hk ⟨es, xs, pe, y11, y21, rfl, hnd, hcm, hel, hw⟩ ⟨rfl, hx⟩
      rw [List.length_map] at hk
      rw [List.getElem?_map] at hx
      obtain ⟨p, hp, rfl⟩ := Option.map_eq_some_iff.mp hx
      have hplt : p < (placesOf row).length := by
        have := his.mem_iff.mp (List.mem_of_getElem? hp)
        exact List.mem_range.mp this
      obtain ⟨kd, hkd⟩ : ∃ kd, (placesOf row)[p]? = some kd := ⟨_, List.getElem?_eq_getElem hplt⟩
      obtain ⟨r, l, hr, hlk, hl, _, _, hlp⟩ := gi.at hkd
      walk_at "sxq"
      refine x_ixT (hw.tp 2 rfl) (atI_nat (by rw [List.getElem?_map, hkd]; rfl)) ?_
      obtain ⟨v, hv, hvd⟩ := valZ (ks := rows.map (·.1)) (hw.all 9 rfl) (x := kd) (d := .list (l.map PyData.str)) (by rw [zip_map_lookup, hlk]; rfl)
      refine x_dgetS (hw.kn 8 rfl) hv ?_
      replace hw := hw.add hvd
      obtain ⟨pv', rfl⟩ : ∃ q, v = .ref q := by cases hvd; exact ⟨_, rfl⟩
      walk_at "sxq"
      refine w_slLD hw (hw.rp 0 rfl) fun ps H hps hw => ?_
      rw [show (0 + (i : Int)) = ((i : Nat) : Int) by omega, show ((i : Nat) : Int) + 1 = ((i + 1 : Nat) : Int) by omega, cutD_both, show i + 1 - i = 1 by omega, ← List.map_drop, ← List.map_take] at hw
      replace hw := hw.rm1
      have hzs : ((l.drop i).take 1).length ≤ 1 := by rw [List.length_take]; omega
      have hst := came_step gi hnd hcm hisnd hp hplt
      rw [hl] at hst
      generalize (l.drop i).take 1 = zs at hw hzs hst
      walk_at "sxq"
      refine w_lcK hw (walk_list (xs := zs.map V.str)) (fun D j H' => ∃ (us : List V), us.length = j ∧ W K H0 [b] M H' [(D, .lst us), (pe, .lst xs), (pr, .lst []), (b, box a2 s c2)] (.al us ((zs.take j).map fun x => (En.at p x).d) :: .rp (.ref ps) (.list (zs.map PyData.str)) :: .al xs (es.map En.d) :: .kn pz (.lst (is.map fun (i : Nat) => V.int i)) :: .tp pl ((placesOf row).map V.str) :: .rp (.ref po) (.list ((opsLet cap).map PyData.str)) :: .rp (.ref pk) (.list []) :: gF rows row phs cap wb wn g o ph ro wl v1 v2 v3 ov fv)) ?_ ?_ ?_ ?_
      · intro D H _ hw
        exact ⟨[], rfl, hw.alNil⟩
      · rintro D j H _ ⟨us, _, hw⟩
        exact SqL.of (Rp.strs (hw.rp 1 rfl))
      · rintro D j x _ H hj ⟨us, hul, hw⟩ ⟨rfl, hx⟩
        rw [List.length_map] at hj
        rw [List.getElem?_map] at hx
        obtain ⟨z, hz, rfl⟩ := Option.map_eq_some_iff.mp hx
        have hzz : us.length < sizeLine := sz_lt (by omega)
        walk_at "sxe"
        refine ⟨us ++ [.ref p], by simp [hul], ?_⟩
        rw [List.take_add_one, hz, List.map_append]
        exact (hw.alSnoc (hw.all 1 rfl) (hw.rp 0 rfl)).rm2
      · rintro D H ⟨us, hul, hw⟩
        rw [List.length_map, List.take_length] at hw
        replace hw := hw.freeze1 2 rfl (hw.all 0 rfl)
        replace hw := hw.rm2
        walk_at "sxq"
        refine w_catA hw (hw.at 0 rfl) (hw.all 1 rfl) (hw.rp 0 rfl) (by simp; omega) fun pe2 ys2 H hpe2 hyl hw => ?_
        replace hw : W K H0 [b] M H [(pe2, .lst (xs ++ ys2)), (pr, .lst []), (b, box a2 s c2)] _ := hw.cells [0, 2, 3] rfl (by decide)
        replace hw := hw.rm2
        walk_at "sxq"
        refine ⟨_, xs ++ ys2, pe2, _, _, rfl, hst.1, hst.2, by simp; omega, ?_⟩
        rw [List.map_append, List.map_map]
        exact hw
    · rintro σ H ⟨es, xs, pe, y11, y21, rfl, hnd, hcm, hel, hw⟩
      walk_at "sxq"
      exact ⟨es, xs, pe, _, _, _, _, _, rfl, hnd, fun e he => (hcm e he).next, by simp at hel; omega, bx, by omega, hw.rm1⟩
  rintro σ H ⟨es, xs, pe, a1, c1, y10, y11, y21, rfl, hnd, hcm, hel, bx, hc1, hw⟩
  walk_at "sxq"
  obtain ⟨m, rfl⟩ := Int.eq_ofNat_of_zero_le hr0
  refine x_named hw 2 rfl (n := m) rfl (by omega) bx (by omega) fun ns pn a2 c2 H hnl hns hnn bx hc2 hw => ?_
  simp only [List.set_cons_zero, List.set_cons_succ] at hw
  have hes : EsOk rows row ns 0 es := EsOk.start gi hnd hcm (by simpa using hel)
  have hm3 : m < 3 := by omega
  clear hnd hcm hel
  walk_at "sxq"
  refine w_for (walk_list (xs := ns.map V.str)) (fun k σ H' => ∃ (es : List En) (xs : List V) (a1 c1 : Int) (y12 : Option V), σ = [some (.ref b), some (.ref g), some (.ref ro), some (.ref ph), some (.ref wl), some (.ref pl), some (.ref pe), some (.ref pr), some (.ref pk), some (.ref po), y10, y11, y12, none, none, none, none, none, none, none, none, y21] ∧
    EsOk rows row ns k es ∧ Bx a1 s c1 ∧ c1 ≤ c2 + k ∧ W K H0 [b] M H' [(pe, .lst xs), (pr, .lst []), (b, box a1 s c1)] (.al xs (es.map En.d) :: .rp (.ref pn) (.list (ns.map PyData.str)) :: .tp pl ((placesOf row).map V.str) :: .rp (.ref po) (.list ((opsLet cap).map PyData.str)) :: .rp (.ref pk) (.list []) :: gF rows row phs cap wb wn g o ph ro wl v1 v2 v3 ov fv)) ?_ ?_ ?_ ?_
  · exact ⟨es, xs, a2, c2, _, rfl, hes, bx, by omega, hw.swap01⟩
  · rintro k σ H _ ⟨es, xs, a1, c1, y12, rfl, _, _, _, hw⟩
    exact SqL.of (Rp.strs (hw.rp 1 rfl))
  · rintro k x σ _ H hk ⟨es, xs, a1, c1, y12, rfl, hes, bx, hc1, hw⟩ ⟨rfl, hx⟩
    rw [List.length_map] at hk
    rw [List.getElem?_map] at hx
    obtain ⟨x, hnx, rfl⟩ := Option.map_eq_some_iff.mp hx
    obtain ⟨r, l, hr, hlk, hl, _, hwo, hlp⟩ := gi.at (i := 0) (k := row.2.1) rfl
    walk_at "sxq"
    refine x_ixDT (hw.rp 10 rfl) (by decide) (by simp) fun v d hd hv => ?_
    obtain rfl := Option.some.inj hd
    cases hv
    obtain ⟨v, hv, hvd⟩ := valZ (ks := rows.map (·.1)) (hw.all 9 rfl) (x := row.2.1) (d := .list (l.map PyData.str)) (by rw [zip_map_lookup, hlk]; rfl)
    refine x_dgetS (hw.kn 8 rfl) hv ?_
    obtain ⟨pv', rfl⟩ : ∃ q, v = .ref q := by cases hvd; exact ⟨_, rfl⟩
    refine x_notInL (SqL.of (Rp.strs hvd)) rfl (by simp [flatV]) ?_
    rw [inV_strs]
    walk_at "sxq"
    have hxl := (hw.all 0 rfl).length
    rw [List.length_map] at hxl
    have hln := hes.ln
    refine x_ifn (fun c1 => ?_) (fun c1 => ?_)
    · walk_at "sxe"
      refine w_insert (n := 0) hw rfl (by omega) hr0 (by omega) fun H hw => ?_
      simp only [List.set_cons_zero] at hw
      obtain ⟨m', rfl⟩ := Int.eq_ofNat_of_zero_le hr0
      rw [Int.toNat_natCast] at hw
      replace hw := hw.addA (DdAll.insertAt m' (hw.all 1 rfl) (hw.rp 0 rfl))
      walk_at "sxq"
      refine ⟨_, xs.take m' ++ [.ref p] ++ xs.drop m', _, _, _, rfl, hes.put m' hnn hnx (hns x (List.mem_of_getElem? hnx)) ?_, bx, by omega, ?_⟩
      · rw [hwo]
        exact fun z => c1 (hlp.mem_iff.mpr z)
      · rw [List.map_append, List.map_append, List.map_take, List.map_drop]
        exact hw.rm2
    · walk_at "sxq"
      exact ⟨es, xs, _, _, _, rfl, hes.skip, bx, by omega, hw⟩
  rintro σ H ⟨es, xs, a1, c1, y12, rfl, hes, bx, hc1, hw⟩
  rw [List.length_map] at hes hc1
  replace hw := hw.rm1
  have hxl := (hw.all 0 rfl).length
  rw [List.length_map] at hxl
  have hln := hes.ln
  replace hw := hw.freeze1 1 rfl (hw.all 0 rfl)
  obtain ⟨xs, hxs, hw⟩ := hw.open (hw.rp 0 rfl)
  replace hxl := hxs.length
  rw [List.length_map] at hxl
  replace hw := (hw.addA hxs).rm22
  walk_at "sxq"
  refine w_lcK hw (walk_list (xs := xs)) (fun D j H' => ∃ us : List V, us.length ≤ j ∧ W K H0 [b] M H' [(D, .lst us), (pr, .lst []), (b, box a1 s c1)] (.al us (((es.take j).filter (isFree rows row)).map En.d) :: .al xs (es.map En.d) :: .kn pe (.lst xs) :: .tp pl ((placesOf row).map V.str) :: .rp (.ref po) (.list ((opsLet cap).map PyData.str)) :: .rp (.ref pk) (.list []) :: gF rows row phs cap wb wn g o ph ro wl v1 v2 v3 ov fv)) ?_ ?_ ?_ ?_
  · intro D H _ hw
    exact ⟨[], Nat.zero_le _, hw.alNil⟩
  · rintro D j H _ ⟨us, _, hw⟩
    exact SqL.of (hw.kn 2 rfl)
  · rintro D j x _ H hj ⟨us, hul, hw⟩ ⟨rfl, hx⟩
    obtain ⟨d, hd, hrp⟩ := RpAll.item (hw.all 1 rfl) hx
    rw [List.getElem?_map] at hd
    obtain ⟨e, he, rfl⟩ := Option.map_eq_some_iff.mp hd
    have hfl : (es.take (j + 1)).filter (isFree rows row) = (es.take j).filter (isFree rows row) ++ if isFree rows row e = true then [e] else [] := by
      rw [List.take_add_one, he, List.filter_append]
      congr 1
      show [e].filter _ = _
      rw [List.filter_cons]
      split <;> rfl
    have hus : us.length < sizeLine := sz_lt (by omega)
    cases e with
    | kept z =>
      obtain ⟨t, _, rfl, _, _⟩ := Rp.tupI hrp
      replace hw := hw.add hrp
      walk_at "sxq"
      refine x_ixDT (hw.rp 0 rfl) (by decide) (by simp) fun v d hd hv => ?_
      obtain rfl := Option.some.inj hd
      cases hv
      walk_at "sxq"
      refine ⟨us ++ [.ref t], by simp; omega, ?_⟩
      rw [hfl, if_pos (show isFree rows row (.kept z) = true from rfl), List.map_append]
      exact (hw.alSnoc (hw.all 1 rfl) (hw.rp 0 rfl)).rm2
    | «at» i z =>
      obtain ⟨t, _, rfl, _, _⟩ := Rp.tupI hrp
      replace hw := hw.add hrp
      walk_at "sxq"
      refine x_ixDT (hw.rp 0 rfl) (by decide) (by simp) fun v d hd hv => ?_
      obtain rfl := Option.some.inj hd
      cases hv
      obtain ⟨⟨hi, _⟩, _⟩ := hes.ok _ (List.mem_of_getElem? he)
      obtain ⟨kd, hkd⟩ : ∃ kd, (placesOf row)[i]? = some kd := ⟨_, List.getElem?_eq_getElem hi⟩
      obtain ⟨r, l, hr, _, _, hlk, hwo, _⟩ := gi.at hkd
      walk_at "sxq"
      refine x_ixDT (hw.rp 0 rfl) (by decide) (by simp) fun v d hd hv => ?_
      obtain rfl := Option.some.inj hd
      cases hv
      walk_at "sxq"
      refine x_dgetS (hw.kn 7 rfl) rfl ?_
      walk_at "sxq"
      refine x_ixDT (hw.rp 0 rfl) (by decide) (by simp) fun v d hd hv => ?_
      obtain rfl := Option.some.inj hd
      cases hv
      walk_at "sxq"
      refine x_ixT (hw.tp 4 rfl) (atI_nat (by rw [List.getElem?_map, hkd]; rfl)) ?_
      obtain ⟨v, hv, hvd⟩ := valZ (ks := rows.map (·.1)) (hw.all 9 rfl) (x := kd) (d := .tuple [strsD r.2.1, strsD r.2.2]) (by
        rw [show ofD rows = (rows.map (·.2)).map fun (u : List Str × List Str) => PyData.tuple [strsD u.1, strsD u.2] by rw [List.map_map]; rfl, zip_map_lookup, zip_self, hlk]; rfl)
      refine x_dgetS (hw.kn 8 rfl) hv ?_
      obtain ⟨pv', _, rfl, _, _⟩ := Rp.tupI hvd
      replace hw := hw.add hvd
      walk_at "sxq"
      refine x_ixDT (hw.rp 1 rfl) (by decide) (by simp) fun v d hd hv => ?_
      obtain rfl := Option.some.inj hd
      cases hv
      walk_at "sxq"
      obtain ⟨n, q, hn, hnq, hfq⟩ : ∃ (n : Nat) (q : List Str), (if decide ((i : Int) = 0) = true then (1 : Int) else 0) = (n : Int) ∧ [strsD r.2.1, strsD r.2.2][n]? = some (strsD q) ∧ isFree rows row (.at i z) = !decide (z ∈ q) := by
        by_cases h0 : i = 0
        · subst h0
          refine ⟨1, r.2.2, rfl, rfl, ?_⟩
          rw [isFree_at, hwo, if_pos rfl, List.contains_eq_mem]
        · refine ⟨0, r.2.1, ?_, rfl, ?_⟩
          · rw [decide_eq_false (by omega), if_neg (by decide)]; rfl
          · rw [isFree_at, hwo, if_neg h0, List.contains_eq_mem]
      rw [hn]
      have hn2 : n < 2 := (List.getElem?_eq_some_iff.mp hnq).1
      refine x_ixDT (hw.rp 0 rfl) (by omega) (by simp; omega) fun v d hd hv => ?_
      rw [Int.toNat_natCast, hnq] at hd
      obtain rfl := Option.some.inj hd
      obtain ⟨pq, qs, rfl, hqs, hqd⟩ := Rp.tupI hv
      obtain rfl := DdAll.strs_inv hqd
      refine x_notInT hqs rfl (by simp [flatV]) ?_
      rw [inV_strs]
      walk_at "sxq"
      refine x_ifn (fun c5 => ?_) (fun c5 => ?_)
      · walk_at "sxq"
        refine ⟨us ++ [.ref t], by simp; omega, ?_⟩
        rw [hfl, if_pos (by rw [hfq, decide_eq_false c5]; rfl), List.map_append]
        exact (hw.alSnoc (hw.all 2 rfl) (hw.rp 1 rfl)).rm2.rm1
      · walk_at "sxq"
        refine ⟨us, by omega, ?_⟩
        rw [hfl, if_neg (by rw [hfq, decide_eq_true c5]; decide), List.append_nil]
        exact hw.tl.tl
  rintro D H ⟨us, hul, hw⟩
  rw [hxl, List.take_length] at hw
  replace hw := hw.freeze1 1 rfl (hw.all 0 rfl)
  replace hw := hw.rm1
  walk_at "sxq"
  refine w_for (walk_list (xs := xs)) (fun i σ H' => ∃ (rules : List GRule) (vs : List V) (kn : List En) (pk : Addr) (a2 c2 : Int) (y14 y15 y16 y17 y18 y19 y20 : Option V), σ = [some (.ref b), some (.ref g), some (.ref ro), some (.ref ph), some (.ref wl), some (.ref pl), some (.ref pe), some (.ref pr), some (.ref pk), some (.ref po), y10, y11, y12, some (.ref D), y14, y15, y16, y17, y18, y19, y20, y21] ∧
    (∀ r ∈ rules, RlOk rows row cap es r) ∧ (rules.map (·.to)).Sublist (es.take i) ∧ (∀ e ∈ kn, e ∈ es ∧ isFree rows row e = true) ∧ kn.length ≤ i ∧ Bx a2 s c2 ∧ c2 ≤ c1 + 30 * i ∧ W K H0 [b] M H' [(pr, .lst vs), (b, box a2 s c2)] (.al vs (rules.map GRule.d) :: .rp (.ref pk) (.list (kn.map En.d)) :: .rp (.ref D) (.list ((es.filter (isFree rows row)).map En.d)) :: .al xs (es.map En.d) :: .kn pe (.lst xs) :: .tp pl ((placesOf row).map V.str) :: .rp (.ref po) (.list ((opsLet cap).map PyData.str)) :: gF rows row phs cap wb wn g o ph ro wl v1 v2 v3 ov fv)) ?_ ?_ ?_ ?_
  · refine ⟨[], [], [], pk, _, _, _, _, _, _, _, _, _, rfl, (fun _ z => nomatch z), List.nil_sublist _, (fun _ z => nomatch z), Nat.zero_le _, bx, by omega, hw.alNil.pick [0, 6, 1, 2, 3, 4, 5, 7, 8, 9, 10, 11, 12, 13] rfl⟩
  · rintro i σ H _ ⟨rules, vs, kn, pk, a2, c2, y14, y15, y16, y17, y18, y19, y20, rfl, _, _, _, _, _, _, hw⟩
    exact SqL.of (hw.kn 4 rfl)
  · rintro i x σ _ H hi ⟨rules, vs, kn, pk, a2, c2, y14, y15, y16, y17, y18, y19, y20, rfl, hrs, hsl, hkn, hkl, bx, hc2, hw⟩ ⟨rfl, hx⟩
    obtain ⟨d, hd, hrp⟩ := RpAll.item (hw.all 3 rfl) hx
    rw [List.getElem?_map] at hd
    obtain ⟨e, he, rfl⟩ := Option.map_eq_some_iff.mp hd
    have heS := List.mem_of_getElem? he
    replace hw := hw.add hrp
    obtain ⟨t, _, rfl, _, _⟩ : ∃ t xs', x = V.ref t ∧ True ∧ True := by
      cases e <;> (obtain ⟨t, xs', rfl, _, _⟩ := Rp.tupI hrp; exact ⟨t, xs', rfl, trivial, trivial⟩)
    have hei : i < es.length := by rw [← hxl]; exact hi
    refine x_gName (x_seqVia (C := fun N => ∀ (rules : List GRule) (vs : List V) (a2 c3 : Int) (y15 y16 y17 y18 y19 y20 : Option V) H', (∀ r ∈ rules, RlOk rows row cap es r) → (rules.map (·.to)).Sublist (es.take (i + 1)) → Bx a2 s c3 → c3 ≤ c2 + 30 →
      W K H0 [b] M H' [(pr, .lst vs), (b, box a2 s c3)] (.al vs (rules.map GRule.d) :: .rp (.ref t) e.d :: .rp (.ref pk) (.list (kn.map En.d)) :: .rp (.ref D) (.list ((es.filter (isFree rows row)).map En.d)) :: .al xs (es.map En.d) :: .kn pe (.lst xs) :: .tp pl ((placesOf row).map V.str) :: .rp (.ref po) (.list ((opsLet cap).map PyData.str)) :: gF rows row phs cap wb wn g o ph ro wl v1 v2 v3 ov fv) →
      N [some (.ref b), some (.ref g), some (.ref ro), some (.ref ph), some (.ref wl), some (.ref pl), some (.ref pe), some (.ref pr), some (.ref pk), some (.ref po), y10, y11, y12, some (.ref D), some (.ref t), y15, y16, y17, y18, y19, y20, y21] H') (fun N k => ?_) ?_)
    · have skip : (rules.map (·.to)).Sublist (es.take (i + 1)) := hsl.trans (List.take_sublist_take_left (by omega))
      refine x_ifS (x_and (x_tvia (C := fun Q' => ((isKept e = true ∨ isFree rows row e = false) → Q' true H) ∧ Q' false H) (fun Q' kk => ?_) ⟨fun hset => ?_, ?_⟩))
      · walk_at "sxq"
        cases e with
        | kept z =>
          refine x_ixDT (hw.rp 0 rfl) (by decide) (by simp) fun v d hd hv => ?_
          obtain rfl := Option.some.inj hd
          cases hv
          walk_at "sxq"
          exact kk.1 (.inl rfl)
        | «at» i z =>
          refine x_ixDT (hw.rp 0 rfl) (by decide) (by simp) fun v d hd hv => ?_
          obtain rfl := Option.some.inj hd
          cases hv
          walk_at "sxq"
          refine .inr (.inr ⟨(En.at i z).d, (es.filter (isFree rows row)).map En.d, (hw.rp 0 rfl).dp, (hw.rp 3 rfl).dp, En.shaped _ (hes.ok _ heS).2, ens_shaped _ (fun e he => (hes.ok e (List.mem_filter.mp he).1).2), ?_⟩)
          rw [En.any]
          walk_at "sxq"
          by_cases c6 : En.at i z ∈ es.filter (isFree rows row)
          · rw [decide_eq_true c6]
            exact kk.2
          · rw [decide_eq_false c6]
            refine kk.1 (.inr ?_)
            cases hf : isFree rows row (.at i z) with
            | true => exact absurd (List.mem_filter.mpr ⟨heS, hf⟩) c6
            | false => rfl
      · walk_at "sxq"
        refine x_ixT (hw.tp 14 rfl) rfl ?_
        walk_at "sxq"
        refine x_ifd (fun c7 => ?_) (fun c7 => ?_)
        · clear hr0 hr1 c7
          refine x_seq (x_par3 (x_cons ?_))
          walk_at "sxq"
          refine x_oneD hw 1 rfl (hw.rp 7 rfl) (by simp [opsLet]) (by unfold opsLet; split <;> simp) bx (by omega) fun v d a3 c3 H hd bx hc3 hw => ?_
          simp only [List.set_cons_zero, List.set_cons_succ] at hw
          obtain ⟨op, hop, rfl⟩ := List.mem_map.mp hd
          cases (hw.rp 0 rfl)
          replace hw := hw.tl
          refine x_cons (x_via (C := fun Q' => ∀ (ps : Addr) (sm : List En), (∀ e ∈ sm, e ∈ es ∧ isFree rows row e = true) → sm.length ≤ 11 → Rp K (av [(pr, HO.lst vs), (b, box a3 s c3)] M) H (.ref ps) (.list (sm.map En.d)) → Q' (.ref ps) H) (fun Q' kk => ?_) ?_)
          · walk_at "sxq"
            refine x_ixT (hw.tp 14 rfl) rfl ?_
            walk_at "sxq"
            cases wb
            · walk_at "sxq"
              exact kk pk kn hkn (by omega) (hw.rp 2 rfl)
            · walk_at "sxq"
              exact kk D (es.filter (isFree rows row)) (fun e he => List.mem_filter.mp he) (Nat.le_trans (List.length_filter_le _ _) (by omega)) (hw.rp 3 rfl)
          intro ps sm hsm hsml hps
          replace hw := hw.add hps
          walk_at "sxq"
          rename Addr => pq
          refine x_dget2 ?_
          walk_at "sxq"
          replace hw : W K H0 [b] M H [(p, .dK [(.inr "copy", .int 1), (.inr "pick", .int 3)]), (pq, .lst []), (pr, .lst vs), (b, box a3 s c3)] _ := hw
          refine x_dget2a (hw.at 0 rfl) ?_
          walk_at "sxq"
          refine x_dget2b (hw.at 0 rfl) ?_
          rw [opn]
          replace hw := hw.drop1
          have hop3 := opParts_le op
          walk_at "sxq"
          refine w_for walk_range (fun j σ H' => ∃ (os : List Opd) (us : List V) (a4 c4 : Int) (y18 y19 y20 : Option V), σ = [some (.ref b), some (.ref g), some (.ref ro), some (.ref ph), some (.ref wl), some (.ref pl), some (.ref pe), some (.ref pr), some (.ref pk), some (.ref po), y10, y11, y12, some (.ref D), some (.ref t), some (.str op), some (.ref ps), some (.ref pq), y18, y19, y20, y21] ∧
            os.length = j ∧ us.length = j ∧ (∀ o ∈ os, OpdOk rows row es o) ∧ Bx a4 s c4 ∧ c4 ≤ c3 + 8 * j ∧ W K H0 [b] M H' [(pq, .lst us), (pr, .lst vs), (b, box a4 s c4)] (.al us (os.map Opd.d) :: .rp (.ref ps) (.list (sm.map En.d)) :: .rp (.ref t) e.d :: .al vs (rules.map GRule.d) :: .rp (.ref pk) (.list (kn.map En.d)) :: .rp (.ref D) (.list ((es.filter (isFree rows row)).map En.d)) :: .al xs (es.map En.d) :: .kn pe (.lst xs) :: .tp pl ((placesOf row).map V.str) :: .rp (.ref po) (.list ((opsLet cap).map PyData.str)) :: gF rows row phs cap wb wn g o ph ro wl v1 v2 v3 ov fv)) ?_ ?_ ?_ ?_
          · exact ⟨[], [], a3, c3, _, _, _, rfl, rfl, rfl, (fun _ z => nomatch z), bx, by omega, hw.alNil⟩
          · intros
            trivial
          · rintro j x σ _ H hj ⟨os, us, a4, c4, y18, y19, y20, rfl, hol, hul, hos, bx, hc4, hw⟩ ⟨rfl, rfl⟩
            have hj3 : j < 3 := by omega
            have hzz : us.length < sizeLine := sz_lt (by omega)
            walk_at "sxe"
            refine x_number hw 2 rfl bx (by omega) fun n a5 c5 H hn bx hc5 hw => ?_
            simp only [List.set_cons_zero, List.set_cons_succ] at hw
            walk_at "sxe"
            refine x_ixDL (hw.rp 0 rfl) (Int.emod_nonneg _ (by decide)) (by simp only [List.length_cons, List.length_nil]; have := Int.emod_lt_of_pos r (show (0 : Int) < 2 by decide); omega) fun v d hd hv => ?_
            obtain ⟨o1, ho1, rfl⟩ : ∃ o1 : Opd, OpdOk rows row es o1 ∧ d = o1.d := by
              have h01 : r % 2 = 0 ∨ r % 2 = 1 := by omega
              rcases h01 with h01 | h01 <;> rw [h01] at hd
              · exact ⟨.own, trivial, (Option.some.inj hd).symm⟩
              · exact ⟨.num n, hn, (Option.some.inj hd).symm⟩
            replace hw := (hw.add hv).rm2.rm1
            refine x_nx (x_drop (x_bm (x_var rfl (x_tyL (hw.at 0 rfl) (x_cons (x_via (C := fun Q' => ∀ (v : V) (o' : Opd) (a6 c6 : Int) H', OpdOk rows row es o' → Bx a6 s c6 → c6 ≤ c5 + 1 → W K H0 [b] M H' [(pq, .lst us), (pr, .lst vs), (b, box a6 s c6)] (.rp v o'.d :: .al us (os.map Opd.d) :: .rp (.ref ps) (.list (sm.map En.d)) :: .rp (.ref t) e.d :: .al vs (rules.map GRule.d) :: .rp (.ref pk) (.list (kn.map En.d)) :: .rp (.ref D) (.list ((es.filter (isFree rows row)).map En.d)) :: .al xs (es.map En.d) :: .kn pe (.lst xs) :: .tp pl ((placesOf row).map V.str) :: .rp (.ref po) (.list ((opsLet cap).map PyData.str)) :: gF rows row phs cap wb wn g o ph ro wl v1 v2 v3 ov fv) → Q' v H') (fun Q' kk => ?_) ?_))))))
            · walk_at "sxq"
              refine x_ifd (fun c8 => ?_) (fun c8 => ?_)
              · walk_at "sxq"
                refine x_neD (hw.rp 2 rfl).dp (.lst (SqL.of (hw.at 0 rfl)) .nil) (ens_shaped _ fun e he => (hes.ok e (hsm e he).1).2) (by decide) ?_
                rw [show PyData.eqv (.list (sm.map En.d)) (.list []) = decide (sm = []) by cases sm <;> rfl]
                replace hw := hw.drop1
                walk_at "sxq"
                refine x_ifn (fun c9 => ?_) (fun c9 => ?_)
                · walk_at "sxq"
                  refine w_slLD hw (hw.rp 2 rfl) fun p3 H hp3 hw => ?_
                  walk_at "sxq"
                  refine x_oneD hw 2 rfl (hw.rp 0 rfl) (cutD_neg (by omega) (by intro z; exact c9 (List.map_eq_nil_iff.mp z))) (Nat.le_trans cutD_len (by rw [List.length_map]; omega)) bx (by omega) fun v d a6 c6 H hd bx hc6 hw => ?_
                  simp only [List.set_cons_zero, List.set_cons_succ] at hw
                  obtain ⟨e', he', rfl⟩ := List.mem_map.mp (cutD_mem hd)
                  exact kk v (.en e') _ _ _ (hsm e' he') bx (by omega) hw.rm2
                · walk_at "sxq"
                  exact kk _ o1 _ _ _ ho1 bx (by omega) hw
              · walk_at "sxq"
                exact kk _ o1 _ _ _ ho1 bx (by omega) hw
            intro v o' a6 c6 H ho' bx hc6 hw
            walk_at "sxq"
            refine ⟨os ++ [o'], us ++ [v], _, _, _, _, _, rfl, by simp [hol], by simp [hul], fun z hz => ?_, bx, by omega, ?_⟩
            · rcases List.mem_append.mp hz with hz | hz
              · exact hos z hz
              · rw [List.mem_singleton.mp hz]; exact ho'
            · rw [List.map_append]
              exact (hw.alSnoc (hw.all 1 rfl) (hw.rp 0 rfl)).rm2
          · rintro σ H ⟨os, us, a4, c4, y18, y19, y20, rfl, hol, hul, hos, bx, hc4, hw⟩
            rw [Int.toNat_natCast] at hol hul hc4
            walk_at "sxq"
            refine x_ixDT (hw.rp 15 rfl) (by decide) (by simp) fun v d hd hv => ?_
            obtain rfl := Option.some.inj hd
            cases hv
            walk_at "sxq"
            refine w_tupleA hw (hw.at 0 rfl) (hw.all 0 rfl) fun p H hp hw => ?_
            have hvl : vs.length = rules.length := by rw [(hw.all 4 rfl).length, List.length_map]
            have hrl := hsl.length_le
            rw [List.length_map, List.length_take] at hrl
            have hzz : vs.length < sizeLine := sz_lt (by omega)
            walk_at "sxe"
            replace hw := hw.drop1
            refine k (rules ++ [⟨row.1, e, op, os⟩]) (vs ++ [.ref p]) a4 c4 _ _ _ _ _ _ H (fun z hz => ?_) ?_ bx (by omega) ?_
            · rcases List.mem_append.mp hz with hz | hz
              · exact hrs z hz
              · rw [List.mem_singleton.mp hz]
                exact ⟨rfl, heS, hset, hop, hol, hos⟩
            · rw [List.map_append, List.take_add_one, he]
              exact hsl.append (List.Sublist.refl _)
            · rw [List.map_append]
              exact (hw.alSnoc (hw.all 5 rfl) (hw.rp 0 rfl)).pick [0, 5, 7, 8, 9, 10, 11, 12, 13, 14, 15, 16, 17, 18, 19] rfl
        · walk_at "sxq"
          exact k rules vs _ _ _ _ _ _ _ _ _ hrs skip bx (by omega) (hw.pick [1, 0, 2, 3, 4, 5, 6, 7, 8, 9, 10, 11, 12, 13, 14] rfl)
      · walk_at "sxq"
        exact k rules vs _ _ _ _ _ _ _ _ _ hrs skip bx (by omega) (hw.pick [1, 0, 2, 3, 4, 5, 6, 7, 8, 9, 10, 11, 12, 13, 14] rfl)
    · intro rules vs a2 c3 y15 y16 y17 y18 y19 y20 H hrs hsl bx hc3 hw
      walk_at "sxq"
      rename Addr => po1
      refine w_lcK hw (walk_list (xs := [V.ref t])) (fun D1 j H' => W K H0 [b] M H' [(D1, .lst (if j = 0 then [] else if isFree rows row e = true then [V.ref t] else [])), (po1, .lst [V.ref t]), (pr, .lst vs), (b, box a2 s c3)] (.al vs (rules.map GRule.d) :: .rp (.ref t) e.d :: .rp (.ref pk) (.list (kn.map En.d)) :: .rp (.ref D) (.list ((es.filter (isFree rows row)).map En.d)) :: .al xs (es.map En.d) :: .kn pe (.lst xs) :: .tp pl ((placesOf row).map V.str) :: .rp (.ref po) (.list ((opsLet cap).map PyData.str)) :: gF rows row phs cap wb wn g o ph ro wl v1 v2 v3 ov fv)) ?_ ?_ ?_ ?_
      · intro D1 H _ hw
        exact hw
      · rintro D1 j H _ hw
        exact SqL.of (hw.at 1 rfl)
      · rintro D1 j x _ H hj hw ⟨rfl, hx⟩
        obtain rfl : j = 0 := by simpa using hj
        obtain rfl := Option.some.inj hx
        walk_at "sxq"
        refine .inr (.inr ⟨e.d, (es.filter (isFree rows row)).map En.d, (hw.rp 1 rfl).dp, (hw.rp 3 rfl).dp, e.shaped (hes.ok e heS).2, ens_shaped _ (fun e he => (hes.ok e (List.mem_filter.mp he).1).2), ?_⟩)
        rw [En.any]
        walk_at "sxq"
        refine x_ifd (fun c5 => ?_) (fun c5 => ?_)
        · walk_at "sxq"
          rw [if_neg (by decide), if_pos (List.mem_filter.mp c5).2]
          exact hw
        · walk_at "sxq"
          rw [if_neg (by decide), if_neg (fun z => c5 (List.mem_filter.mpr ⟨heS, z⟩))]
          exact hw
      · intro D1 H hw
        rw [if_neg (by simp)] at hw
        replace hw := hw.freeze1 (ds := if isFree rows row e = true then [e.d] else []) 2 rfl (by
          by_cases c6 : isFree rows row e = true
          · rw [if_pos c6, if_pos c6]; exact .cons (hw.rp 1 rfl) .nil
          · rw [if_neg c6, if_neg c6]; exact .nil)
        replace hw := hw.drop1
        walk_at "sxq"
        refine w_catD hw (hw.rp 3 rfl) (hw.rp 0 rfl) (by rw [sizeLine_eq]; split <;> simp <;> omega) fun p2 H hp2 hw => ?_
        walk_at "sxq"
        refine ⟨rules, vs, kn ++ (if isFree rows row e = true then [e] else []), p2, a2, c3, _, _, _, _, _, _, _, rfl, hrs, hsl, fun e' he' => ?_, ?_, bx, by omega, ?_⟩
        · rcases List.mem_append.mp he' with he' | he'
          · exact hkn e' he'
          · split at he'
            · rename_i c6
              rw [List.mem_singleton.mp he']
              exact ⟨heS, c6⟩
            · cases he'
        · rw [List.length_append]
          split <;> simp <;> omega
        · rw [List.map_append, show List.map En.d (if isFree rows row e = true then [e] else []) = (if isFree rows row e = true then [e.d] else []) by split <;> rfl]
          exact hw.pick [2, 0, 5, 6, 7, 8, 9, 10, 11, 12, 13, 14, 15, 16] rfl
  · rintro σ H ⟨rules, vs, kn, pk, a2, c2, y14, y15, y16, y17, y18, y19, y20, rfl, hrs, hsl, hkn, hkl, bx, hc2, hw⟩
    rw [hxl, List.take_length] at hsl
    walk_at "sxq"
    have hb := hw.at 1 rfl
    have hex := hw.ex
    replace hw := hw.freeze1 0 rfl (hw.all 0 rfl)
    refine q pr rules _ _ _ ⟨es, hes.nd, by omega, by have := hes.kl; omega, fun e he => (hes.ok e he).1, hrs, hsl⟩ bx (by omega) hex hb ((hw.rp 0 rfl).less fun x hx => List.mem_append_right _ hx)
end
end Law
namespace Law
open PySem PySem.Spec PyProof.Rows L2 Fw
section
variable {K : PySem.W.Frag} {H0 H : Hp} {Ms M0 : List Addr} {L : List (Addr × HO)} {R : List Fa} {b p : Addr} {a s c : Int} {Q : VK} {E : XK}
theorem x_sortRows {m : Int} {n : Nat} (hw : W K H0 Ms M0 H L R) (i : Nat) (hL : L[i]? = some (b, box a s c)) (hm : m = n) (h1 : 1 ≤ n) (h4 : n ≤ 4) (bx : Bx a s c) (hc : c + 300 < 2 ^ 40)
    (q : ∀ p (rows : List SRow) a' c' H', rows.length = n → (rows.map (·.1)).Nodup → (∀ r ∈ rows, SOk r) → Bx a' s c' → c' ≤ c + 300 → W K H0 Ms M0 H' (L.set i (b, box a' s c')) (.rp (.ref p) (.list (rows.map SRow.d)) :: R) → Q (.ref p) H') : spSortRows K [.ref b, .int m] H Q E := by
  subst hm
  exact ⟨av L M0, b, a, s, c, n, rfl, h1, h4, hw.alloc', List.mem_append_left _ (List.mem_map.mpr ⟨_, List.mem_of_getElem? hL, rfl⟩), hw.at i hL, bx, hc, fun p rows a' c' H' k1 k2 k3 k4 k5 k6 k7 k8 => q p rows a' c' H' k1 k2 k3 k4 k5 (hw.callD i hL k6 k7 k8)⟩
theorem mem_pick {R R' : List Fa} (is : List Nat) (h : (is.map fun i => R[i]?) = R'.map some) : ∀ r ∈ R', r ∈ R := fun r hr => by
  have : some r ∈ R'.map some := List.mem_map.mpr ⟨r, hr, rfl⟩
  rw [← h] at this
  obtain ⟨i, _, e⟩ := List.mem_map.mp this
  exact List.mem_of_getElem? e
theorem zip_snoc {α β : Type} : ∀ {xs : List α} {ys : List β} {x : α} {y : β}, xs[ys.length]? = some x → xs.zip (ys ++ [y]) = xs.zip ys ++ [(x, y)]
  | [], _, _, _, h => by simp at h
  | a :: xs, [], x, y, h => by simp at h; subst h; simp
  | a :: xs, b :: ys, x, y, h => by
    simp only [List.length_cons, List.getElem?_cons_succ] at h
    simp [zip_snoc h]
end
structure MsOk (rows : List SRow) (ms : List MRow) : Prop where
  kind : ∀ m ∈ ms, m.2.1 ∈ rows.map (·.1)
  parts : ∀ m ∈ ms, ∀ x ∈ m.2.2, x ∈ rows.map (·.1)
  plen : ∀ m ∈ ms, m.2.2.length ≤ 2
theorem putM (cap : Nat) (v1 v2 v3 u : V) (o : Addr) : putK (gK cap v1 v2 v3 o) (.inr "makings") u = gK cap v1 u v3 o := rfl
theorem putR (cap : Nat) (v1 v2 v3 u : V) (o : Addr) : putK (gK cap v1 v2 v3 o) (.inr "rules") u = gK cap v1 v2 u o := rfl
theorem getM (cap : Nat) (v1 v2 v3 : V) (o : Addr) : valV (gK cap v1 v2 v3 o) (.inr "makings") = some v2 := rfl
theorem getR (cap : Nat) (v1 v2 v3 : V) (o : Addr) : valV (gK cap v1 v2 v3 o) (.inr "rules") = some v3 := rfl
abbrev gK6 (cap : Nat) (v1 v2 v3 : V) (o o2 : Addr) : List (Key × V) := [(.inr "cap", .int cap), (.inr "sorts", v1), (.inr "makings", v2), (.inr "rules", v3), (.inr "of", .ref o), (.inr "by", .ref o2)]
theorem putB (cap : Nat) (v1 v2 v3 : V) (o o2 : Addr) : putK (gK cap v1 v2 v3 o) (.inr "by") (.ref o2) = gK6 cap v1 v2 v3 o o2 := rfl
theorem getR6 (cap : Nat) (v1 v2 v3 : V) (o o2 : Addr) : valV (gK6 cap v1 v2 v3 o o2) (.inr "rules") = some v3 := rfl
theorem putH (cap : Nat) (v1 v2 v3 : V) (o o2 o3 : Addr) : putK (gK6 cap v1 v2 v3 o o2) (.inr "has") (.ref o3) = [(.inr "cap", .int cap), (.inr "sorts", v1), (.inr "makings", v2), (.inr "rules", v3), (.inr "of", .ref o), (.inr "by", .ref o2), (.inr "has", .ref o3)] := rfl
theorem key_data (r : GRule) : (NestedKey.tup (ruleKey r)).data = .tuple [.str r.by', r.to.d] := by
  unfold ruleKey enKey
  cases r.to <;> rfl
theorem key_depth (r : GRule) : (NestedKey.tup (ruleKey r)).depth ≤ 8 := by
  unfold ruleKey enKey
  cases r.to <;> simp [NestedKey.depth, NestedKey.depthAll]
section
variable {P : Program} {w : World} {K : PySem.W.Frag} {mg : Str → Option Value} {base : Heap} {f : Addr} {fd : FuncData} {k : Nat} {kws : List (Str × V)}
theorem ok_drawn (F : FunD K "_law_drawn" "_law_drawn" (defArgs s_law_drawn) (defBody s_law_drawn) (defScope s_law_drawn) [] kws f fd) (B : BltD mg) (G_law_take : Fq P w K mg base CX0 1 "_law_take" ["_law_box", "_law_many"] spTake) (G_law_named : Fq P w K mg base CX0 2 "_law_named" ["_law_box", "_law_many"] spNamed) (G_law_strewn : Fq P w K mg base CX0 2 "_law_strewn" ["_law_box", "_law_some"] (spStrewn K))
    (G_law_one_of : Fq P w K mg base CX0 2 "_law_one_of" ["_law_box", "_law_some"] (spOneOf K)) (G_law_sort_rows : Fq P w K mg base CX0 3 "_law_sort_rows" ["_law_box", "_law_many"] (spSortRows K)) (G_law_rules_for : Fq P w K mg base CX0 3 "_law_rules_for" ["_law_box", "_law_g", "_law_row", "_law_phases", "_law_wild_here"] (spRules K)) : FnG P w K mg base CX0 4 f fd ["_law_box", "_law_roof", "_law_wild_here"] (spDrawn K P w) := by
  refine okG F sc_law_drawn (fun vs H Q E h => ?_) (fun cdv A outer s H0 vs Q E hG hr h => ?_)
  · obtain ⟨M, cap, wb, wn, b, wl, a, s, c, rfl, _⟩ := h
    rfl
  obtain ⟨M, cap, wb, wn, b, wl, a, s, c, rfl, hcap, hw1, hw2, hM, hbM, hb, bx, hc, hwl, q⟩ := h
  have hw : W K H0 [b] M H0 [(b, box a s c)] [.tp wl [.bl wb, .int wn]] := W.start1 hb hM (fun r z => by rw [List.mem_singleton.mp z]; exact fa_in (r := .tp _ _) hwl hbM)
  refine ⟨_, [some (.ref b), some (.int cap), some (.ref wl), none, none, none, none, none, none, none, none, none], (pss_cons (ps_set (i := 3) sc_law_drawn.nd rfl (Or.inr rfl) (pe_fq hG G_law_sort_rows hr (by first | decide | omega) (by rfl) pass0 (pa_cons (pv 0) (pa_cons (pe_op (op_addU (K := K)) pe_int (pe_fq hG G_law_take hr (by first | decide | omega) (by rfl) pass0 (pa_cons (pv 0) (pa_cons pe_int pa_nil)))) pa_nil))))
  (pss_cons (ps_set (i := 4) sc_law_drawn.nd rfl (Or.inl rfl) (pe_disp (pps_cons pe_str (pv 1) (pps_cons pe_str (pv 3) (pps_cons pe_str (pe_lst pa_nil) (pps_cons pe_str (pe_lst pa_nil) (pps_cons pe_str (pe_callTy (call_dictU (K := K) (P := P) (w := w) rfl hr) (by rfl) B.dict (by decide +kernel) (pa_cons (pe_lc (own := [("_law_row", 10)]) rfl sc_law_drawn.nd (pi_U (K := K) (pv 3)) (blkOk_by (own := [("_law_row", 10)]) (N := ["_law_box", "_law_roof", "_law_wild_here", "_law_kinds", "_law_g", "_law_phases", "_law_k", "_law_name", "_law_kind", "_law_size", "_law_row", "_law_turn"]) (sc := defScope s_law_drawn) (by decide +kernel)) (fun _ _ _ _ _ => (pg_name (i := 10) sc_law_drawn.nd rfl (Or.inl rfl))) (fun _ _ _ _ _ => pts_nil) (fun _ _ _ _ _ => (pe_tup (pa_cons (pe_ix (ix_U (K := K)) (pv 10) pe_int (fun _ _ => rfl)) (pa_cons (pe_slice (sl_U (K := K)) (pv 10) (po_some pe_int) po_none) pa_nil))))) pa_nil)) pps_nil))))) (by rfl) (by rfl) (fun z => by cases z) (by decide)))
  (pss_cons (ps_set (i := 5) sc_law_drawn.nd rfl (Or.inl rfl) (pe_callTy (call_dictU (K := K) (P := P) (w := w) rfl hr) (by rfl) B.dict (by decide +kernel) (pa_cons (pe_lc (own := [("_law_row", 10)]) rfl sc_law_drawn.nd (pi_U (K := K) (pv 3)) (blkOk_by (own := [("_law_row", 10)]) (N := ["_law_box", "_law_roof", "_law_wild_here", "_law_kinds", "_law_g", "_law_phases", "_law_k", "_law_name", "_law_kind", "_law_size", "_law_row", "_law_turn"]) (sc := defScope s_law_drawn) (by decide +kernel)) (fun _ _ _ _ _ => (pg_name (i := 10) sc_law_drawn.nd rfl (Or.inl rfl))) (fun _ _ _ _ _ => pts_nil) (fun _ _ _ _ _ => (pe_tup (pa_cons (pe_ix (ix_U (K := K)) (pv 10) pe_int (fun _ _ => rfl)) (pa_cons (pe_fq hG G_law_strewn hr (by first | decide | omega) (by rfl) pass0 (pa_cons (pv 0) (pa_cons (pe_op (op_addU (K := K)) (pe_ix (ix_U (K := K)) (pv 10) pe_int (fun _ _ => rfl)) (pe_ix (ix_U (K := K)) (pv 10) pe_int (fun _ _ => rfl))) pa_nil))) pa_nil))))) pa_nil)))
  (pss_cons (ps_for PassesOwn.never rfl (pi_En (K := K) (by rfl) B.enumerate (pa_cons (pe_fq hG G_law_named hr (by first | decide | omega) (by rfl) pass0 (pa_cons (pv 0) (pa_cons (pe_op (op_addU (K := K)) (pe_callB (call_lenU (K := K)) (by rfl) B.len (by decide +kernel) (pa_cons (pv 3) pa_nil)) (pe_fq hG G_law_take hr (by first | decide | omega) (by rfl) pass0 (pa_cons (pv 0) (pa_cons (pe_op op_sub pe_int (pe_callB (call_lenU (K := K)) (by rfl) B.len (by decide +kernel) (pa_cons (pv 3) pa_nil))) pa_nil)))) pa_nil))) pa_nil)) (pg_T (K := K) (n := 2) rfl (pgs_cons (pg_name (i := 6) sc_law_drawn.nd rfl (Or.inl rfl)) (pgs_cons (pg_name (i := 7) sc_law_drawn.nd rfl (Or.inl rfl)) pgs_nil))) (pss_cons (ps_par (i := 8) (j := 9) rfl sc_law_drawn.nd rfl rfl (by decide) rfl rfl (pa_cons (pe_ix (ix_U (K := K)) (pe_fq hG G_law_one_of hr (by first | decide | omega) (by rfl) pass0 (pa_cons (pv 0) (pa_cons (pv 3) pa_nil))) pe_int (fun _ _ => rfl)) (pa_cons (pe_ix (ix_U (K := K)) (pe_lst (pa_cons pe_int (pa_cons pe_int (pa_cons pe_int (pa_cons pe_int pa_nil))))) (pe_fq hG G_law_take hr (by first | decide | omega) (by rfl) pass0 (pa_cons (pv 0) (pa_cons pe_int pa_nil))) (fun _ _ => rfl)) pa_nil)) (by rfl))
  (pss_cons (ps_if (PW.pt (pw_and (pt_cmpR (op_lt) (pv 6) (pe_callB (call_lenU (K := K)) (by rfl) B.len (by decide +kernel) (pa_cons (pv 3) pa_nil)) (nomark _)) (pw_and1 (pt_cmpR (op_gt) (pe_fq hG G_law_take hr (by first | decide | omega) (by rfl) pass0 (pa_cons (pv 0) (pa_cons pe_int pa_nil))) pe_int (nomark _))))) (pss_one (ps_par (i := 8) (j := 9) rfl sc_law_drawn.nd rfl rfl (by decide) rfl rfl (pa_cons (pe_ix (ix_U (K := K)) (pe_ix (ix_U (K := K)) (pv 3) (pv 6) (fun _ _ => rfl)) pe_int (fun _ _ => rfl)) (pa_cons pe_int pa_nil)) (by rfl))) pss_nil)
  (pss_cons (ps_set (i := 10) sc_law_drawn.nd rfl (Or.inl rfl) (pe_tup (pa_cons (pv 7) (pa_cons (pv 8) (pa_cons (pe_callTy (call_tupleU (K := K)) (by rfl) B.tuple (by decide +kernel) (pa_cons (pe_lc (own := [("_law_turn", 11)]) rfl sc_law_drawn.nd (pi_range1 (by rfl) B.range (pa_cons (pv 9) pa_nil)) (blkOk_by (own := [("_law_turn", 11)]) (N := ["_law_box", "_law_roof", "_law_wild_here", "_law_kinds", "_law_g", "_law_phases", "_law_k", "_law_name", "_law_kind", "_law_size", "_law_row", "_law_turn"]) (sc := defScope s_law_drawn) (by decide +kernel)) (fun _ _ _ _ _ => (pg_name (i := 11) sc_law_drawn.nd rfl (Or.inl rfl))) (fun _ _ _ _ _ => pts_nil) (fun _ _ _ _ _ => (pe_ix (ix_U (K := K)) (pe_fq hG G_law_one_of hr (by first | decide | omega) (by rfl) pass0 (pa_cons (pv 0) (pa_cons (pv 3) pa_nil))) pe_int (fun _ _ => rfl)))) pa_nil)) pa_nil)))))
  (pss_cons (ps_asg (pe_op (op_addU (K := K)) (pe_dget (hu_of hr) (pv 4) pe_str (fun _ _ => rfl)) (pe_lst (pa_cons (pv 10) pa_nil))) (pg_sub (pv 4) pe_str (set_dict (hu_of hr))))
  (pss_one (ps_asg (pe_op (op_addU (K := K)) (pe_dget (hu_of hr) (pv 4) pe_str (fun _ _ => rfl)) (pe_fq hG G_law_rules_for hr (by first | decide | omega) (by rfl) pass0 (pa_cons (pv 0) (pa_cons (pv 4) (pa_cons (pv 10) (pa_cons (pv 5) (pa_cons (pv 2) pa_nil))))))) (pg_sub (pv 4) pe_str (set_dict (hu_of hr))))))))))
  (pss_cons (ps_asg (pe_callTy (call_dictU (K := K) (P := P) (w := w) rfl hr) (by rfl) B.dict (by decide +kernel) (pa_cons (pe_lc (own := [("_law_row", 10)]) rfl sc_law_drawn.nd (pi_U (K := K) (pe_dget (hu_of hr) (pv 4) pe_str (fun _ _ => rfl))) (blkOk_by (own := [("_law_row", 10)]) (N := ["_law_box", "_law_roof", "_law_wild_here", "_law_kinds", "_law_g", "_law_phases", "_law_k", "_law_name", "_law_kind", "_law_size", "_law_row", "_law_turn"]) (sc := defScope s_law_drawn) (by decide +kernel)) (fun _ _ _ _ _ => (pg_name (i := 10) sc_law_drawn.nd rfl (Or.inl rfl))) (fun _ _ _ _ _ => pts_nil) (fun _ _ _ _ _ => (pe_tup (pa_cons (pe_ix (ix_U (K := K)) (pv 10) pe_int (fun _ _ => rfl)) (pa_cons (pe_slice (sl_U (K := K)) (pv 10) (po_some pe_int) po_none) pa_nil))))) pa_nil)) (pg_sub (pv 4) pe_str (set_dict (hu_of hr))))
  (pss_cons (ps_asg (pe_callTy (call_dictU (K := K) (P := P) (w := w) rfl hr) (by rfl) B.dict (by decide +kernel) (pa_cons (pe_lc (own := [("_law_row", 10)]) rfl sc_law_drawn.nd (pi_U (K := K) (pe_dget (hu_of hr) (pv 4) pe_str (fun _ _ => rfl))) (blkOk_by (own := [("_law_row", 10)]) (N := ["_law_box", "_law_roof", "_law_wild_here", "_law_kinds", "_law_g", "_law_phases", "_law_k", "_law_name", "_law_kind", "_law_size", "_law_row", "_law_turn"]) (sc := defScope s_law_drawn) (by decide +kernel)) (fun _ _ _ _ _ => (pg_name (i := 10) sc_law_drawn.nd rfl (Or.inl rfl))) (fun _ _ _ _ _ => pts_nil) (fun _ _ _ _ _ => (pe_tup (pa_cons (pe_slice (sl_U (K := K)) (pv 10) po_none (po_some pe_int)) (pa_cons (pe_slice (sl_U (K := K)) (pv 10) (po_some pe_int) po_none) pa_nil))))) pa_nil)) (pg_sub (pv 4) pe_str (set_dict (hu_of hr))))
  (pss_one (ps_ret (pv 4))))))))), rfl, ?_⟩
  walk_at "sxq"
  obtain ⟨m, rfl⟩ := Int.eq_ofNat_of_zero_le hr0
  refine x_sortRows hw 0 rfl (n := m + 1) (by omega) (by omega) (by omega) bx (by omega) fun pk rows a1 c0 H hrl hrnd hrok bx hc0 hw => ?_
  simp only [List.set_cons_zero] at hw
  have hm4 : m < 4 := by omega
  obtain ⟨xs, hxs, hw⟩ := hw.open (hw.rp 0 rfl)
  have hxl : xs.length = m + 1 := by rw [hxs.length, List.length_map, hrl]
  replace hw := hw.addA hxs
  clear hxs hr0 hr1
  walk_at "sxe"
  rename_i g _ _ _ pm _ _ _
  rename Addr => pu
  refine w_lcK hw (walk_list (xs := xs)) (fun D i H' => ∃ us : List V, us.length = i ∧ W K H0 [b] M H' [(D, .lst us), (g, .dK []), (b, box a1 s c0)] (.al us ((rows.take i).map fun r => PyData.tuple [.str r.1, .tuple [strsD r.2.1, strsD r.2.2]]) :: .rp (.ref pu) (.list []) :: .rp (.ref pm) (.list []) :: .al xs (rows.map SRow.d) :: .kn pk (.lst xs) :: .rp (.ref pk) (.list (rows.map SRow.d)) :: .tp wl [.bl wb, .int wn] :: [])) ?_ ?_ ?_ ?_
  · intro D H _ hw
    exact ⟨[], rfl, hw.alNil⟩
  · rintro D i H _ ⟨us, _, hw⟩
    exact SqL.of (hw.kn 4 rfl)
  · rintro D i x _ H hi ⟨us, hul, hw⟩ ⟨rfl, hx⟩
    obtain ⟨d, hd, hrp⟩ := RpAll.item (hw.all 3 rfl) hx
    rw [List.getElem?_map] at hd
    obtain ⟨r, hr, rfl⟩ := Option.map_eq_some_iff.mp hd
    obtain ⟨t, _, rfl, _, _⟩ := Rp.tupI hrp
    have hzz : us.length < sizeLine := sz_lt (by omega)
    replace hw := hw.add hrp
    walk_at "sxe"
    refine x_ixDT (hw.rp 0 rfl) (by decide) (by simp) fun v d hd hv => ?_
    obtain rfl := Option.some.inj hd
    cases hv
    walk_at "sxe"
    refine w_slTD hw (hw.rp 0 rfl) fun p1 H hw => ?_
    rw [show (1 : Int) = ((1 : Nat) : Int) from rfl, cutD_from] at hw
    walk_at "sxe"
    refine ⟨us ++ [.ref p], by simp [hul], ?_⟩
    rw [List.take_add_one, hr, List.map_append]
    exact (hw.alSnoc (hw.all 3 rfl) (hw.rp 0 rfl)).rm2.rm2
  rintro D H ⟨us, hul, hw⟩
  rw [List.take_of_length_le (by omega)] at hw
  replace hw := (hw.freeze1 1 rfl (hw.all 0 rfl)).rm1
  walk_at "sxe"
  refine w_dictT (rows := rows.map fun r => (r.1, PyData.tuple [strsD r.2.1, strsD r.2.2])) hw (by rw [List.map_map]; exact hw.rp 0 rfl) (by rw [List.map_map]; exact hrnd) fun o ov H ho hovl hw => ?_
  rw [List.map_map, List.map_map] at hw
  replace hw : W K H0 [b] M H [(o, .dK (kvZ (rows.map (·.1)) ov)), (g, .dK []), (b, box a1 s c0)] (.al ov (ofD rows) :: .rp (.ref D) _ :: .rp (.ref pu) (.list []) :: .rp (.ref pm) (.list []) :: .al xs (rows.map SRow.d) :: .kn pk (.lst xs) :: .rp (.ref pk) (.list (rows.map SRow.d)) :: .tp wl [.bl wb, .int wn] :: []) := hw
  replace hw := hw.rm1
  walk_at "sxe"
  replace hw : W K H0 [b] M H [(o, .dK (kvZ (rows.map (·.1)) ov)), (g, .dK (gK cap (.ref pk) (.ref pm) (.ref pu) o)), (b, box a1 s c0)] _ := hw
  replace hw := hw.keep1 1 rfl
  clear hovl
  refine w_lcK hw (walk_list (xs := xs)) (fun D i H' => ∃ (us : List V) (phs : List (List Str)) (a2 c1 : Int), us.length = i ∧ phs.length = i ∧ (∀ (j : Nat) (r : SRow) (l : List Str), rows[j]? = some r → phs[j]? = some l → l.Perm (r.2.1 ++ r.2.2)) ∧ Bx a2 s c1 ∧ c1 ≤ c0 + 5 * i ∧ W K H0 [b] M H' [(D, .lst us), (g, .dK (gK cap (.ref pk) (.ref pm) (.ref pu) o)), (b, box a2 s c1)] (.al us (((rows.map (·.1)).zip phs).map fun x => PyData.tuple [.str x.1, .list (x.2.map PyData.str)]) :: .kn o (.dK (kvZ (rows.map (·.1)) ov)) :: .al ov (ofD rows) :: .rp (.ref pu) (.list []) :: .rp (.ref pm) (.list []) :: .al xs (rows.map SRow.d) :: .kn pk (.lst xs) :: .rp (.ref pk) (.list (rows.map SRow.d)) :: .tp wl [.bl wb, .int wn] :: [])) ?_ ?_ ?_ ?_
  · intro D H _ hw
    refine ⟨[], [], _, _, rfl, rfl, (fun j r l _ z => by simp at z), bx, by omega, ?_⟩
    rw [List.zip_nil_right]
    exact hw.alNil
  · rintro D i H _ ⟨us, phs, a2, c1, _, _, _, _, _, hw⟩
    exact SqL.of (hw.kn 6 rfl)
  · rintro D i x _ H hi ⟨us, phs, a2, c1, hul, hpl, hph, bx, hc1, hw⟩ ⟨rfl, hx⟩
    obtain ⟨d, hd, hrp⟩ := RpAll.item (hw.all 5 rfl) hx
    rw [List.getElem?_map] at hd
    obtain ⟨r, hr, rfl⟩ := Option.map_eq_some_iff.mp hd
    obtain ⟨t, _, rfl, _, _⟩ := Rp.tupI hrp
    have hsok := hrok r (List.mem_of_getElem? hr)
    have hzz : us.length < sizeLine := sz_lt (by omega)
    replace hw := hw.add hrp
    walk_at "sxe"
    refine x_ixDT (hw.rp 0 rfl) (by decide) (by simp) fun v d hd hv => ?_
    obtain rfl := Option.some.inj hd
    cases hv
    walk_at "sxe"
    refine x_ixDT (hw.rp 0 rfl) (by decide) (by simp) fun v d hd hv1 => ?_
    obtain rfl := Option.some.inj hd
    obtain ⟨t1, _, rfl, _, _⟩ := Rp.tupI hv1
    replace hw := hw.add hv1
    walk_at "sxe"
    refine x_ixDT (hw.rp 1 rfl) (by decide) (by simp) fun v d hd hv2 => ?_
    obtain rfl := Option.some.inj hd
    obtain ⟨t2, _, rfl, _, _⟩ := Rp.tupI hv2
    replace hw := hw.add hv2
    refine w_catTD hw (hw.rp 1 rfl) (hw.rp 0 rfl) (by have := hsok.dn; have := hsok.up; simp; omega) fun p1 H hw => ?_
    rw [← List.map_append] at hw
    walk_at "sxe"
    have hl3 : (r.2.1 ++ r.2.2).length ≤ 3 := by rw [List.length_append]; exact hsok.all
    refine x_strewn hw 2 rfl (.inr (hw.rp 0 rfl)) (by rw [List.length_map]; omega) bx (by rw [List.length_map]; omega) fun p2 ds' a3 c2 H hperm bx hc2 hw => ?_
    simp only [List.set_cons_zero, List.set_cons_succ] at hw
    rw [List.length_map] at hc2
    obtain ⟨l, rfl, hlp⟩ := strs_of hperm
    walk_at "sxe"
    refine ⟨us ++ [.ref p], phs ++ [l], _, _, by simp [hul], by simp [hpl], fun j r' l' h1 h2 => ?_, bx, by omega, ?_⟩
    · by_cases hj : j < phs.length
      · rw [List.getElem?_append_left hj] at h2
        exact hph j r' l' h1 h2
      · rw [List.getElem?_append_right (by omega)] at h2
        have hj0 : j - phs.length = 0 := by
          have := (List.getElem?_eq_some_iff.mp h2).1
          simp at this
          omega
        rw [hj0] at h2
        obtain rfl := Option.some.inj h2
        rw [show j = i by omega, hr] at h1
        obtain rfl := Option.some.inj h1
        exact hlp
    · rw [zip_snoc (x := r.1) (by rw [hpl, List.getElem?_map, hr]; rfl), List.map_append]
      exact (hw.alSnoc (hw.all 6 rfl) (hw.rp 0 rfl)).rm2.rm2.rm2.rm1
  rintro D H ⟨us, phs, a2, c1, hul, hpl, hph, bx, hc1, hw⟩
  replace hw := (hw.freeze1 1 rfl (hw.all 0 rfl)).rm1
  have hpl2 : phs.length = rows.length := by omega
  walk_at "sxe"
  refine w_dictT (rows := ((rows.map (·.1)).zip phs).map fun x => (x.1, PyData.list (x.2.map PyData.str))) hw (by rw [List.map_map]; exact hw.rp 0 rfl) (by rw [List.map_map]; show (((rows.map (·.1)).zip phs).map Prod.fst).Nodup; rw [List.map_fst_zip (by rw [List.length_map]; omega)]; exact hrnd) fun ph fv H ho hfvl hw => ?_
  rw [List.map_map, List.map_map, show (((rows.map (·.1)).zip phs).map ((fun x => x.1) ∘ fun x => (x.1, PyData.list (x.2.map PyData.str)))) = rows.map (·.1) from List.map_fst_zip (by rw [List.length_map]; omega), show (((rows.map (·.1)).zip phs).map ((fun x => x.2) ∘ fun x => (x.1, PyData.list (x.2.map PyData.str)))) = phD phs from (by
    rw [show ((fun x => x.2) ∘ fun (x : Str × List Str) => (x.1, PyData.list (x.2.map PyData.str))) = (fun l : List Str => PyData.list (l.map PyData.str)) ∘ Prod.snd from rfl, ← List.map_map, List.map_snd_zip (by rw [List.length_map]; omega)])] at hw
  replace hw := hw.rm1.keep1 1 rfl
  walk_at "sxe"
  refine x_lenL (SqL.of (hw.kn 7 rfl)) ?_
  walk_at "sxe"
  refine x_lenL (SqL.of (hw.kn 7 rfl)) ?_
  walk_at "sxe"
  obtain ⟨u, rfl⟩ := Int.eq_ofNat_of_zero_le hr0
  refine x_named hw 1 rfl (n := m + 1 + u) (by omega) (by omega) bx (by omega) fun ns pn a3 c2 H hnl hns hnd bx hc2 hw => ?_
  simp only [List.set_cons_zero, List.set_cons_succ] at hw
  have hn8 : ns.length ≤ 8 := by omega
  walk_at "sxe"
  refine w_for (walk_enum (xs := ns.map V.str)) (fun i σ H' => ∃ (ms : List MRow) (rs : List GRule) (p2 p3 : Addr) (a4 c3 : Int) (y6 y7 y8 y9 y10 y11 : Option V), σ = [some (.ref b), some (.int cap), some (.ref wl), some (.ref pk), some (.ref g), some (.ref ph), y6, y7, y8, y9, y10, y11] ∧ ms.map (·.1) = ns.take i ∧ MsOk rows ms ∧ RulesBy rows cap ms rs ∧ rs.length ≤ 11 * i ∧ Bx a4 s c3 ∧ c3 ≤ c2 + 1050 * i ∧
    W K H0 [b] M H' [(g, .dK (gK cap (.ref pk) (.ref p2) (.ref p3) o)), (b, box a4 s c3)] (.rp (.ref p2) (.list (ms.map MRow.d)) :: .rp (.ref p3) (.list (rs.map GRule.d)) :: .rp (.ref pn) (.list (ns.map PyData.str)) :: .kn ph (.dK (kvZ (rows.map (·.1)) fv)) :: .al fv (phD phs) :: .kn o (.dK (kvZ (rows.map (·.1)) ov)) :: .al ov (ofD rows) :: .rp (.ref pk) (.list (rows.map SRow.d)) :: .tp wl [.bl wb, .int wn] :: [])) ?_ ?_ ?_ ?_
  · exact ⟨[], [], pm, pu, _, _, _, _, _, _, _, _, rfl, rfl, ⟨(fun _ z => nomatch z), (fun _ z => nomatch z), (fun _ z => nomatch z)⟩, .nil, by simp, bx, by omega, hw.pick [6, 5, 0, 1, 2, 3, 4, 9, 10] rfl⟩
  · rintro i σ H _ ⟨ms, rs, p2, p3, a4, c3, y6, y7, y8, y9, y10, y11, rfl, _, _, _, _, _, _, hw⟩
    exact SqL.of (Rp.strs (hw.rp 2 rfl))
  · rintro i x σ H _ hi ⟨ms, rs, p2, p3, a4, c3, y6, y7, y8, y9, y10, y11, rfl, hmn, hms, hrb, hrsl, bx, hc3, hw⟩ ⟨T, x, y, rfl, hT, rfl, e1, e2⟩
    cases e1
    replace e2 : (ns.map V.str)[i]? = some y := e2
    rw [List.getElem?_map] at e2
    obtain ⟨nm, hnm, rfl⟩ := Option.map_eq_some_iff.mp e2
    rw [List.length_map] at hi
    replace hw := hw.pure (Ex.new (o := .tup [.int i, .str nm]) hT)
    have hTT : SqT K (upd H T (.tup [.int i, .str nm])) T [.int i, .str nm] := .inl (.inl upd_same)
    refine x_gTup hTT rfl ?_
    refine x_gCons (x_gName (x_gCons (x_gName (x_gNil ?_))))
    refine x_seq (x_par ?_)
    walk_at "sxe"
    refine x_oneD hw 1 rfl (hw.rp 7 rfl) (by rw [List.length_map]; omega) (by rw [List.length_map]; omega) bx (by omega) fun v d a5 c4 H hd bx hc4 hw => ?_
    simp only [List.set_cons_zero, List.set_cons_succ] at hw
    obtain ⟨r1, hr1', rfl⟩ := List.mem_map.mp hd
    obtain ⟨t1, _, rfl, _, _⟩ := Rp.tupI (hw.rp 0 rfl)
    walk_at "sxq"
    refine x_ixDT (hw.rp 0 rfl) (by decide) (by simp) fun v d hd hv => ?_
    obtain rfl := Option.some.inj hd
    cases hv
    replace hw := hw.tl
    walk_at "sxq"
    refine x_ixAny (SqL.of (hw.at 0 rfl)) hr0 (by exact hr1) fun v hv => ?_
    obtain ⟨sz, rfl, hsz⟩ : ∃ sz : Nat, v = .int sz ∧ sz ≤ 2 := by
      simp only [List.mem_cons, List.not_mem_nil, or_false] at hv
      rcases hv with rfl | rfl | rfl | rfl
      · exact ⟨0, rfl, by decide⟩
      · exact ⟨1, rfl, by decide⟩
      · exact ⟨2, rfl, by decide⟩
      · exact ⟨2, rfl, by decide⟩
    replace hw := hw.drop1
    have hk1 : r1.1 ∈ rows.map (·.1) := List.mem_map.mpr ⟨r1, hr1', rfl⟩
    clear hv hr0 hr1
    refine x_nil (x_is2 (x_nx (x_seqVia (C := fun N => ∀ (kd : Str) (sz : Nat) (a6 c5 : Int) H', kd ∈ rows.map (·.1) → sz ≤ 2 → Bx a6 s c5 → c5 ≤ c3 + 4 → W K H0 [b] M H' [(g, .dK (gK cap (.ref pk) (.ref p2) (.ref p3) o)), (b, box a6 s c5)] (.rp (.ref p2) (.list (ms.map MRow.d)) :: .rp (.ref p3) (.list (rs.map GRule.d)) :: .rp (.ref pn) (.list (ns.map PyData.str)) :: .kn ph (.dK (kvZ (rows.map (·.1)) fv)) :: .al fv (phD phs) :: .kn o (.dK (kvZ (rows.map (·.1)) ov)) :: .al ov (ofD rows) :: .rp (.ref pk) (.list (rows.map SRow.d)) :: .tp wl [.bl wb, .int wn] :: []) →
      N [some (.ref b), some (.int cap), some (.ref wl), some (.ref pk), some (.ref g), some (.ref ph), some (.int i), some (.str nm), some (.str kd), some (.int sz), y10, y11] H') (fun N k => ?_) ?_)))
    · obtain ⟨xs', hxs', hkn⟩ := Rp.unL (hw.rp 7 rfl)
      have hxl' := hkn.length
      rw [List.length_map] at hxl'
      walk_at "sxe"
      refine x_lenL (SqL.of hxs') ?_
      walk_at "sxe"
      refine x_ifd (fun c8 => ?_) (fun c8 => ?_)
      · walk_at "sxe"
        refine x_ifd (fun c9 => ?_) (fun c9 => ?_)
        · walk_at "sxe"
          refine x_ixDL (hw.rp 7 rfl) (by omega) (by rw [List.length_map]; omega) fun v d hd hv => ?_
          obtain ⟨r2, hr2, rfl⟩ := List.mem_map.mp (List.mem_of_getElem? hd)
          obtain ⟨t2, _, rfl, _, _⟩ := Rp.tupI hv
          walk_at "sxe"
          refine x_ixDT hv (by decide) (by simp) fun v d hd hv => ?_
          obtain rfl := Option.some.inj hd
          cases hv
          walk_at "sxe"
          exact k r2.1 0 _ _ _ (List.mem_map.mpr ⟨r2, hr2, rfl⟩) (by decide) bx (by omega) hw
        · walk_at "sxe"
          exact k r1.1 sz _ _ _ hk1 hsz bx (by omega) hw
      · walk_at "sxe"
        exact k r1.1 sz _ _ _ hk1 hsz bx (by omega) hw
    intro kd sz a6 c5 H hkd hsz bx hc5 hw
    walk_at "sxe"
    refine w_lcK hw walk_range (fun D j H' => ∃ (ps : List Str) (a7 c6 : Int), ps.length = j ∧ (∀ x ∈ ps, x ∈ rows.map (·.1)) ∧ Bx a7 s c6 ∧ c6 ≤ c5 + j ∧ W K H0 [b] M H' [(D, .lst (ps.map V.str)), (g, .dK (gK cap (.ref pk) (.ref p2) (.ref p3) o)), (b, box a7 s c6)] (.rp (.ref p2) (.list (ms.map MRow.d)) :: .rp (.ref p3) (.list (rs.map GRule.d)) :: .rp (.ref pn) (.list (ns.map PyData.str)) :: .kn ph (.dK (kvZ (rows.map (·.1)) fv)) :: .al fv (phD phs) :: .kn o (.dK (kvZ (rows.map (·.1)) ov)) :: .al ov (ofD rows) :: .rp (.ref pk) (.list (rows.map SRow.d)) :: .tp wl [.bl wb, .int wn] :: [])) ?_ ?_ ?_ ?_
    · intro D H _ hw
      exact ⟨[], _, _, rfl, (fun _ z => nomatch z), bx, by omega, hw⟩
    · intros
      trivial
    · rintro D j x _ H hj ⟨ps, a7, c6, hpl, hps, bx, hc6, hw⟩ ⟨rfl, rfl⟩
      have hj2 : j < 2 := by omega
      have hzz : (ps.map V.str).length < sizeLine := sz_lt (by rw [List.length_map]; omega)
      walk_at "sxe"
      refine x_oneD hw 2 rfl (hw.rp 7 rfl) (by rw [List.length_map]; omega) (by rw [List.length_map]; omega) bx (by omega) fun v d a8 c7 H hd bx hc7 hw => ?_
      simp only [List.set_cons_zero, List.set_cons_succ] at hw
      obtain ⟨r1, hr1', rfl⟩ := List.mem_map.mp hd
      obtain ⟨t1, _, rfl, _, _⟩ := Rp.tupI (hw.rp 0 rfl)
      walk_at "sxe"
      refine x_ixDT (hw.rp 0 rfl) (by decide) (by simp) fun v d hd hv => ?_
      obtain rfl := Option.some.inj hd
      cases hv
      replace hw := hw.tl
      walk_at "sxe"
      refine ⟨ps ++ [r1.1], _, _, by simp [hpl], fun z hz => ?_, bx, by omega, by rw [List.map_append]; exact hw⟩
      rcases List.mem_append.mp hz with hz | hz
      · exact hps z hz
      · rw [List.mem_singleton.mp hz]; exact List.mem_map.mpr ⟨r1, hr1', rfl⟩
    rintro D H ⟨ps, a7, c6, hpl, hps, bx, hc6, hw⟩
    replace hw := hw.freeze1 1 rfl (DdAll.strs ps)
    rw [Int.toNat_natCast] at hpl hc6
    walk_at "sxe"
    refine w_tupleD hw (hw.rp 0 rfl) fun p1 H hp1 hw => ?_
    replace hw := hw.rm1
    walk_at "sxe"
    rename_i pro _ _ _
    refine w_catD hw (hw.rp 3 rfl) (hw.rp 0 rfl) (by have := congrArg List.length hmn; rw [List.length_map, List.length_take] at this; rw [sizeLine_eq, List.length_map]; show ms.length + 1 ≤ _; omega) fun p4 H hp4 hw => ?_
    refine x_var rfl (x_c ?_)
    refine w_setDK hw 0 rfl (k := .inr "makings") rfl (by simp) fun H hw => ?_
    simp only [List.set_cons_zero] at hw
    rw [putM] at hw
    replace hw : W K H0 [b] M H [(g, .dK (gK cap (.ref pk) (.ref p4) (.ref p3) o)), (b, box a7 s c6)] (.rp (.ref p4) (.list (ms.map MRow.d ++ [MRow.d (nm, kd, ps)])) :: .rp (.ref pro) (MRow.d (nm, kd, ps)) :: .rp (.ref p3) (.list (rs.map GRule.d)) :: .rp (.ref pn) (.list (ns.map PyData.str)) :: .kn ph (.dK (kvZ (rows.map (·.1)) fv)) :: .al fv (phD phs) :: .kn o (.dK (kvZ (rows.map (·.1)) ov)) :: .al ov (ofD rows) :: .rp (.ref pk) (.list (rows.map SRow.d)) :: .tp wl [.bl wb, .int wn] :: []) := hw.pick [0, 2, 5, 6, 7, 8, 9, 10, 11, 12] rfl
    have hgi : GIn rows (nm, kd, ps) phs := ⟨hrnd, by omega, fun r hr => (hrok r hr).nm, fun r hr => (hrok r hr).nd, fun r hr => (hrok r hr).ok, fun r hr => (hrok r hr).all, hpl2, hph, hns nm (List.mem_of_getElem? hnm), hkd, hps, by show ps.length ≤ 2; omega⟩
    refine x_nx (x_asgS (x_op (x_dget (x_var rfl (x_c (x_dgetS (hw.at 0 rfl) (getR _ _ _ _ _) (x_call (x_cons (x_var rfl (x_cons (x_var rfl (x_cons (x_var rfl (x_cons (x_var rfl (x_cons (x_var rfl (x_nil ?_))))))))))))))))))
    refine x_rules hw 1 0 rfl rfl (by decide) hgi hw1 hw2 bx (by omega) (mem_pick [6, 7, 4, 5, 1, 9] rfl) fun q2 us a8 c7 H hus bx hc7 hw => ?_
    simp only [List.set_cons_zero, List.set_cons_succ] at hw
    have husl : us.length ≤ 11 := by
      obtain ⟨es, h1, h2, h3, h4, h5, h6⟩ := hus.ok
      have := h6.length_le
      rw [List.length_map] at this
      omega
    refine w_catD hw (hw.rp 3 rfl) (hw.rp 0 rfl) (by rw [sizeLine_eq, List.length_map, List.length_map]; omega) fun p5 H hp5 hw => ?_
    refine x_var rfl (x_c ?_)
    refine w_setDK hw 0 rfl (k := .inr "rules") rfl (by simp) fun H hw => ?_
    simp only [List.set_cons_zero] at hw
    rw [putR, ← List.map_append] at hw
    refine x_nx ?_
    refine ⟨ms ++ [(nm, kd, ps)], rs ++ us, p4, p5, a8, c7, _, _, _, _, _, _, rfl, ?_, ⟨fun z hz => ?_, fun z hz => ?_, fun z hz => ?_⟩, .snoc hrb hus, by rw [List.length_append]; omega, bx, by omega, ?_⟩
    · rw [List.map_append, hmn, List.take_add_one, hnm]; rfl
    · rcases List.mem_append.mp hz with hz | hz
      · exact hms.kind z hz
      · rw [List.mem_singleton.mp hz]; exact hkd
    · rcases List.mem_append.mp hz with hz | hz
      · exact hms.parts z hz
      · rw [List.mem_singleton.mp hz]; exact hps
    · rcases List.mem_append.mp hz with hz | hz
      · exact hms.plen z hz
      · rw [List.mem_singleton.mp hz]; show ps.length ≤ 2; omega
    · rw [List.map_append]
      exact hw.pick [2, 0, 5, 6, 7, 8, 9, 10, 11] rfl
  · rintro σ H ⟨ms, rs, p2, p3, a4, c3, y6, y7, y8, y9, y10, y11, rfl, hmn, hms, hrb, hrsl, bx, hc3, hw⟩
    rw [List.length_map] at hmn hrsl hc3
    rw [List.take_length] at hmn
    have hml : ms.length = ns.length := by rw [← hmn, List.length_map]
    obtain ⟨zs, hzs, hw⟩ := hw.open (hw.rp 0 rfl)
    have hzl : zs.length = ms.length := by rw [hzs.length, List.length_map]
    replace hw := hw.addA hzs
    clear hzs
    refine x_nx (x_seq (x_asgS (x_cb (x_cons (x_lc (x_iU (x_dget (x_var rfl (x_c (x_dgetS (hw.at 0 rfl) (getM _ _ _ _ _) (x_itL (SqL.of (hw.kn 1 rfl)) ?_)))))))))))
    refine w_lcK hw (walk_list (xs := zs)) (fun D i H' => ∃ us : List V, us.length = i ∧ W K H0 [b] M H' [(D, .lst us), (g, .dK (gK cap (.ref pk) (.ref p2) (.ref p3) o)), (b, box a4 s c3)] (.al us ((ms.take i).map fun m => PyData.tuple [.str m.1, .tuple [.str m.2.1, strsD m.2.2]]) :: .al zs (ms.map MRow.d) :: .kn p2 (.lst zs) :: .rp (.ref p2) (.list (ms.map MRow.d)) :: .rp (.ref p3) (.list (rs.map GRule.d)) :: .kn o (.dK (kvZ (rows.map (·.1)) ov)) :: .al ov (ofD rows) :: .rp (.ref pk) (.list (rows.map SRow.d)) :: [])) ?_ ?_ ?_ ?_
    · intro D H _ hw
      exact ⟨[], rfl, hw.alNil.pick [0, 1, 2, 3, 4, 8, 9, 10] rfl⟩
    · rintro D i H _ ⟨us, _, hw⟩
      exact SqL.of (hw.kn 2 rfl)
    · rintro D i x _ H hi ⟨us, hul, hw⟩ ⟨rfl, hx⟩
      obtain ⟨d, hd, hrp⟩ := RpAll.item (hw.all 1 rfl) hx
      rw [List.getElem?_map] at hd
      obtain ⟨r, hr, rfl⟩ := Option.map_eq_some_iff.mp hd
      obtain ⟨t, _, rfl, _, _⟩ := Rp.tupI hrp
      have hzz : us.length < sizeLine := sz_lt (by omega)
      replace hw := hw.add hrp
      walk_at "sxe"
      refine x_ixDT (hw.rp 0 rfl) (by decide) (by simp) fun v d hd hv => ?_
      obtain rfl := Option.some.inj hd
      cases hv
      walk_at "sxe"
      refine w_slTD hw (hw.rp 0 rfl) fun p1 H hw => ?_
      rw [show (1 : Int) = ((1 : Nat) : Int) from rfl, cutD_from] at hw
      walk_at "sxe"
      refine ⟨us ++ [.ref p], by simp [hul], ?_⟩
      rw [List.take_add_one, hr, List.map_append]
      exact (hw.alSnoc (hw.all 3 rfl) (hw.rp 0 rfl)).rm2.rm2
    rintro D H ⟨us, hul, hw⟩
    rw [List.take_of_length_le (by omega)] at hw
    replace hw := (hw.freeze1 1 rfl (hw.all 0 rfl)).rm1
    refine x_nil ?_
    refine w_dictT (rows := ms.map fun m => (m.1, PyData.tuple [.str m.2.1, strsD m.2.2])) hw (by rw [List.map_map]; exact hw.rp 0 rfl) (by rw [List.map_map]; show (ms.map (·.1)).Nodup; rw [hmn]; exact hnd) fun o2 bv H ho2 hbvl hw => ?_
    rw [List.map_map, List.map_map] at hw
    replace hw : W K H0 [b] M H [(o2, .dK (kvZ (ms.map (·.1)) bv)), (g, .dK (gK cap (.ref pk) (.ref p2) (.ref p3) o)), (b, box a4 s c3)] (.al bv (byD ms) :: .rp (.ref D) _ :: _) := hw
    replace hw := hw.rm1.rm2
    refine x_var rfl (x_c ?_)
    refine w_setDK hw 1 rfl (k := .inr "by") rfl (by simp) fun H hw => ?_
    simp only [List.set_cons_zero, List.set_cons_succ] at hw
    rw [putB] at hw
    replace hw := hw.keep1 1 rfl
    obtain ⟨ws, hws, hw⟩ := hw.open (hw.rp 3 rfl)
    have hwl2 : ws.length = rs.length := by rw [hws.length, List.length_map]
    replace hw := hw.addA hws
    clear hws
    refine x_nx (x_seq (x_asgS (x_cb (x_cons (x_lc (x_iU (x_dget (x_var rfl (x_c (x_dgetS (hw.at 0 rfl) (getR6 _ _ _ _ _ _) (x_itL (SqL.of (hw.kn 1 rfl)) ?_)))))))))))
    refine w_lcK hw (walk_list (xs := ws)) (fun D i H' => ∃ us : List V, us.length = i ∧ W K H0 [b] M H' [(D, .lst us), (g, .dK (gK6 cap (.ref pk) (.ref p2) (.ref p3) o o2)), (b, box a4 s c3)] (.al us ((rs.take i).map fun r => PyData.tuple [.tuple [.str r.by', r.to.d], .tuple [.str r.op, .tuple (r.of.map Opd.d)]]) :: .al ws (rs.map GRule.d) :: .kn p3 (.lst ws) :: .kn o2 (.dK (kvZ (ms.map (·.1)) bv)) :: .al bv (byD ms) :: .rp (.ref p2) (.list (ms.map MRow.d)) :: .rp (.ref p3) (.list (rs.map GRule.d)) :: .kn o (.dK (kvZ (rows.map (·.1)) ov)) :: .al ov (ofD rows) :: .rp (.ref pk) (.list (rows.map SRow.d)) :: [])) ?_ ?_ ?_ ?_
    · intro D H _ hw
      exact ⟨[], rfl, hw.alNil⟩
    · rintro D i H _ ⟨us, _, hw⟩
      exact SqL.of (hw.kn 2 rfl)
    · rintro D i x _ H hi ⟨us, hul, hw⟩ ⟨rfl, hx⟩
      obtain ⟨d, hd, hrp⟩ := RpAll.item (hw.all 1 rfl) hx
      rw [List.getElem?_map] at hd
      obtain ⟨r, hr, rfl⟩ := Option.map_eq_some_iff.mp hd
      obtain ⟨t, _, rfl, _, _⟩ := Rp.tupI hrp
      have hzz : us.length < sizeLine := sz_lt (by omega)
      replace hw := hw.add hrp
      walk_at "sxe"
      refine w_slTD hw (hw.rp 0 rfl) fun p0 H hw => ?_
      rw [show (2 : Int) = ((2 : Nat) : Int) from rfl, cutD_to] at hw
      walk_at "sxe"
      refine w_slTD hw (hw.rp 1 rfl) fun p1 H hw => ?_
      rw [show (2 : Int) = ((2 : Nat) : Int) from rfl, cutD_from] at hw
      walk_at "sxe"
      refine ⟨us ++ [.ref p], by simp [hul], ?_⟩
      rw [List.take_add_one, hr, List.map_append]
      exact (hw.alSnoc (hw.all 4 rfl) (hw.rp 0 rfl)).rm2.rm2.rm1
    rintro D H ⟨us, hul, hw⟩
    rw [List.take_of_length_le (by omega)] at hw
    replace hw := (hw.freeze1 1 rfl (hw.all 0 rfl)).rm1
    refine x_nil ?_
    refine w_dictN (rows := rs.map fun r => (ruleKey r, PyData.tuple [.str r.op, .tuple (r.of.map Opd.d)])) hw (by rw [List.map_map, show ((fun r => PyData.tuple [(NestedKey.tup r.1).data, r.2]) ∘ fun (r : GRule) => (ruleKey r, PyData.tuple [.str r.op, .tuple (r.of.map Opd.d)])) = fun (r : GRule) => PyData.tuple [.tuple [.str r.by', r.to.d], .tuple [.str r.op, .tuple (r.of.map Opd.d)]] from funext fun r => by show PyData.tuple [(NestedKey.tup (ruleKey r)).data, _] = _; rw [key_data]]; exact hw.rp 0 rfl) (fun z hz => by
      obtain ⟨r, _, rfl⟩ := List.mem_map.mp hz
      exact key_depth r) fun o3 he H ho3 hhe hw => ?_
    rw [List.map_map] at hhe
    rw [List.map_map] at hw
    refine x_var rfl (x_c ?_)
    refine w_setDK hw 1 rfl (k := .inr "has") rfl (by simp) fun H hw => ?_
    simp only [List.set_cons_zero, List.set_cons_succ] at hw
    rw [putH] at hw
    replace hw := (hw.keep1 1 rfl).keep1 0 rfl
    walk_at "sxe"
    refine q g ⟨cap, rows, ms, rs⟩ ⟨pk, p2, p3, o, o2, o3, ov, bv, he⟩ _ _ _ ⟨hrnd, by show 1 ≤ rows.length; omega, by show rows.length ≤ 4; omega, fun r hr => (hrok r hr).nm, fun r hr => (hrok r hr).nd, fun r hr => (hrok r hr).ok, fun r hr => (hrok r hr).dn, fun r hr => (hrok r hr).up, fun r hr => (hrok r hr).all, by show (ms.map (·.1)).Nodup; rw [hmn]; exact hnd, by show ms.length ≤ 8; omega, by show 1 ≤ ms.length; omega, fun z hz => hns _ (by rw [← hmn]; exact List.mem_map.mpr ⟨z, hz, rfl⟩), hms.kind, hms.parts, hms.plen, hrb, hcap⟩ rfl hhe bx (by omega) hw.ex (hw.at 0 rfl) (fun r hr => Fa.ext (del_sub fun x hx => List.mem_append_right _ hx) (hw.rep r (mem_pick [0, 13, 9, 10, 11, 12, 7, 8, 1, 2, 3] rfl r hr)))
end
end Law
namespace Law
open PySem PySem.Spec PyProof.Rows L2 Fw
theorem szV (m : Sz) (x : Str) : valV (szK m) (.inr x) = (m.lookup x).map fun (n : Nat) => V.int (n : Int) := by
  rw [szK_val]
  cases m.lookup x <;> rfl
theorem sum_cast (m : Sz) (ps : List Str) : (ps.map fun p => (((m.lookup p).getD 0 : Nat) : Int)).sum = (szSum m ps : Int) := by
  unfold szSum
  induction ps with
  | nil => rfl
  | cons p ps ih => rw [List.map_cons, List.map_cons, List.sum_cons, List.sum_cons, ih]; omega
theorem getD_cast (o : Option Nat) (n : Nat) : (o.map fun (n : Nat) => V.int (n : Int)).getD (.int (n : Int)) = .int ((o.getD n : Nat) : Int) := by
  cases o <;> rfl
theorem szStep_len (m : Sz) (r : MRow) : (szStep m r).length ≤ m.length + 1 := by
  unfold szStep szPut
  split
  · split <;> simp
  · omega
section
variable {P : Program} {w : World} {K : PySem.W.Frag} {mg : Str → Option Value} {base : Heap} {f : Addr} {fd : FuncData} {k : Nat} {kws : List (Str × V)}
theorem ok_sizes (F : FunD K "_law_sizes" "_law_sizes" (defArgs s_law_sizes) (defBody s_law_sizes) (defScope s_law_sizes) [] kws f fd) (B : BltD mg) : FnG P w K mg base CX0 1 f fd ["_law_g"] (spSizes K) := by
  refine okG F sc_law_sizes (fun vs H Q E h => ?_) (fun cdv A outer s H0 vs Q E hG hr h => ?_)
  · obtain ⟨M, g, p2, kvs, ms, rfl, _⟩ := h
    rfl
  obtain ⟨M, g, p2, kvs, ms, rfl, hM, hg, hk, hp2, hml, hmp, q⟩ := h
  have hw : W K H0 [] M H0 [] [.kn g (.dK kvs), .rp (.ref p2) (.list (ms.map MRow.d))] := W.start0 hM (fun r z => by
    rcases List.mem_cons.mp z with rfl | z
    · exact hg
    · rw [List.mem_singleton.mp z]; exact hp2)
  refine ⟨_, [some (.ref g), none, none, none, none, none, none], (pss_cons (ps_set (i := 1) sc_law_sizes.nd rfl (Or.inr rfl) pe_dnewK)
  (pss_cons (ps_for PassesOwn.never rfl (pi_U (K := K) (pe_op (op_mulU (K := K)) (pe_dget (hu_of hr) (pv 0) pe_str (fun _ _ => rfl)) pe_int)) (pg_T (K := K) (n := 3) rfl (pgs_cons (pg_name (i := 2) sc_law_sizes.nd rfl (Or.inl rfl)) (pgs_cons (pg_name (i := 3) sc_law_sizes.nd rfl (Or.inl rfl)) (pgs_cons (pg_name (i := 4) sc_law_sizes.nd rfl (Or.inl rfl)) pgs_nil)))) (pss_one (ps_if (pt_val (pe_callB (call_allU (K := K) rfl) (by rfl) B.all (by decide +kernel) (pa_cons (pe_lc (own := [("_law_part", 6)]) rfl sc_law_sizes.nd (pi_U (K := K) (pv 4)) (blkOk_by (own := [("_law_part", 6)]) (N := ["_law_g", "_law_sizes_here", "_law_making", "_law_kind", "_law_parts", "_law_size", "_law_part"]) (sc := defScope s_law_sizes) (by decide +kernel)) (fun _ _ _ _ _ => (pg_name (i := 6) sc_law_sizes.nd rfl (Or.inl rfl))) (fun _ _ _ _ _ => pts_nil) (fun _ _ _ _ _ => (pe_cmpR (op_inDD hr) (pv 6) (pv 1) (by rfl)))) pa_nil))) (pss_cons (ps_set (i := 5) sc_law_sizes.nd rfl (Or.inl rfl) (pe_op (op_addU (K := K)) pe_int (pe_callB (call_sumU (K := K) rfl) (by rfl) B.sum (by decide +kernel) (pa_cons (pe_lc (own := [("_law_part", 6)]) rfl sc_law_sizes.nd (pi_U (K := K) (pv 4)) (blkOk_by (own := [("_law_part", 6)]) (N := ["_law_g", "_law_sizes_here", "_law_making", "_law_kind", "_law_parts", "_law_size", "_law_part"]) (sc := defScope s_law_sizes) (by decide +kernel)) (fun _ _ _ _ _ => (pg_name (i := 6) sc_law_sizes.nd rfl (Or.inl rfl))) (fun _ _ _ _ _ => pts_nil) (fun _ _ _ _ _ => (pe_dget (hu_of hr) (pv 1) (pv 6) (fun _ _ => rfl)))) pa_nil))))
  (pss_one (ps_asg (pe_callB (call_minU (K := K) rfl) (by rfl) B.min (by decide +kernel) (pa_cons (pv 5) (pa_cons (pe_dget2 (hu_of hr) (pv 1) (pv 3) (pv 5) ⟨rfl, rfl, rfl, rfl⟩) pa_nil))) (pg_sub (pv 1) (pv 3) (set_dict (hu_of hr)))))) pss_nil)))
  (pss_one (ps_ret (pv 1))))), rfl, ?_⟩
  walk_at "sxe"
  refine w_dnew hw fun z H hz hw => ?_
  refine x_nx (x_seq (x_forK (x_iU (x_op (x_dget (x_var rfl (x_c (x_dgetS (hw.kn 0 rfl) hk (x_c ?_)))))))))
  refine w_repD 4 hw (hw.rp 1 rfl) (by decide) (by rw [List.length_map]; omega) fun pq H hpq hw => ?_
  obtain ⟨M4, hM4⟩ : ∃ M4, (List.replicate 4 ms).flatten = M4 := ⟨_, rfl⟩
  rw [show (List.replicate 4 (ms.map MRow.d)).flatten = M4.map MRow.d by rw [← hM4, List.map_flatten, List.map_replicate]] at hw
  have hM4l : M4.length ≤ 32 := by rw [← hM4]; simp; omega
  have hM4p : ∀ m ∈ M4, m.2.2.length ≤ 2 := fun m hm => by
    rw [← hM4] at hm
    obtain ⟨l, hl, hm⟩ := List.mem_flatten.mp hm
    rw [(List.mem_replicate.mp hl).2] at hm
    exact hmp m hm
  obtain ⟨xs, hxs, hw⟩ := hw.open (hw.rp 0 rfl)
  have hxl : xs.length = M4.length := by rw [hxs.length, List.length_map]
  replace hw := hw.addA hxs
  refine x_itL (SqL.of (hw.kn 1 rfl)) ?_
  refine w_for (walk_list (xs := xs)) (fun i σ H' => ∃ (m : Sz) (y2 y3 y4 y5 y6 : Option V), σ = [some (.ref g), some (.ref z), y2, y3, y4, y5, y6] ∧ m = szRun (M4.take i) [] ∧ m.length ≤ i ∧ W K H0 [] M H' [(z, .dK (szK m))] [.al xs (M4.map MRow.d), .kn pq (.lst xs)]) ?_ ?_ ?_ ?_
  · exact ⟨[], _, _, _, _, _, rfl, rfl, Nat.le_refl _, hw.pick [0, 1] rfl⟩
  · rintro i σ H _ ⟨m, y2, y3, y4, y5, y6, rfl, _, _, hw⟩
    exact SqL.of (hw.kn 1 rfl)
  · rintro i x σ _ H hi ⟨m, y2, y3, y4, y5, y6, rfl, hm, hml2, hw⟩ ⟨rfl, hx⟩
    obtain ⟨d, hd, hrp⟩ := RpAll.item (hw.all 0 rfl) hx
    rw [List.getElem?_map] at hd
    obtain ⟨r, hr, rfl⟩ := Option.map_eq_some_iff.mp hd
    have hr2 := hM4p r (List.mem_of_getElem? hr)
    have hm' : szStep m r = szRun (M4.take (i + 1)) [] := by
      rw [hm, List.take_add_one, hr]
      unfold szRun
      rw [List.foldl_append]
      rfl
    obtain ⟨t, ys, rfl, hts, hys⟩ := Rp.tupI hrp
    obtain ⟨v1, ys, rfl, h1, hys⟩ := RpAll.cons_inv hys
    obtain ⟨v2, ys, rfl, h2, hys⟩ := RpAll.cons_inv hys
    obtain ⟨v3, ys, rfl, h3, hys⟩ := RpAll.cons_inv hys
    cases RpAll.nil_inv hys
    cases h1
    cases h2
    obtain ⟨pt, zs, rfl, hzs, hzd⟩ := Rp.tupI h3
    obtain rfl := DdAll.strs_inv hzd
    obtain ⟨zs', hzd', hw⟩ := hw.openT h3
    obtain rfl := DdAll.strs_inv hzd'
    refine x_gTup hts rfl (x_gCons (x_gName (x_gCons (x_gName (x_gCons (x_gName (x_gNil ?_)))))))
    refine x_ifS (x_B (x_cb (x_cons (x_lc (x_iU (x_var rfl (x_itT (hw.tp 0 rfl) ?_)))))))
    refine w_lcK hw (walk_tup (xs := r.2.2.map V.str)) (fun D j H' => W K H0 [] M H' [(D, .lst ((r.2.2.take j).map fun p => V.bl (m.lookup p).isSome)), (z, .dK (szK m))] [.tp pt (r.2.2.map V.str), .al xs (M4.map MRow.d), .kn pq (.lst xs)]) ?_ ?_ ?_ ?_
    · intro D H _ hw
      exact hw
    · rintro D j H _ hw
      exact hw.tp 0 rfl
    · rintro D j x _ H hj hw ⟨rfl, hx⟩
      rw [List.length_map] at hj
      rw [List.getElem?_map] at hx
      obtain ⟨pn, hpn, rfl⟩ := Option.map_eq_some_iff.mp hx
      have hzz : ((r.2.2.take j).map fun p => V.bl (m.lookup p).isSome).length < sizeLine := sz_lt (by rw [List.length_map, List.length_take]; omega)
      walk_at "sxe"
      refine x_inDS (hw.at 1 rfl) ?_
      rw [szV, Option.isSome_map]
      walk_at "sxe"
      rw [List.take_add_one, hpn, List.map_append]
      exact hw
    intro D H hw
    rw [List.length_map, List.take_length] at hw
    refine x_nil ?_
    refine x_all (bs := r.2.2.map fun p => (m.lookup p).isSome) (by rw [List.map_map]; exact SqL.of (hw.at 0 rfl)) ?_
    rw [show (r.2.2.map fun p => (m.lookup p).isSome).all id = szAll m r.2.2 by rw [List.all_map]; rfl]
    replace hw := hw.drop1
    walk_at "sxe"
    refine x_ifb (fun c1 => ?_) (fun c1 => ?_)
    · have hin : ∀ p ∈ r.2.2, ∃ n, m.lookup p = some n := fun p hp => Option.isSome_iff_exists.mp (List.all_eq_true.mp c1 p hp)
      refine x_seq (x_set (x_op (x_c (x_cb (x_cons (x_lc (x_iU (x_var rfl (x_itT (hw.tp 0 rfl) ?_)))))))))
      refine w_lcK hw (walk_tup (xs := r.2.2.map V.str)) (fun D j H' => W K H0 [] M H' [(D, .lst ((r.2.2.take j).map fun p => V.int ((m.lookup p).getD 0))), (z, .dK (szK m))] [.tp pt (r.2.2.map V.str), .al xs (M4.map MRow.d), .kn pq (.lst xs)]) ?_ ?_ ?_ ?_
      · intro D H _ hw
        exact hw
      · rintro D j H _ hw
        exact hw.tp 0 rfl
      · rintro D j x _ H hj hw ⟨rfl, hx⟩
        rw [List.length_map] at hj
        rw [List.getElem?_map] at hx
        obtain ⟨pn, hpn, rfl⟩ := Option.map_eq_some_iff.mp hx
        obtain ⟨n, hn⟩ := hin pn (List.mem_of_getElem? hpn)
        have hzz : ((r.2.2.take j).map fun p => V.int ((m.lookup p).getD 0)).length < sizeLine := sz_lt (by rw [List.length_map, List.length_take]; omega)
        walk_at "sxe"
        refine x_dgetS (hw.at 1 rfl) (v := .int n) (by rw [szV, hn]; rfl) ?_
        walk_at "sxe"
        rw [List.take_add_one, hpn, List.map_append, show (Option.toList (some pn)).map (fun p => V.int ((m.lookup p).getD 0)) = [V.int n] by simp [hn]]
        exact hw
      intro D H hw
      rw [List.length_map, List.take_length] at hw
      refine x_nil ?_
      refine x_sum (ns := r.2.2.map fun p => (((m.lookup p).getD 0 : Nat) : Int)) (by rw [List.map_map]; exact SqL.of (hw.at 0 rfl)) ?_
      rw [sum_cast]
      replace hw := hw.drop1
      refine x_addI ?_
      rw [show (1 : Int) + (szSum m r.2.2 : Int) = ((1 + szSum m r.2.2 : Nat) : Int) by omega]
      refine x_nx (x_asgS (x_cb (x_cons (x_var rfl (x_cons (x_dget2 (x_var rfl (x_dget2a (hw.at 0 rfl) (x_var rfl (x_var rfl (x_dget2b (hw.at 0 rfl) ?_)))))))))))
      rw [szV, getD_cast]
      refine x_nil (x_minM ?_)
      rw [show min (((1 + szSum m r.2.2 : Nat) : Int)) ((((m.lookup r.2.1).getD (1 + szSum m r.2.2) : Nat)) : Int) = ((min (1 + szSum m r.2.2) ((m.lookup r.2.1).getD (1 + szSum m r.2.2)) : Nat) : Int) by omega]
      refine x_var rfl (x_var rfl ?_)
      refine w_setDK hw 0 rfl (k := .inr r.2.1) rfl (by rw [szK_len]; omega) fun H hw => ?_
      simp only [List.set_cons_zero] at hw
      rw [szK_put] at hw
      have hs : szPut m r.2.1 (min (1 + szSum m r.2.2) ((m.lookup r.2.1).getD (1 + szSum m r.2.2))) = szStep m r := by unfold szStep; rw [if_pos c1]
      rw [hs] at hw
      walk_at "sxe"
      exact ⟨_, _, _, _, _, _, rfl, hm', by have := szStep_len m r; omega, hw.tl⟩
    · walk_at "sxe"
      exact ⟨m, _, _, _, _, _, rfl, by rw [← hm']; unfold szStep; rw [if_neg (by rw [c1]; decide)], by omega, hw.tl⟩
  · rintro σ H ⟨m, y2, y3, y4, y5, y6, rfl, hm, hml2, hw⟩
    rw [hxl, List.take_length, ← hM4] at hm
    walk_at "sxe"
    refine q z H hw.ex (hw.fresh0 0 rfl) ?_
    have := hw.at 0 rfl
    rw [hm] at this
    exact this
end
end Law
namespace Law
open PySem PySem.Spec PyProof.Rows L2 Fw
def szOf (m : Sz) (r : MRow) : Nat := 1 + szSum m r.2.2
def csD (m : Sz) (ro : Int) (r : MRow) : PyData := .tuple [MRow.d r, .int (max ro (szOf m r) - szOf m r)]
/-- how many sorts have lesser trees -/
def rkOf (m : Sz) (n : Nat) : Nat := m.countP fun p => decide (p.2 < n)
theorem lk_in {m : Sz} {k : Str} {n : Nat} (h : m.lookup k = some n) : (k, n) ∈ m := by
  induction m with
  | nil => simp at h
  | cons p m ih =>
    rw [lk_cons] at h
    split at h
    · rename_i e
      have := Option.some.inj h
      subst this
      subst e
      exact List.mem_cons_self ..
    · exact List.mem_cons_of_mem _ (ih h)
theorem rk_lt {m : Sz} {k : Str} {n n' : Nat} (h : m.lookup k = some n') (hn : n' < n) : rkOf m n' < rkOf m n := by
  refine countP_lt (fun x hx => ?_) ⟨(k, n'), lk_in h, decide_eq_true hn, decide_eq_false (Nat.lt_irrefl _)⟩
  have := of_decide_eq_true hx
  exact decide_eq_true (by omega)
theorem rk_max {m : Sz} {k : Str} {n : Nat} (h : m.lookup k = some n) (hl : m.length ≤ 4) : rkOf m n ≤ 3 := by
  have := countP_lt (p := fun p : Str × Nat => decide (p.2 < n)) (q := fun _ => true) (l := m) (fun _ _ => rfl) ⟨(k, n), lk_in h, rfl, decide_eq_false (Nat.lt_irrefl _)⟩
  rw [List.countP_true] at this
  unfold rkOf
  omega
theorem sum_mem {m : Sz} {p : Str} {n : Nat} (h : m.lookup p = some n) : ∀ {ps : List Str}, p ∈ ps → n ≤ szSum m ps
  | [], z => nomatch z
  | q :: ps, z => by
    have e : szSum m (q :: ps) = (m.lookup q).getD 0 + szSum m ps := by unfold szSum; rw [List.map_cons, List.sum_cons]
    rw [e]
    rcases List.mem_cons.mp z with rfl | z
    · rw [h]; show n ≤ n + _; omega
    · have := sum_mem h z; omega
theorem sum_take {m : Sz} {ps : List Str} {j : Nat} {p : Str} {n : Nat} (hp : ps[j]? = some p) (h : m.lookup p = some n) : szSum m (ps.take (j + 1)) = szSum m (ps.take j) + n := by
  unfold szSum
  rw [List.take_add_one, hp, List.map_append, List.sum_append]
  simp [h]
theorem sum_le_take {m : Sz} : ∀ {ps : List Str} {j : Nat} {p : Str} {n : Nat}, ps[j]? = some p → m.lookup p = some n → szSum m (ps.take j) + n ≤ szSum m ps := by
  intro ps j p n hp h
  rw [← sum_take hp h]
  have key : ∀ (l : List Str) (i : Nat), szSum m (l.take i) ≤ szSum m l := fun l i => by
    have e : szSum m l = szSum m (l.take i) + szSum m (l.drop i) := by
      unfold szSum
      rw [← List.sum_append, ← List.map_append, List.take_append_drop]
    omega
  exact key ps (j + 1)
def grX (d : Int) (rk i : Nat) : Prop := (1 ≤ d → d + 4 ≤ i) ∧ (d ≤ 0 → rk + 1 ≤ i)
def spGro (K : PySem.W.Frag) (i : Nat) : Sp := fun vs H Q _ => ∃ (M : List Addr) (b g z p2 : Addr) (kvs : List (Key × V)) (ms : List MRow) (m : Sz) (k : Str) (n : Nat) (ro d a s c : Int), vs = [.ref b, .ref g, .ref z, .str k, .int ro, .int d] ∧ Al M H ∧ b ∈ M ∧ Fw.del H M g = some (.dK kvs) ∧ mkK kvs p2 ∧ Rp K M H (.ref p2) (.list (ms.map MRow.d)) ∧ Fw.del H M z = some (.dK (szK m)) ∧
  SzOk ms m ∧ m.length ≤ 4 ∧ ms.length ≤ 8 ∧ (∀ r ∈ ms, NameOk r.1 ∧ r.2.2.length ≤ 2) ∧ m.lookup k = some n ∧ grX d (rkOf m n) i ∧ 0 ≤ ro ∧ ro ≤ 100 ∧ H b = some (box a s c) ∧ Bx a s c ∧ c + 20 * max ro n < 2 ^ 40 ∧
  ∀ v t a' c' H', TrOk t → (t.size : Int) ≤ max ro n → (t.high : Int) ≤ (if 1 ≤ d then d + 4 else rkOf m n + 1) → Bx a' s c' → c' ≤ c + 20 * max ro n → Ex [b] H H' → H' b = some (box a' s c') → Rp K M H' v t.data → Q v H'
theorem x_gro {K : PySem.W.Frag} {H0 H : Hp} {Ms M0 : List Addr} {L : List (Addr × HO)} {R : List Fa} {b g z p2 : Addr} {a s c : Int} {Q : VK} {E : XK} {i : Nat} {kvs : List (Key × V)} {ms : List MRow} {m : Sz} {k : Str} {n : Nat} {ro d : Int} (hw : W K H0 Ms M0 H L R) (j j1 j2 j3 : Nat) (hL : L[j]? = some (b, box a s c)) (h1 : R[j1]? = some (.kn g (.dK kvs))) (hk : mkK kvs p2) (h2 : R[j2]? = some (.rp (.ref p2) (.list (ms.map MRow.d)))) (h3 : R[j3]? = some (.kn z (.dK (szK m))))
    (hs : SzOk ms m) (hm4 : m.length ≤ 4) (hml : ms.length ≤ 8) (hms : ∀ r ∈ ms, NameOk r.1 ∧ r.2.2.length ≤ 2) (hkn : m.lookup k = some n) (hx : grX d (rkOf m n) i) (r0 : 0 ≤ ro) (r1 : ro ≤ 100) (bx : Bx a s c) (hc : c + 20 * max ro n < 2 ^ 40)
    (q : ∀ v t a' c' H', TrOk t → (t.size : Int) ≤ max ro n → (t.high : Int) ≤ (if 1 ≤ d then d + 4 else rkOf m n + 1) → Bx a' s c' → c' ≤ c + 20 * max ro n → W K H0 Ms M0 H' (L.set j (b, box a' s c')) (.rp v t.data :: R) → Q v H') : spGro K i [.ref b, .ref g, .ref z, .str k, .int ro, .int d] H Q E :=
  ⟨av L M0, b, g, z, p2, kvs, ms, m, k, n, ro, d, a, s, c, rfl, hw.alloc', List.mem_append_left _ (List.mem_map.mpr ⟨_, List.mem_of_getElem? hL, rfl⟩), hw.knA j1 h1, hk, hw.rp j2 h2, hw.knA j3 h3, hs, hm4, hml, hms, hkn, hx, r0, r1, hw.at j hL, bx, hc, fun v t a' c' H' k1 k2 k3 k4 k5 k6 k7 k8 => q v t a' c' H' k1 k2 k3 k4 k5 (hw.callD j hL k6 k7 k8)⟩
def prevG (K : PySem.W.Frag) : Nat → Sp
  | 0 => fun _ _ _ _ => False
  | i + 1 => spGro K i
section
variable {P : Program} {w : World} {K : PySem.W.Frag} {mg : Str → Option Value} {base : Heap} {f : Addr} {fd : FuncData} {k : Nat} {kws : List (Str × V)}
theorem grown_step (F : FunD K "_law_grown" "_law_grown" (defArgs s_law_grown) (defBody s_law_grown) (defScope s_law_grown) [] kws f fd) (B : BltD mg) (G_law_take : Fq P w K mg base CX0 1 "_law_take" ["_law_box", "_law_many"] spTake) (G_law_one_of : Fq P w K mg base CX0 2 "_law_one_of" ["_law_box", "_law_some"] (spOneOf K))
    (G_law_number : Fq P w K mg base CX0 2 "_law_number" ["_law_box"] spNumber) (i : Nat) (G_law_grown : Fq P w K mg base CX0 (i + 2) "_law_grown" ["_law_box", "_law_g", "_law_sizes_here", "_law_kind", "_law_room", "_law_deep"] (prevG K i)) : FnG P w K mg base CX0 (i + 3) f fd ["_law_box", "_law_g", "_law_sizes_here", "_law_kind", "_law_room", "_law_deep"] (spGro K i) := by
  refine okG F sc_law_grown (fun vs H Q E h => ?_) (fun cdv A outer s H0 vs Q E hG hr h => ?_)
  · obtain ⟨M, b, g, z, p2, kvs, ms, m, kd, n, ro, d, a, s, c, rfl, _⟩ := h
    rfl
  obtain ⟨M, b, g, z, p2, kvs, ms, m, kd, n, ro, d, a, s, c, rfl, hM, hbM, hg, hmk, hp2, hz, hsz, hm4, hml, hms, hkn, hix, hro0, hro1, hb, bx, hc, q⟩ := h
  have hw : W K H0 [b] M H0 [(b, box a s c)] [.kn g (.dK kvs), .rp (.ref p2) (.list (ms.map MRow.d)), .kn z (.dK (szK m))] := W.start1 hb hM (fun r hr => by
    rcases List.mem_cons.mp hr with rfl | hr
    · exact fa_in (r := .kn _ _) hg hbM
    · rcases List.mem_cons.mp hr with rfl | hr
      · exact fa_in (r := .rp _ _) hp2 hbM
      · rw [List.mem_singleton.mp hr]; exact fa_in (r := .kn _ _) hz hbM)
  obtain ⟨xs, hxs, hw⟩ := hw.open (hw.rp 1 rfl)
  have hxl : xs.length = ms.length := by rw [hxs.length, List.length_map]
  replace hw := hw.addA hxs
  refine ⟨_, [some (.ref b), some (.ref g), some (.ref z), some (.str kd), some (.int ro), some (.int d), none, none, none, none, none, none, none, none], (pss_cons (ps_par (i := 6) (j := 7) rfl sc_law_grown.nd rfl rfl (by decide) rfl rfl (pa_cons (pe_lst pa_nil) (pa_cons (pe_lst pa_nil) pa_nil)) (by rfl))
  (pss_cons (ps_for PassesOwn.never rfl (pi_U (K := K) (pe_dget (hu_of hr) (pv 1) pe_str (fun _ _ => rfl))) (pg_name (i := 8) sc_law_grown.nd rfl (Or.inl rfl)) (pss_one (ps_if (PW.pt (pw_and (pt_cmpR (op_eqU (K := K) hr) (pe_ix (ix_U (K := K)) (pv 8) pe_int (fun _ _ => rfl)) (pv 3) (nomark _)) (pw_and1 (pt_val (pe_callB (call_allU (K := K) rfl) (by rfl) B.all (by decide +kernel) (pa_cons (pe_lc (own := [("_law_part", 12)]) rfl sc_law_grown.nd (pi_U (K := K) (pe_ix (ix_U (K := K)) (pv 8) pe_int (fun _ _ => rfl))) (blkOk_by (own := [("_law_part", 12)]) (N := ["_law_box", "_law_g", "_law_sizes_here", "_law_kind", "_law_room", "_law_deep", "_law_some", "_law_parts", "_law_row", "_law_size", "_law_left", "_law_at", "_law_part", "_law_more"]) (sc := defScope s_law_grown) (by decide +kernel)) (fun _ _ _ _ _ => (pg_name (i := 12) sc_law_grown.nd rfl (Or.inl rfl))) (fun _ _ _ _ _ => pts_nil) (fun _ _ _ _ _ => (pe_cmpR (op_inDD hr) (pv 12) (pv 2) (by rfl)))) pa_nil)))))) (pss_cons (ps_set (i := 9) sc_law_grown.nd rfl (Or.inl rfl) (pe_op (op_addU (K := K)) pe_int (pe_callB (call_sumU (K := K) rfl) (by rfl) B.sum (by decide +kernel) (pa_cons (pe_lc (own := [("_law_part", 12)]) rfl sc_law_grown.nd (pi_U (K := K) (pe_ix (ix_U (K := K)) (pv 8) pe_int (fun _ _ => rfl))) (blkOk_by (own := [("_law_part", 12)]) (N := ["_law_box", "_law_g", "_law_sizes_here", "_law_kind", "_law_room", "_law_deep", "_law_some", "_law_parts", "_law_row", "_law_size", "_law_left", "_law_at", "_law_part", "_law_more"]) (sc := defScope s_law_grown) (by decide +kernel)) (fun _ _ _ _ _ => (pg_name (i := 12) sc_law_grown.nd rfl (Or.inl rfl))) (fun _ _ _ _ _ => pts_nil) (fun _ _ _ _ _ => (pe_dget (hu_of hr) (pv 2) (pv 12) (fun _ _ => rfl)))) pa_nil))))
  (pss_one (ps_if (PW.pt (pw_or (pt_cmpR (op_eqU (K := K) hr) (pv 9) (pe_dget (hu_of hr) (pv 2) (pv 3) (fun _ _ => rfl)) (nomark _)) (pw_or1 (PW.pt (pw_and (pt_cmpR (op_le) (pv 9) (pv 4) (nomark _)) (pw_and1 (pt_cmpR (op_gt) (pv 5) pe_int (nomark _)))))))) (pss_one (ps_set (i := 6) sc_law_grown.nd rfl (Or.inl rfl) (pe_op (op_addU (K := K)) (pv 6) (pe_op (op_mulU (K := K)) (pe_lst (pa_cons (pe_tup (pa_cons (pv 8) (pa_cons (pe_op op_sub (pe_callB (call_maxU (K := K) rfl) (by rfl) B.max (by decide +kernel) (pa_cons (pv 4) (pa_cons (pv 9) pa_nil))) (pv 9)) pa_nil))) pa_nil)) (pe_op (op_addU (K := K)) pe_int (pe_callB (call_lenU (K := K)) (by rfl) B.len (by decide +kernel) (pa_cons (pe_ix (ix_U (K := K)) (pv 8) pe_int (fun _ _ => rfl)) pa_nil))))))) pss_nil))) pss_nil)))
  (pss_cons (ps_asg (pe_fq hG G_law_one_of hr (by first | decide | omega) (by rfl) pass0 (pa_cons (pv 0) (pa_cons (pv 6) pa_nil))) (pg_T (K := K) (n := 2) rfl (pgs_cons (pg_name (i := 8) sc_law_grown.nd rfl (Or.inl rfl)) (pgs_cons (pg_name (i := 10) sc_law_grown.nd rfl (Or.inl rfl)) pgs_nil))))
  (pss_cons (ps_for PassesOwn.never rfl (pi_en0 (K := K) (by rfl) B.enumerate (pa_cons (pe_ix (ix_U (K := K)) (pv 8) pe_int (fun _ _ => rfl)) pa_nil)) (pg_T (K := K) (n := 2) rfl (pgs_cons (pg_name (i := 11) sc_law_grown.nd rfl (Or.inl rfl)) (pgs_cons (pg_name (i := 12) sc_law_grown.nd rfl (Or.inl rfl)) pgs_nil))) (pss_cons (ps_set (i := 13) sc_law_grown.nd rfl (Or.inl rfl) (pe_ifExp (pt_cmpR (op_eqU (K := K) hr) (pe_op (op_addU (K := K)) (pv 11) pe_int) (pe_callB (call_lenU (K := K)) (by rfl) B.len (by decide +kernel) (pa_cons (pe_ix (ix_U (K := K)) (pv 8) pe_int (fun _ _ => rfl)) pa_nil)) (nomark _)) (pv 10) (pe_fq hG G_law_take hr (by first | decide | omega) (by rfl) pass0 (pa_cons (pv 0) (pa_cons (pe_op (op_addU (K := K)) (pv 10) pe_int) pa_nil)))))
  (pss_cons (ps_set (i := 10) sc_law_grown.nd rfl (Or.inl rfl) (pe_op op_sub (pv 10) (pv 13)))
  (pss_one (ps_expr (Fw.pe_m1 (K := K) PySem.F.plainAttrs_list PySem.F.slot_list_append PySem.F.type_list_append mt_append (pv 7) (pa_cons (pe_fq hG G_law_grown hr (by first | decide | omega) (by rfl) pass0 (pa_cons (pv 0) (pa_cons (pv 1) (pa_cons (pv 2) (pa_cons (pv 12) (pa_cons (pe_op (op_addU (K := K)) (pe_dget (hu_of hr) (pv 2) (pv 12) (fun _ _ => rfl)) (pv 13)) (pa_cons (pe_op op_sub (pv 5) pe_int) pa_nil))))))) pa_nil)))))))
  (pss_one (ps_ret (pe_tup (pa_cons (pe_ix (ix_U (K := K)) (pv 8) pe_int (fun _ _ => rfl)) (pa_cons (pe_ix (ix_U (K := K)) (pe_lst (pa_cons pe_int (pa_cons pe_int (pa_cons (pe_fq hG G_law_number hr (by first | decide | omega) (by rfl) pass0 (pa_cons (pv 0) pa_nil)) pa_nil)))) (pe_fq hG G_law_take hr (by first | decide | omega) (by rfl) pass0 (pa_cons (pv 0) (pa_cons pe_int pa_nil))) (fun _ _ => rfl)) (pa_cons (pe_callTy (call_tupleU (K := K)) (by rfl) B.tuple (by decide +kernel) (pa_cons (pv 7) pa_nil)) pa_nil)))))))))), rfl, ?_⟩
  walk_at "sxq"
  rename_i sm _ _ _
  rename Addr => pp
  replace hw : W K H0 [b] M H [(sm, .lst []), (pp, .lst []), (b, box a s c)] _ := hw.cells [1, 0, 2] rfl (by decide)
  replace hw := hw.freeze1 (ds := []) 1 rfl .nil
  refine x_dgetS (hw.kn 3 rfl) hmk (x_itL (SqL.of (hw.kn 2 rfl)) ?_)
  refine w_for (walk_list (xs := xs)) (fun i σ H' => ∃ (cs : List MRow) (sm : Addr) (y8 y9 y12 : Option V), σ = [some (.ref b), some (.ref g), some (.ref z), some (.str kd), some (.int ro), some (.int d), some (.ref sm), some (.ref pp), y8, y9, none, none, y12, none] ∧
    (∀ r ∈ cs, r ∈ ms ∧ szAll m r.2.2 = true ∧ ((szOf m r : Nat) = n ∨ ((szOf m r : Int) ≤ ro ∧ 0 < d))) ∧ (∀ r ∈ ms.take i, r.2.1 = kd → szAll m r.2.2 = true → szOf m r = n → cs ≠ []) ∧ cs.length ≤ 3 * i ∧
    W K H0 [b] M H' [(pp, .lst []), (b, box a s c)] [.rp (.ref sm) (.list (cs.map (csD m ro))), .al xs (ms.map MRow.d), .kn p2 (.lst xs), .kn z (.dK (szK m)), .kn g (.dK kvs)]) ?_ ?_ ?_ ?_
  · exact ⟨[], sm, _, _, _, rfl, (fun _ z => nomatch z), (fun r hr => by simp at hr), Nat.le_refl _, hw.pick [0, 1, 2, 5, 3] rfl⟩
  · rintro i σ H _ ⟨cs, sm, y8, y9, y12, rfl, _, _, _, hw⟩
    exact SqL.of (hw.kn 2 rfl)
  · rintro i x σ _ H hi ⟨cs, sm, y8, y9, y12, rfl, hcs, hne, hcl, hw⟩ ⟨rfl, hx⟩
    obtain ⟨e, he, hrp⟩ := RpAll.item (hw.all 1 rfl) hx
    rw [List.getElem?_map] at he
    obtain ⟨r, hr, rfl⟩ := Option.map_eq_some_iff.mp he
    have hrm := List.mem_of_getElem? hr
    have hr2 := (hms r hrm).2
    obtain ⟨t, _, rfl, _, _⟩ := Rp.tupI hrp
    obtain ⟨ys, hys, hw⟩ := hw.openT hrp
    obtain ⟨v1, ys, rfl, h1, hys⟩ := RpAll.cons_inv hys
    obtain ⟨v2, ys, rfl, h2, hys⟩ := RpAll.cons_inv hys
    obtain ⟨v3, ys, rfl, h3, hys⟩ := RpAll.cons_inv hys
    cases RpAll.nil_inv hys
    cases h1
    cases h2
    obtain ⟨pt, _, rfl, _, _⟩ := Rp.tupI h3
    obtain ⟨zs, hzd, hw⟩ := hw.openT h3
    obtain rfl := DdAll.strs_inv hzd
    replace hw := hw.add hrp
    have hlast : ∀ cs' : List MRow, (cs ≠ [] → cs' ≠ []) → (r.2.1 = kd → szAll m r.2.2 = true → szOf m r = n → cs' ≠ []) → ∀ r' ∈ ms.take (i + 1), r'.2.1 = kd → szAll m r'.2.2 = true → szOf m r' = n → cs' ≠ [] := fun cs' h1 h2 r' hr' a1 a2 a3 => by
      rw [List.take_add_one, hr] at hr'
      rcases List.mem_append.mp hr' with h | h
      · exact h1 (hne r' h a1 a2 a3)
      · rw [Option.toList_some, List.mem_singleton] at h
        subst h
        exact h2 a1 a2 a3
    refine x_gName ?_
    walk_at "sxq"
    refine x_ifd (fun c1 => ?_) (fun c1 => ?_)
    rotate_left
    · walk_at "sxq"
      exact ⟨cs, sm, _, _, _, rfl, hcs, hlast cs id (fun z => absurd z c1), by omega, hw.pick [3, 4, 5, 6, 7] rfl⟩
    walk_at "sxq"
    refine w_lcK hw (walk_tup (xs := r.2.2.map V.str)) (fun D j H' => W K H0 [b] M H' [(D, .lst ((r.2.2.take j).map fun p => V.bl (m.lookup p).isSome)), (pp, .lst []), (b, box a s c)] [.rp (.ref t) (MRow.d r), .tp pt (r.2.2.map V.str), .tp t [.str r.1, .str r.2.1, .ref pt], .rp (.ref sm) (.list (cs.map (csD m ro))), .al xs (ms.map MRow.d), .kn p2 (.lst xs), .kn z (.dK (szK m)), .kn g (.dK kvs)]) ?_ ?_ ?_ ?_
    · intro D H _ hw
      exact hw
    · rintro D j H _ hw
      exact hw.tp 1 rfl
    · rintro D j x _ H hj hw ⟨rfl, hx⟩
      rw [List.length_map] at hj
      rw [List.getElem?_map] at hx
      obtain ⟨pn, hpn, rfl⟩ := Option.map_eq_some_iff.mp hx
      have hzz : ((r.2.2.take j).map fun p => V.bl (m.lookup p).isSome).length < sizeLine := sz_lt (by rw [List.length_map, List.length_take]; omega)
      walk_at "sxq"
      refine x_inDS (hw.kn 6 rfl) ?_
      rw [szV, Option.isSome_map]
      walk_at "sxq"
      rw [List.take_add_one, hpn, List.map_append]
      exact hw
    intro D H hw
    rw [List.length_map, List.take_length] at hw
    refine x_nil ?_
    refine x_all (bs := r.2.2.map fun p => (m.lookup p).isSome) (by rw [List.map_map]; exact SqL.of (hw.at 0 rfl)) ?_
    rw [show (r.2.2.map fun p => (m.lookup p).isSome).all id = szAll m r.2.2 by rw [List.all_map]; rfl]
    replace hw := hw.drop1
    walk_at "sxq"
    refine x_ifb (fun c2 => ?_) (fun c2 => ?_)
    rotate_left
    · walk_at "sxq"
      exact ⟨cs, sm, _, _, _, rfl, hcs, hlast cs id (fun _ z => by rw [c2] at z; cases z), by omega, hw.pick [3, 4, 5, 6, 7] rfl⟩
    have hin : ∀ p ∈ r.2.2, ∃ n, m.lookup p = some n := fun p hp => Option.isSome_iff_exists.mp (List.all_eq_true.mp c2 p hp)
    refine x_seq (x_set (x_op (x_c (x_cb (x_cons (x_lc (x_iU (x_op (x_var rfl (x_c (x_ixT (hw.tp 2 rfl) rfl (x_itT (hw.tp 1 rfl) ?_))))))))))))
    refine w_lcK hw (walk_tup (xs := r.2.2.map V.str)) (fun D j H' => W K H0 [b] M H' [(D, .lst ((r.2.2.take j).map fun p => V.int ((m.lookup p).getD 0))), (pp, .lst []), (b, box a s c)] [.rp (.ref t) (MRow.d r), .tp pt (r.2.2.map V.str), .tp t [.str r.1, .str r.2.1, .ref pt], .rp (.ref sm) (.list (cs.map (csD m ro))), .al xs (ms.map MRow.d), .kn p2 (.lst xs), .kn z (.dK (szK m)), .kn g (.dK kvs)]) ?_ ?_ ?_ ?_
    · intro D H _ hw
      exact hw
    · rintro D j H _ hw
      exact hw.tp 1 rfl
    · rintro D j x _ H hj hw ⟨rfl, hx⟩
      rw [List.length_map] at hj
      rw [List.getElem?_map] at hx
      obtain ⟨pn, hpn, rfl⟩ := Option.map_eq_some_iff.mp hx
      obtain ⟨n', hn'⟩ := hin pn (List.mem_of_getElem? hpn)
      have hzz : ((r.2.2.take j).map fun p => V.int ((m.lookup p).getD 0)).length < sizeLine := sz_lt (by rw [List.length_map, List.length_take]; omega)
      walk_at "sxq"
      refine x_dgetS (hw.kn 6 rfl) (v := .int n') (by rw [szV, hn']; rfl) ?_
      walk_at "sxq"
      rw [List.take_add_one, hpn, List.map_append, show (Option.toList (some pn)).map (fun p => V.int ((m.lookup p).getD 0)) = [V.int n'] by simp [hn']]
      exact hw
    intro D H hw
    rw [List.length_map, List.take_length] at hw
    refine x_nil ?_
    refine x_sum (ns := r.2.2.map fun p => (((m.lookup p).getD 0 : Nat) : Int)) (by rw [List.map_map]; exact SqL.of (hw.at 0 rfl)) ?_
    rw [sum_cast]
    replace hw := hw.drop1
    refine x_addI ?_
    rw [show (1 : Int) + (szSum m r.2.2 : Int) = (szOf m r : Int) by unfold szOf; omega]
    refine x_nx (x_ifS (x_tvia (C := fun Q' => ((szOf m r = n ∨ ((szOf m r : Int) ≤ ro ∧ 0 < d)) → Q' true H) ∧ (szOf m r ≠ n → Q' false H)) (fun Q' kk => ?_) ⟨fun hok => ?_, fun hno => ?_⟩))
    · walk_at "sxq"
      refine x_dgetS (hw.kn 6 rfl) (v := .int n) (by rw [szV, hkn]; rfl) ?_
      walk_at "sxq"
      refine x_ifd (fun c3 => ?_) (fun c3 => ?_)
      · exact kk.1 (.inl (by omega))
      walk_at "sxq"
      refine x_ifd (fun c4 => ?_) (fun c4 => ?_)
      · walk_at "sxq"
        by_cases c5 : 0 < d
        · rw [decide_eq_true c5]
          exact kk.1 (.inr ⟨c4, c5⟩)
        · rw [decide_eq_false c5]
          exact kk.2 (by omega)
      · exact kk.2 (by omega)
    · walk_at "sxe"
      refine x_lenT (hw.tp 3 rfl) ?_
      refine x_addI ?_
      rw [List.length_map, show (1 : Int) + (r.2.2.length : Int) = ((1 + r.2.2.length : Nat) : Int) by omega]
      refine w_repD (1 + r.2.2.length) hw (hw.rp 0 rfl) (by omega) (by simp) fun p3 H hp3 hw => ?_
      refine w_catD hw (hw.rp 6 rfl) (hw.rp 0 rfl) (by rw [sizeLine_eq]; simp; omega) fun p4 H hp4 hw => ?_
      refine x_nx ⟨cs ++ List.replicate (1 + r.2.2.length) r, p4, _, _, _, rfl, fun r' hr' => ?_, hlast _ (fun z => by simp [z]) (fun _ _ _ => by simp), by simp; omega, ?_⟩
      · rcases List.mem_append.mp hr' with h | h
        · exact hcs r' h
        · rw [(List.mem_replicate.mp h).2]
          exact ⟨hrm, c2, hok⟩
      · rw [List.map_append, List.map_replicate, show List.replicate (1 + r.2.2.length) (csD m ro r) = (List.replicate (1 + r.2.2.length) [csD m ro r]).flatten from (List.flatten_replicate_singleton).symm]
        exact hw.pick [0, 8, 9, 10, 11] rfl
    · walk_at "sxq"
      exact ⟨cs, sm, _, _, _, rfl, hcs, hlast cs id (fun _ _ z => absurd z hno), by omega, hw.pick [3, 4, 5, 6, 7] rfl⟩
  · rintro σ H ⟨cs, sm, y8, y9, y12, rfl, hcs, hne, hcl, hw⟩
    rw [hxl, List.take_length] at hne
    obtain ⟨r0, hr01, hr02, hr03, hr04⟩ := hsz.row kd n hkn
    have hcne : cs ≠ [] := hne r0 hr01 hr02 hr03 hr04
    have hn1 : 1 ≤ n := by omega
    have hn15 := hsz.le kd n hkn
    have hrk := rk_max hkn hm4
    cases i with
    | zero => exact absurd hix.2 (by have := hix.1; omega)
    | succ i =>
    walk_at "sxq"
    refine x_oneD hw 1 rfl (hw.rp 0 rfl) (by rw [List.length_map]; exact List.length_pos_iff.mpr hcne) (by rw [List.length_map]; omega) bx (by omega) fun v e a1 c1 H he bx hc1 hw => ?_
    simp only [List.set_cons_zero, List.set_cons_succ] at hw
    obtain ⟨r, hr, rfl⟩ := List.mem_map.mp he
    obtain ⟨hrm, hrall, hrok⟩ := hcs r hr
    have hr2 := (hms r hrm).2
    have hin : ∀ p ∈ r.2.2, ∃ n, m.lookup p = some n := fun p hp => Option.isSome_iff_exists.mp (List.all_eq_true.mp hrall p hp)
    obtain ⟨t, _, rfl, _, _⟩ := Rp.tupI (hw.rp 0 rfl)
    obtain ⟨ys, hys, hw⟩ := hw.openT (hw.rp 0 rfl)
    obtain ⟨v1, ys, rfl, h1, hys⟩ := RpAll.cons_inv hys
    obtain ⟨v2, ys, rfl, h2, hys⟩ := RpAll.cons_inv hys
    cases RpAll.nil_inv hys
    cases h2
    obtain ⟨tr, _, rfl, _, _⟩ := Rp.tupI h1
    obtain ⟨ys, hys, hw⟩ := hw.openT h1
    obtain ⟨v1, ys, rfl, h1, hys⟩ := RpAll.cons_inv hys
    obtain ⟨v2, ys, rfl, h2, hys⟩ := RpAll.cons_inv hys
    obtain ⟨v3, ys, rfl, h3, hys⟩ := RpAll.cons_inv hys
    cases RpAll.nil_inv hys
    cases h1
    cases h2
    obtain ⟨pt, _, rfl, _, _⟩ := Rp.tupI h3
    obtain ⟨zs, hzd, hw⟩ := hw.openT h3
    obtain rfl := DdAll.strs_inv hzd
    replace hw := hw.add (v := .ref p2) (d := .list (ms.map MRow.d)) (.lst (hw.knA 6 rfl) (hw.all 5 rfl))
    replace hw : W K H0 [b] M H [(pp, .lst []), (b, box a1 s c1)] [.tp pt (r.2.2.map V.str), .tp tr [.str r.1, .str r.2.1, .ref pt], .tp t [.ref tr, .int (max ro (szOf m r) - szOf m r)], .rp (.ref p2) (.list (ms.map MRow.d)), .kn z (.dK (szK m)), .kn g (.dK kvs)] := hw.pick [1, 2, 3, 0, 8, 9] rfl
    have hS : (szOf m r : Int) = 1 + (szSum m r.2.2 : Int) := by unfold szOf; omega
    obtain ⟨S, hSe⟩ : ∃ S, szOf m r = S := ⟨_, rfl⟩
    rw [hSe] at hw hS hrok
    refine x_gTup (hw.tp 2 rfl) rfl (x_gCons (x_gName (x_gCons (x_gName (x_gNil ?_)))))
    walk_at "sxq"
    refine x_enT (c := 0) (hw.tp 0 rfl) ?_
    refine w_for (walk_enumK (kd := .t) (xs := r.2.2.map V.str)) (fun j σ H' => ∃ (ts : List Tr) (us : List V) (left a2 c2 : Int) (y9 y11 y12 y13 : Option V), σ = [some (.ref b), some (.ref g), some (.ref z), some (.str kd), some (.int ro), some (.int d), some (.ref sm), some (.ref pp), some (.ref tr), y9, some (.int left), y11, y12, y13] ∧ ts.length = j ∧ us.length = j ∧ TrsOk ts ∧ ((highs ts : Int) + 1 ≤ (if 1 ≤ d then d + 4 else rkOf m n + 1)) ∧ (sizes ts : Int) ≤ szSum m (r.2.2.take j) + (max ro S - S) - left ∧ 0 ≤ left ∧ left ≤ max ro S - S ∧ Bx a2 s c2 ∧ c2 ≤ c1 + j + 20 * (szSum m (r.2.2.take j) + (max ro S - S) - left) ∧
      W K H0 [b] M H' [(pp, .lst us), (b, box a2 s c2)] [.al us (datas ts), .tp pt (r.2.2.map V.str), .tp tr [.str r.1, .str r.2.1, .ref pt], .rp (.ref p2) (.list (ms.map MRow.d)), .kn z (.dK (szK m)), .kn g (.dK kvs)]) ?_ ?_ ?_ ?_
    · refine ⟨[], [], _, _, _, _, _, _, _, rfl, rfl, rfl, .nil, ?_, ?_, ?_, Int.le_refl _, bx, ?_, (hw.pick [0, 1, 3, 4, 5] rfl).alNil⟩
      · simp only [highs]; split <;> omega
      · simp [sizes]
      · omega
      · simp [szSum]
    · rintro j σ H _ ⟨ts, us, left, a2, c2, y9, y11, y12, y13, rfl, _, _, _, _, _, _, _, _, _, hw⟩
      exact hw.tp 1 rfl
    · rintro j x σ H _ hj ⟨ts, us, left, a2, c2, y9, y11, y12, y13, rfl, htl, hul, hts, hhi, hsi, hl0, hl1, bx, hc2, hw⟩ ⟨T, x, y, rfl, hT, rfl, e1, e2⟩
      cases e1
      replace e2 : (r.2.2.map V.str)[j]? = some y := e2
      rw [List.getElem?_map] at e2
      obtain ⟨pj, hpj, rfl⟩ := Option.map_eq_some_iff.mp e2
      rw [List.length_map] at hj
      obtain ⟨n', hn'⟩ := hin pj (List.mem_of_getElem? hpj)
      have hn's := sum_mem hn' (List.mem_of_getElem? hpj)
      have hn'15 := hsz.le pj n' hn'
      have hrk' := rk_max hn' hm4
      have htk := sum_take hpj hn'
      have htl2 : szSum m (r.2.2.take j) + n' ≤ szSum m r.2.2 := sum_le_take hpj hn'
      replace hw := hw.pure (Ex.new (o := .tup [.int (0 + j), .str pj]) hT)
      have hTT : SqT K (upd H T (.tup [.int (0 + j), .str pj])) T [.int (0 + j), .str pj] := .inl (.inl upd_same)
      have hzz : us.length < sizeLine := sz_lt (by omega)
      refine x_gTup hTT rfl (x_gCons (x_gName (x_gCons (x_gName (x_gNil ?_)))))
      refine x_seq (x_asgG (x_via (C := fun Q' => ∀ (mo a3 c3 : Int) H', 0 ≤ mo → mo ≤ left → Bx a3 s c3 → c3 ≤ c2 + 1 → W K H0 [b] M H' [(pp, .lst us), (b, box a3 s c3)] [.al us (datas ts), .tp pt (r.2.2.map V.str), .tp tr [.str r.1, .str r.2.1, .ref pt], .rp (.ref p2) (.list (ms.map MRow.d)), .kn z (.dK (szK m)), .kn g (.dK kvs)] → Q' (.int mo) H') (fun Q' k => ?_) ?_))
      · walk_at "sxq"
        refine x_lenT (hw.tp 1 rfl) ?_
        walk_at "sxq"
        refine x_ifd (fun c5 => ?_) (fun c5 => ?_)
        · walk_at "sxq"
          exact k _ _ _ _ hl0 (Int.le_refl _) bx (by omega) hw
        · walk_at "sxq"
          exact k _ _ _ _ hr0 (by omega) bx (by omega) hw
      intro mo a3 c3 H hmo0 hmo1 bx hc3 hw
      walk_at "sxq"
      refine x_dgetS (hw.kn 4 rfl) (v := .int n') (by rw [szV, hn']; rfl) ?_
      walk_at "sxq"
      have hmx : max ((n' : Int) + mo) n' = n' + mo := by omega
      have hRS : max ro S ≤ 100 := by omega
      refine x_gro (E := E0) hw 1 5 3 4 rfl rfl hmk rfl rfl hsz hm4 hml hms hn' ?_ (by omega) (by omega) bx (by omega) fun v t' a4 c4 H ht' hsz' hhi' bx hc4 hw => ?_
      · refine ⟨fun z => by have := hix.1; omega, fun z => ?_⟩
        by_cases hd1 : 1 ≤ d
        · have := hix.1 hd1; omega
        · have hSn : S = n := by omega
          have := rk_lt hn' (show n' < n by omega)
          have := hix.2 (by omega)
          omega
      simp only [List.set_cons_zero, List.set_cons_succ] at hw
      rw [hmx] at hsz' hc4
      replace hw := hw.more
      walk_at "sxq"
      refine ⟨ts ++ [t'], us ++ [v], _, _, _, _, _, _, _, rfl, by simp [htl], by simp [hul], hts.append (.cons ht' .nil), ?_, ?_, by omega, by omega, bx, ?_, by rw [datas_append]; simp only [datas]; exact hw⟩
      · rw [highs_append]
        simp only [highs]
        have h5 : (t'.high : Int) + 1 ≤ (if 1 ≤ d then d + 4 else rkOf m n + 1) := by
          by_cases hd1 : 1 ≤ d
          · rw [if_pos hd1]
            split at hhi' <;> omega
          · rw [if_neg hd1]
            rw [if_neg (by omega)] at hhi'
            have := rk_lt hn' (show n' < n by omega)
            omega
        split <;> split at h5 <;> split at hhi <;> omega
      · rw [sizes_append]; simp only [sizes]; push_cast; omega
      · push_cast; omega
    · rintro σ H ⟨ts, us, left, a2, c2, y9, y11, y12, y13, rfl, htl, hul, hts, hhi, hsi, hl0, hl1, bx, hc2, hw⟩
      rw [List.length_map] at htl hul
      rw [List.length_map, List.take_length] at hsi hc2
      obtain ⟨nm1, hnm1, hnm2⟩ : ∃ x, r.1 = x ∧ NameOk x := ⟨_, rfl, (hms r hrm).1⟩
      rw [hnm1] at hw
      walk_at "sxq"
      refine x_number hw 1 rfl bx (by omega) fun nu a3 c3 H hnu bx hc3 hw => ?_
      simp only [List.set_cons_zero, List.set_cons_succ] at hw
      walk_at "sxq"
      refine x_ixAny (SqL.of (hw.at 0 rfl)) hr0 (by exact hr1) fun v hv => ?_
      obtain ⟨o, rfl, ho0, ho6⟩ : ∃ o : Int, v = .int o ∧ 0 ≤ o ∧ o < 1000000 := by
        simp only [List.mem_cons, List.not_mem_nil, or_false] at hv
        rcases hv with rfl | rfl | rfl
        · exact ⟨0, rfl, by decide, by decide⟩
        · exact ⟨0, rfl, by decide, by decide⟩
        · exact ⟨nu, rfl, by omega, by omega⟩
      replace hw := hw.drop1
      walk_at "sxq"
      refine w_tupleA hw (hw.at 0 rfl) (hw.all 0 rfl) fun p H hp hw => ?_
      walk_at "sxe"
      refine q _ (.mk nm1 o ts) _ _ _ (.mk hnm2 ho0 ho6 (by omega) hts) ?_ ?_ bx ?_ hw.ex (hw.at 1 rfl) ((hw.rp 0 rfl).less fun x hx => List.mem_append_right _ hx)
      · simp only [Tr.size]; push_cast; omega
      · simp only [Tr.high]; push_cast; omega
      · omega
end
end Law
namespace Law
open PySem PySem.Spec PyProof.Rows L2 Fw
section
variable {K : PySem.W.Frag} {H0 H H' : Hp} {Ms M0 : List Addr} {L : List (Addr × HO)} {R R' : List Fa} {b p : Addr} {a s c : Int} {Q : VK} {E : XK} {P : Program} {w : World}
theorem W.addAll (hw : W K H0 Ms M0 H L R) (h : ∀ r ∈ R', r.ok K (Fw.del H (av L M0))) : W K H0 Ms M0 H L (R' ++ R) := ⟨hw.ex, hw.al, hw.nd, hw.cell, hw.own, fun r hr => (List.mem_append.mp hr).elim (h r) (hw.rep r)⟩
theorem av_set {L : List (Addr × HO)} {i : Nat} {o o' : HO} {M0 : List Addr} (hL : L[i]? = some (b, o)) : av (L.set i (b, o')) M0 = av L M0 := by
  unfold av
  rw [List.map_set]
  have h : (L.map (·.1))[i]? = some b := by rw [List.getElem?_map, hL]; rfl
  obtain ⟨hi, e⟩ := List.getElem?_eq_some_iff.mp h
  have e2 : (L.map (·.1)).set i b = L.map (·.1) := by
    have := List.set_getElem_self hi
    rwa [e] at this
  exact congrArg (· ++ M0) e2
theorem x_drawn {cap : Nat} {wb : Bool} {wn : Nat} {wl : Addr} (hw : W K H0 Ms M0 H L R) (i j : Nat) (hL : L[i]? = some (b, box a s c)) (hR : R[j]? = some (.tp wl [.bl wb, .int wn])) (h9 : cap ≤ 9) (h1 : 1 ≤ wn) (h2 : wn ≤ 1000) (bx : Bx a s c) (hc : c + 20000 < 2 ^ 40)
    (q : ∀ g (G : Gr) (x : GrV) a' c' H', GrOk G → G.cap = cap → heOk G x → Bx a' s c' → c' ≤ c + 20000 → W K H0 Ms M0 H' (L.set i (b, box a' s c')) (grF P w G g x ++ R) → Q (.ref g) H') : spDrawn K P w [.ref b, .int cap, .ref wl] H Q E :=
  ⟨av L M0, cap, wb, wn, b, wl, a, s, c, rfl, h9, h1, h2, hw.alloc', List.mem_append_left _ (List.mem_map.mpr ⟨_, List.mem_of_getElem? hL, rfl⟩), hw.at i hL, bx, hc, hw.rep _ (List.mem_of_getElem? hR), fun g G x a' c' H' k1 k2 k3 k4 k5 k6 k7 k8 => q g G x a' c' H' k1 k2 k3 k4 k5 (W.addAll (hw.call i hL k6 k7) (by rw [av_set hL]; exact k8))⟩
theorem x_any (hw : W K H0 Ms M0 H L R) (i : Nat) (hL : L[i]? = some (b, box a s c)) (bx : Bx a s c) (hc : c + 21000 < 2 ^ 40)
    (q : ∀ g (G : Gr) (x : GrV) a' c' H', GrOk G → heOk G x → Bx a' s c' → c' ≤ c + 21000 → W K H0 Ms M0 H' (L.set i (b, box a' s c')) (grF P w G g x ++ R) → Q (.ref g) H') : spAny K P w [.ref b] H Q E :=
  ⟨av L M0, b, a, s, c, rfl, hw.alloc', List.mem_append_left _ (List.mem_map.mpr ⟨_, List.mem_of_getElem? hL, rfl⟩), hw.at i hL, bx, hc, fun g G x a' c' H' k1 k3 k4 k5 k6 k7 k8 => q g G x a' c' H' k1 k3 k4 k5 (W.addAll (hw.call i hL k6 k7) (by rw [av_set hL]; exact k8))⟩
end
theorem pass_keys (ms : List MRow) : ∀ l : List MRow, ∀ m : Sz, (m.map (·.1)).Nodup → ((szRun l m).map (·.1)).Nodup
  | [], m, h => h
  | r :: l, m, h => pass_keys ms l (szStep m r) (szStep_ok h).1
theorem pass_len {ms : List MRow} {names : List Str} (hn : ∀ r ∈ ms, r.2.1 ∈ names) : (szPass ms 4).length ≤ names.length := by
  have h1 : ((szPass ms 4).map (·.1)).Nodup := pass_keys ms _ [] .nil
  have h2 : ∀ k ∈ (szPass ms 4).map (·.1), k ∈ names := fun k hk => by
    obtain ⟨n, hn'⟩ := lk_mem hk
    exact (pass_snd ms 4 k n hn').kind hn
  have := nodup_sub h1 h2
  rwa [List.length_map] at this
section
variable {P : Program} {w : World} {K : PySem.W.Frag} {mg : Str → Option Value} {base : Heap} {f : Addr} {fd : FuncData} {k : Nat} {kws : List (Str × V)}
theorem ok_any (F : FunD K "_law_any" "_law_any" (defArgs s_law_any) (defBody s_law_any) (defScope s_law_any) [] kws f fd) (B : BltD mg) (G_law_take : Fq P w K mg base CX0 1 "_law_take" ["_law_box", "_law_many"] spTake) (G_law_drawn : Fq P w K mg base CX0 4 "_law_drawn" ["_law_box", "_law_roof", "_law_wild_here"] (spDrawn K P w)) : FnG P w K mg base CX0 5 f fd ["_law_box"] (spAny K P w) := by
  refine okG F sc_law_any (fun vs H Q E h => ?_) (fun cdv A outer s H0 vs Q E hG hr h => ?_)
  · obtain ⟨M, b, a, s, c, rfl, _⟩ := h
    rfl
  obtain ⟨M, b, a, s, c, rfl, hM, hbM, hb, bx, hc, q⟩ := h
  have hw : W K H0 [b] M H0 [(b, box a s c)] [] := W.start1 hb hM (fun r z => nomatch z)
  refine ⟨_, [some (.ref b), none], (pss_cons (ps_set (i := 1) sc_law_any.nd rfl (Or.inl rfl) (pe_ix (ix_U (K := K)) (pe_lst (pa_cons pe_int (pa_cons pe_int (pa_cons (pe_op (op_addU (K := K)) pe_int (pe_fq hG G_law_take hr (by first | decide | omega) (by rfl) pass0 (pa_cons (pv 0) (pa_cons pe_int pa_nil)))) pa_nil)))) (pe_fq hG G_law_take hr (by first | decide | omega) (by rfl) pass0 (pa_cons (pv 0) (pa_cons pe_int pa_nil))) (fun _ _ => rfl)))
  (pss_one (ps_ret (pe_fq hG G_law_drawn hr (by first | decide | omega) (by rfl) pass0 (pa_cons (pv 0) (pa_cons (pv 1) (pa_cons (pe_tup (pa_cons (pe_cmpR (op_eqU (K := K) hr) (pe_fq hG G_law_take hr (by first | decide | omega) (by rfl) pass0 (pa_cons (pv 0) (pa_cons pe_int pa_nil))) pe_int (nomark _)) (pa_cons (pe_ix (ix_U (K := K)) (pe_lst (pa_cons pe_int (pa_cons pe_int (pa_cons pe_int pa_nil)))) (pe_fq hG G_law_take hr (by first | decide | omega) (by rfl) pass0 (pa_cons (pv 0) (pa_cons pe_int pa_nil))) (fun _ _ => rfl)) pa_nil))) pa_nil))))))), rfl, ?_⟩
  walk_at "sxq"
  refine x_ixAny (SqL.of (hw.at 0 rfl)) hr0 (by exact hr1) fun v hv => ?_
  obtain ⟨cap, rfl, hcap⟩ : ∃ cap : Nat, v = .int cap ∧ cap ≤ 9 := by
    simp only [List.mem_cons, List.not_mem_nil, or_false] at hv
    have key : ∀ x : Int, 0 ≤ x → x < 9 → ∃ cap : Nat, V.int (1 + x) = .int cap ∧ cap ≤ 9 := fun x h0 h1 => ⟨(1 + x).toNat, by congr 1; omega, by omega⟩
    rcases hv with rfl | rfl | rfl
    · exact ⟨0, rfl, by decide⟩
    · exact ⟨0, rfl, by decide⟩
    · exact key _ (by assumption) (by assumption)
  replace hw := hw.drop1
  walk_at "sxq"
  refine x_ixAny (SqL.of (hw.at 0 rfl)) hr0 (by exact hr1) fun v hv => ?_
  obtain ⟨wn, rfl, hwn1, hwn2⟩ : ∃ wn : Nat, v = .int wn ∧ 1 ≤ wn ∧ wn ≤ 1000 := by
    simp only [List.mem_cons, List.not_mem_nil, or_false] at hv
    rcases hv with rfl | rfl | rfl
    · exact ⟨1000, rfl, by decide, by decide⟩
    · exact ⟨1000, rfl, by decide, by decide⟩
    · exact ⟨12, rfl, by decide, by decide⟩
  replace hw := hw.drop1
  walk_at "sxe"
  obtain ⟨ys, hys, hw⟩ := hw.openT (hw.rp 0 rfl)
  obtain ⟨v1, ys, rfl, h1, hys⟩ := RpAll.cons_inv hys
  obtain ⟨v2, ys, rfl, h2, hys⟩ := RpAll.cons_inv hys
  cases RpAll.nil_inv hys
  cases h1
  cases h2
  refine x_drawn hw 0 0 rfl rfl hcap hwn1 hwn2 bx (by omega) fun g G x a' c' H k1 k2 k3 k4 k5 hw => ?_
  exact q g G x _ _ _ k1 k3 k4 (by omega) hw.ex (hw.at 0 rfl) (fun r hr => Fa.ext (del_sub fun x hx => List.mem_append_right _ hx) (hw.rep r (List.mem_append_left _ hr)))
theorem grown_fn (F : FunD K "_law_grown" "_law_grown" (defArgs s_law_grown) (defBody s_law_grown) (defScope s_law_grown) [] kws f fd) (B : BltD mg) (gm : mg "_law_grown" = some (.ref f)) (G_law_take : Fq P w K mg base CX0 1 "_law_take" ["_law_box", "_law_many"] spTake) (G_law_one_of : Fq P w K mg base CX0 2 "_law_one_of" ["_law_box", "_law_some"] (spOneOf K))
    (G_law_number : Fq P w K mg base CX0 2 "_law_number" ["_law_box"] spNumber) : ∀ n, FnG P w K mg base CX0 (n + 3) f fd ["_law_box", "_law_g", "_law_sizes_here", "_law_kind", "_law_room", "_law_deep"] (spGro K n)
  | 0 => grown_step F B G_law_take G_law_one_of G_law_number 0 (mkFq F gm (fun _ _ _ _ _ _ us hl => match us, hl with | [_, _, _, _, _, _], _ => rfl) ⟨fun _ _ _ _ z => z.elim, fun _ _ _ _ _ _ _ _ _ _ _ _ _ _ z => z.elim⟩)
  | n + 1 => grown_step F B G_law_take G_law_one_of G_law_number (n + 1) (mkFq F gm (fun _ _ _ _ _ _ us hl => match us, hl with | [_, _, _, _, _, _], _ => rfl) (grown_fn F B gm G_law_take G_law_one_of G_law_number n))
theorem ok_tree_of (F : FunD K "_law_tree_of" "_law_tree_of" (defArgs s_law_tree_of) (defBody s_law_tree_of) (defScope s_law_tree_of) [] kws f fd) (B : BltD mg) (G_law_take : Fq P w K mg base CX0 1 "_law_take" ["_law_box", "_law_many"] spTake) (G_law_one_of : Fq P w K mg base CX0 2 "_law_one_of" ["_law_box", "_law_some"] (spOneOf K)) (G_law_sizes : Fq P w K mg base CX0 1 "_law_sizes" ["_law_g"] (spSizes K))
    (G_law_grown : Fq P w K mg base CX0 31 "_law_grown" ["_law_box", "_law_g", "_law_sizes_here", "_law_kind", "_law_room", "_law_deep"] (spGro K 28)) : FnG P w K mg base CX0 32 f fd ["_law_box", "_law_g", "_law_most"] (spTreeOf K) := by
  refine okG F sc_law_tree_of (fun vs H Q E h => ?_) (fun cdv A outer s H0 vs Q E hG hr h => ?_)
  · obtain ⟨M, b, g, p2, kvs, ms, names, mo, a, s, c, rfl, _⟩ := h
    rfl
  obtain ⟨M, b, g, p2, kvs, ms, names, mo, a, s, c, rfl, hM, hbM, hg, hmk, hp2, hml, hms, hnm, hn4, hmo1, hmo2, hb, bx, hc, q1, q2⟩ := h
  have hw : W K H0 [b] M H0 [(b, box a s c)] [.kn g (.dK kvs), .rp (.ref p2) (.list (ms.map MRow.d))] := W.start1 hb hM (fun r hr => by
    rcases List.mem_cons.mp hr with rfl | hr
    · exact fa_in (r := .kn _ _) hg hbM
    · rw [List.mem_singleton.mp hr]; exact fa_in (r := .rp _ _) hp2 hbM)
  refine ⟨_, [some (.ref b), some (.ref g), some (.int mo), none], (pss_cons (ps_set (i := 3) sc_law_tree_of.nd rfl (Or.inl rfl) (pe_fq hG G_law_sizes hr (by first | decide | omega) (by rfl) pass0 (pa_cons (pv 1) pa_nil)))
  (pss_cons (ps_if (pt_cmpR (op_eqD0 hr) (pv 3) pe_dnewK (nomark _)) (pss_one (ps_ret pe_non)) pss_nil)
  (pss_one (ps_ret (pe_fq hG G_law_grown hr (by first | decide | omega) (by rfl) pass0 (pa_cons (pv 0) (pa_cons (pv 1) (pa_cons (pv 3) (pa_cons (pe_fq hG G_law_one_of hr (by first | decide | omega) (by rfl) pass0 (pa_cons (pv 0) (pa_cons (pe_callB (call_sortedDD rfl) (by rfl) B.sorted (by decide +kernel) (pa_cons (pv 3) pa_nil)) pa_nil))) (pa_cons (pe_op (op_addU (K := K)) pe_int (pe_fq hG G_law_take hr (by first | decide | omega) (by rfl) pass0 (pa_cons (pv 0) (pa_cons (pv 2) pa_nil)))) (pa_cons pe_int pa_nil))))))))))), rfl, ?_⟩
  walk_at "sxq"
  refine ⟨av [(b, box a s c)] M, g, p2, kvs, ms, rfl, hw.alloc', hw.knA 0 rfl, hmk, hw.rp 1 rfl, hml, fun m hm => (hms m hm).2, fun z H e hz0 hz => ?_⟩
  replace hw := (hw.adopt e hz0 hz).keep1 0 rfl
  walk_at "sxq"
  refine w_dnew hw fun e0 H he0 hw => ?_
  refine x_eqD0 (hw.kn 0 rfl) (hw.at 0 rfl) ?_
  replace hw := hw.drop1
  walk_at "sxq"
  refine x_ifb (fun c1 => ?_) (fun c1 => ?_)
  · walk_at "sxq"
    exact q1 _ _ _ bx (by omega) hw.ex (hw.at 0 rfl)
  walk_at "sxq"
  have hl4 := pass_len hnm
  have hpos : 0 < (szPass ms 4).length := by
    rw [← szK_len]
    cases hh : szK (szPass ms 4) with
    | nil => rw [hh] at c1; cases c1
    | cons _ _ => exact Nat.succ_pos _
  refine w_sortedD hw (hw.kn 0 rfl) (szK_keys _) (by rw [List.length_map]; omega) fun pl ys H hpl hperm _ hw => ?_
  have hyl := hperm.length_eq
  rw [List.length_map] at hyl
  replace hw := hw.freeze1 0 rfl (DdAll.strs ys)
  walk_at "sxq"
  refine x_oneD hw 0 rfl (hw.rp 0 rfl) (by rw [List.length_map]; omega) (by rw [List.length_map]; omega) bx (by omega) fun v d a1 c1 H hd bx hc1 hw => ?_
  simp only [List.set_cons_zero] at hw
  obtain ⟨kd, hkd, rfl⟩ := List.mem_map.mp hd
  cases (hw.rp 0 rfl)
  obtain ⟨n, hn⟩ := lk_mem (hperm.mem_iff.mp hkd)
  have hok := pass_ok hnm (fun r hr => (hms r hr).2) hn4
  have hn15 := hok.le kd n hn
  walk_at "sxq"
  refine x_gro (E := E0) hw 0 3 4 2 rfl rfl hmk rfl rfl hok (by omega) hml hms hn ⟨fun _ => by decide, fun z => absurd z (by decide)⟩ (by omega) (by omega) bx (by omega) fun v t a' c' H ht hsz hhi bx hc2 hw => ?_
  rw [if_pos (by decide)] at hhi
  walk_at "sxq"
  exact q2 v t _ _ _ ht (by omega) (by omega) bx (by omega) hw.ex (hw.at 0 rfl) ((hw.rp 0 rfl).less fun x hx => List.mem_append_right _ hx)
end
end Law
namespace Law
open PySem PySem.Spec PyProof.Rows L2 Fw
abbrev s_law_wild : Stmt := topS 34
theorem sc_law_wild : FnScope ["_law_box", "_law_names", "_law_room", "_law_deep", "_law_many", "_law_left", "_law_parts", "_law_k", "_law_some"] ["_law_box", "_law_names", "_law_room", "_law_deep"] (defScope s_law_wild) := ⟨rfl, rfl, rfl, by decide +kernel, rfl, by decide +kernel, by decide +kernel⟩

def spWild (K : PySem.W.Frag) (n : Nat) : Sp := fun vs H Q _ => ∃ (M : List Addr) (b pn : Addr) (ns : List Str) (a s c r : Int), vs = [.ref b, .ref pn, .int r, .int n] ∧ 1 ≤ r ∧ r ≤ 1000 ∧ Al M H ∧ b ∈ M ∧ del H M pn = some (.lst (ns.map V.str)) ∧ 0 < ns.length ∧ ns.length ≤ 1000 ∧ (∀ x ∈ ns, NameOk x) ∧ H b = some (box a s c) ∧ Bx a s c ∧ c + 10 * r < 2 ^ 40 ∧
  ∀ v t a' c' H', TrOk t → (t.size : Int) ≤ r → t.high ≤ n + 1 → Bx a' s c' → c' ≤ c + 10 * r → Ex [b] H H' → H' b = some (box a' s c') → Rp K M H' v t.data → Q v H'
theorem x_wild {K : PySem.W.Frag} {H0 H : Hp} {Ms M0 : List Addr} {L : List (Addr × HO)} {R : List Fa} {b pn : Addr} {ns : List Str} {a s c r m : Int} {n : Nat} {Q : VK} {E : XK} (hw : W K H0 Ms M0 H L R) (i j : Nat) (hL : L[i]? = some (b, box a s c)) (hR : R[j]? = some (.kn pn (.lst (ns.map V.str)))) (hm : m = n)
    (h0 : 0 < ns.length) (h1 : ns.length ≤ 1000) (hns : ∀ x ∈ ns, NameOk x) (hr1 : 1 ≤ r) (hr2 : r ≤ 1000) (bx : Bx a s c) (hc : c + 10 * r < 2 ^ 40)
    (q : ∀ v t a' c' H', TrOk t → (t.size : Int) ≤ r → t.high ≤ n + 1 → Bx a' s c' → c' ≤ c + 10 * r → W K H0 Ms M0 H' (L.set i (b, box a' s c')) (.rp v t.data :: R) → Q v H') : spWild K n [.ref b, .ref pn, .int r, .int m] H Q E := by
  subst hm
  exact ⟨av L M0, b, pn, ns, a, s, c, r, rfl, hr1, hr2, hw.alloc', List.mem_append_left _ (List.mem_map.mpr ⟨_, List.mem_of_getElem? hL, rfl⟩), hw.knA j hR, h0, h1, hns, hw.at i hL, bx, hc, fun v t a' c' H' k1 k2 k3 k4 k5 k6 k7 k8 => q v t a' c' H' k1 k2 k3 k4 k5 (hw.callD i hL k6 k7 k8)⟩
def prevW (K : PySem.W.Frag) : Nat → Sp
  | 0 => fun _ _ _ _ => False
  | m + 1 => spWild K m
section
variable {P : Program} {w : World} {K : PySem.W.Frag} {mg : Str → Option Value} {base : Heap} {f : Addr} {fd : FuncData} {k : Nat} {kws : List (Str × V)}
theorem wild_step (F : FunD K "_law_wild" "_law_wild" (defArgs s_law_wild) (defBody s_law_wild) (defScope s_law_wild) [] kws f fd) (B : BltT mg) (G_law_take : Fq P w K mg base CX0 1 "_law_take" ["_law_box", "_law_many"] spTake) (G_law_one_of : Fq P w K mg base CX0 2 "_law_one_of" ["_law_box", "_law_some"] (spOneOf K))
    (G_law_number : Fq P w K mg base CX0 2 "_law_number" ["_law_box"] spNumber) (n : Nat) (G_law_wild : Fq P w K mg base CX0 (n + 2) "_law_wild" ["_law_box", "_law_names", "_law_room", "_law_deep"] (prevW K n)) : FnG P w K mg base CX0 (n + 3) f fd ["_law_box", "_law_names", "_law_room", "_law_deep"] (spWild K n) := by
  refine okG F sc_law_wild (fun vs H Q E h => ?_) (fun cdv A outer s H0 vs Q E hG hr h => ?_)
  · obtain ⟨M, b, pn, ns, a, s, c, r, rfl, _⟩ := h
    rfl
  obtain ⟨M, b, pn, ns, a, s, c, ro, rfl, ro1, ro2, hM, hbM, hpn, hn0, hn1, hns, hb, bx, hc, q⟩ := h
  have hw : W K H0 [b] M H0 [(b, box a s c)] [.kn pn (.lst (ns.map V.str))] := W.start1 hb hM (fun r z => by rw [List.mem_singleton.mp z]; exact fa_in (r := .kn pn _) hpn hbM)
  refine ⟨_, [some (.ref b), some (.ref pn), some (.int ro), some (.int n), none, none, none, none, none], (pss_cons (ps_par3 (i := 4) (j := 5) (l := 6) rfl sc_law_wild.nd rfl rfl rfl (by decide) (by decide) (by decide) rfl rfl rfl (pa_cons (pe_ifExp (pt_cmpR (op_gt) (pv 3) pe_int (nomark _)) (pe_fq hG G_law_take hr (by first | decide | omega) (by rfl) pass0 (pa_cons (pv 0) (pa_cons pe_int pa_nil))) pe_int) (pa_cons (pe_op op_sub (pv 2) pe_int) (pa_cons (pe_lst pa_nil) pa_nil))) (by rfl))
  (pss_cons (ps_for PassesOwn.never rfl (pi_range1 (by rfl) B.range (pa_cons (pe_callB (call_minU (K := K) rfl) (by rfl) B.min (by decide +kernel) (pa_cons (pv 4) (pa_cons (pv 5) pa_nil))) pa_nil)) (pg_name (i := 7) sc_law_wild.nd rfl (Or.inl rfl)) (pss_cons (ps_set (i := 8) sc_law_wild.nd rfl (Or.inl rfl) (pe_ifExp (pt_cmpR (op_eqU (K := K) hr) (pe_op (op_addU (K := K)) (pv 7) pe_int) (pe_callB (call_minU (K := K) rfl) (by rfl) B.min (by decide +kernel) (pa_cons (pv 4) (pa_cons (pv 5) pa_nil))) (nomark _)) (pv 5) (pe_op (op_addU (K := K)) (pe_fq hG G_law_take hr (by first | decide | omega) (by rfl) pass0 (pa_cons (pv 0) (pa_cons (pv 5) pa_nil))) pe_int)))
  (pss_cons (ps_set (i := 8) sc_law_wild.nd rfl (Or.inl rfl) (pe_callB (call_minU (K := K) rfl) (by rfl) B.min (by decide +kernel) (pa_cons (pv 8) (pa_cons (pe_op op_sub (pv 5) (pe_op op_sub (pe_op op_sub (pe_callB (call_minU (K := K) rfl) (by rfl) B.min (by decide +kernel) (pa_cons (pv 4) (pa_cons (pv 5) pa_nil))) (pv 7)) pe_int)) pa_nil))))
  (pss_cons (ps_expr (Fw.pe_m1 (K := K) PySem.F.plainAttrs_list PySem.F.slot_list_append PySem.F.type_list_append mt_append (pv 6) (pa_cons (pe_fq hG G_law_wild hr (by first | decide | omega) (by rfl) pass0 (pa_cons (pv 0) (pa_cons (pv 1) (pa_cons (pv 8) (pa_cons (pe_op op_sub (pv 3) pe_int) pa_nil))))) pa_nil)))
  (pss_one (ps_set (i := 5) sc_law_wild.nd rfl (Or.inl rfl) (pe_op op_sub (pv 5) (pv 8))))))))
  (pss_one (ps_ret (pe_tup (pa_cons (pe_fq hG G_law_one_of hr (by first | decide | omega) (by rfl) pass0 (pa_cons (pv 0) (pa_cons (pv 1) pa_nil))) (pa_cons (pe_ix (ix_U (K := K)) (pe_lst (pa_cons pe_int (pa_cons pe_int (pa_cons pe_int (pa_cons (pe_fq hG G_law_number hr (by first | decide | omega) (by rfl) pass0 (pa_cons (pv 0) pa_nil)) pa_nil))))) (pe_fq hG G_law_take hr (by first | decide | omega) (by rfl) pass0 (pa_cons (pv 0) (pa_cons pe_int pa_nil))) (fun _ _ => rfl)) (pa_cons (pe_callTy (call_tupleU (K := K)) (by rfl) B.tuple (by decide +kernel) (pa_cons (pv 6) pa_nil)) pa_nil)))))))), rfl, ?_⟩
  refine x_seq (x_par3 (x_cons (x_via (C := fun Q' => ∀ (mn a1 c1 : Int) H', 0 ≤ mn → mn ≤ 2 → (0 < mn → 0 < n) → Bx a1 s c1 → c1 ≤ c + 1 → W K H0 [b] M H' [(b, box a1 s c1)] [.kn pn (.lst (ns.map V.str))] → Q' (.int mn) H') ?_ ?_)))
  · intro Q' k
    walk_at "sx"
    refine x_ifd (fun c1 => ?_) (fun c1 => ?_)
    · walk_at "sx"
      exact k _ _ _ _ hr0 (by omega) (fun _ => by omega) bx (by omega) hw
    · walk_at "sx"
      exact k _ _ _ _ (by decide) (by decide) (fun z => absurd z (by decide)) bx (by omega) hw
  intro mn a c0 H mn0 mn2 hmn bx hc0 hw
  walk_at "sx"
  rename Addr => pp
  refine w_for walk_range (fun i σ H' => ∃ (ts : List Tr) (xs : List V) (left a1 c1 : Int) (y7 y8 : Option V), σ = [some (.ref b), some (.ref pn), some (.int ro), some (.int n), some (.int mn), some (.int left), some (.ref pp), y7, y8] ∧ ts.length = i ∧ xs.length = i ∧ TrsOk ts ∧ highs ts ≤ n ∧ (sizes ts : Int) + left ≤ ro - 1 ∧ min mn (ro - 1) - i ≤ left ∧ 0 ≤ left ∧ Bx a1 s c1 ∧ c1 ≤ c0 + i + 10 * (ro - 1 - left) ∧
    W K H0 [b] M H' [(pp, .lst xs), (b, box a1 s c1)] [.al xs (datas ts), .kn pn (.lst (ns.map V.str))]) ?_ ?_ ?_ ?_
  · exact ⟨[], [], ro - 1, a, c0, _, _, rfl, rfl, rfl, .nil, by simp [highs], by simp [sizes], by omega, by omega, bx, by omega, hw.addA .nil⟩
  · intros
    trivial
  · rintro i x σ H _ hi ⟨ts, xs, left, a1, c1, y7, y8, rfl, hlt, hlx, hok, hhi, hsz, hle, hl0, bx, hc1, hw⟩ ⟨rfl, rfl⟩
    have hi2 : (i : Int) < min mn (ro - 1) := by omega
    have hz : xs.length < sizeLine := sz_lt (by omega)
    cases n with
    | zero => exact absurd (hmn (by omega)) (by decide)
    | succ n =>
    refine x_seq (x_asgG (x_via (C := fun Q' => ∀ (sm a2 c2 : Int) H', 1 ≤ sm → sm ≤ left → Bx a2 s c2 → c2 ≤ c1 + 1 → W K H0 [b] M H' [(pp, .lst xs), (b, box a2 s c2)] [.al xs (datas ts), .kn pn (.lst (ns.map V.str))] → Q' (.int sm) H') ?_ ?_))
    · intro Q' k
      walk_at "sx"
      refine x_ifd (fun c1 => ?_) (fun c1 => ?_)
      · walk_at "sx"
        exact k _ _ _ _ (by omega) (by omega) bx (by omega) hw
      · walk_at "sx"
        exact k _ _ _ _ (by omega) (by omega) bx (by omega) hw
    intro sm a2 c2 H hs1 hs2 bx hc2 hw
    walk_at "sx"
    have hm1 : 1 ≤ min sm (left - (min mn left - (0 + (i : Int)) - 1)) := by omega
    refine x_wild (E := E0) hw 1 1 rfl rfl (by omega) hn0 hn1 hns hm1 (by omega) bx (by omega) fun v t a3 c3 H ht hts hth bx hc3 hw => ?_
    simp only [List.set_cons_zero, List.set_cons_succ] at hw
    replace hw := hw.more
    walk_at "sx"
    refine ⟨ts ++ [t], xs ++ [v], _, a3, c3, _, _, rfl, by simp [hlt], by simp [hlx], hok.append (.cons ht .nil), ?_, ?_, ?_, ?_, bx, ?_, by rw [datas_append]; simp only [datas]; exact hw⟩
    · rw [highs_append]; simp only [highs]; omega
    · rw [sizes_append]; simp only [sizes]; push_cast; omega
    · omega
    · omega
    · omega
  · rintro σ H ⟨ts, xs, left, a1, c1, y7, y8, rfl, hlt, hlx, hok, hhi, hsz, hle, hl0, bx, hc1, hw⟩
    have hlt2 : ts.length ≤ 2 := by omega
    walk_at "sx"
    refine ⟨b, pn, ns.map V.str, a1, s, c1, rfl, hw.at 1 rfl, hw.knNe 1 1 rfl rfl, SqL.of (hw.kn 1 rfl), by rw [List.length_map]; exact hn0, by rw [List.length_map]; omega, bx, by omega, fun v a2 c2 H hv bx hc2 e hb => ?_⟩
    obtain ⟨x, hx, rfl⟩ := List.mem_map.mp hv
    replace hw := hw.call 1 rfl e hb
    simp only [List.set_cons_zero, List.set_cons_succ] at hw
    walk_at "sx"
    refine ⟨b, a2, s, c2, rfl, hw.at 1 rfl, bx, by omega, fun nu a3 c3 H n0 n6 bx hc3 e hb => ?_⟩
    replace hw := hw.call 1 rfl e hb
    simp only [List.set_cons_zero, List.set_cons_succ] at hw
    walk_at "sx"
    refine x_ixAny (SqL.of (hw.at 0 rfl)) hr0 (by exact hr1) fun v hv => ?_
    obtain ⟨o, rfl, ho0, ho6⟩ : ∃ o : Int, v = .int o ∧ 0 ≤ o ∧ o < 1000000 := by
      simp only [List.mem_cons, List.not_mem_nil, or_false] at hv
      rcases hv with rfl | rfl | rfl | rfl
      · exact ⟨0, rfl, by decide, by decide⟩
      · exact ⟨0, rfl, by decide, by decide⟩
      · exact ⟨1, rfl, by decide, by decide⟩
      · exact ⟨nu, rfl, n0, n6⟩
    replace hw := hw.drop1
    walk_at "sx"
    refine w_tupleA hw (hw.at 0 rfl) (hw.all 0 rfl) fun p H hp hw => ?_
    walk_at "sxd"
    refine q _ (.mk x o ts) _ _ _ (.mk (hns x hx) ho0 ho6 hlt2 hok) ?_ ?_ bx ?_ hw.ex (hw.at 1 rfl) ((hw.rp 0 rfl).less fun x hx => List.mem_append_right _ hx)
    · simp only [Tr.size]; push_cast; omega
    · simp only [Tr.high]; omega
    · omega
theorem wild_fn (F : FunD K "_law_wild" "_law_wild" (defArgs s_law_wild) (defBody s_law_wild) (defScope s_law_wild) [] kws f fd) (B : BltT mg) (gm : mg "_law_wild" = some (.ref f)) (G_law_take : Fq P w K mg base CX0 1 "_law_take" ["_law_box", "_law_many"] spTake) (G_law_one_of : Fq P w K mg base CX0 2 "_law_one_of" ["_law_box", "_law_some"] (spOneOf K))
    (G_law_number : Fq P w K mg base CX0 2 "_law_number" ["_law_box"] spNumber) : ∀ n, FnG P w K mg base CX0 (n + 3) f fd ["_law_box", "_law_names", "_law_room", "_law_deep"] (spWild K n)
  | 0 => wild_step F B G_law_take G_law_one_of G_law_number 0 (mkFq F gm (fun _ _ _ _ _ _ us hl => match us, hl with | [_, _, _, _], _ => rfl) ⟨fun _ _ _ _ z => z.elim, fun _ _ _ _ _ _ _ _ _ _ _ _ _ _ z => z.elim⟩)
  | n + 1 => wild_step F B G_law_take G_law_one_of G_law_number (n + 1) (mkFq F gm (fun _ _ _ _ _ _ us hl => match us, hl with | [_, _, _, _], _ => rfl) (wild_fn F B gm G_law_take G_law_one_of G_law_number n))
end
end Law
namespace Law
open PySem PySem.Spec PyProof.Rows L2 Fw
structure BltX (mg : Str → Option Value) : Prop extends BltD mg where
  isinstance : mg "isinstance" = none
  str : mg "str" = none
  bool : mg "bool" = none
  zip : mg "zip" = none
  repr : mg "repr" = none
  reversed : mg "reversed" = none
abbrev s_law_same : Stmt := topS 33
theorem sc_law_same : FnScope ["_law_found", "_law_due", "_law_one", "_law_other"] ["_law_found", "_law_due"] (defScope s_law_same) := ⟨rfl, rfl, rfl, by decide +kernel, rfl, by decide +kernel, by decide +kernel⟩

def flatD : PyData → Bool
  | .none => true
  | .bool _ => true
  | .int _ => true
  | .str _ => true
  | _ => false
def pl : Nat → PyData → Bool
  | n + 1, .list ds => decide (ds.length ≤ 1000) && ds.all (pl n)
  | n + 1, .tuple ds => decide (ds.length ≤ 1000) && ds.all (pl n)
  | _, d => flatD d
def spSame (K : PySem.W.Frag) (n : Nat) : Sp := fun vs H Q _ => ∃ (v u : V) (d : PyData), vs = [v, u] ∧ Dd K H v d ∧ Dd K H u d ∧ pl n d = true ∧ ∀ H', Ex [] H H' → Q (.bl true) H'
def prevQ (K : PySem.W.Frag) : Nat → Sp
  | 0 => fun _ _ _ _ => False
  | m + 1 => spSame K m
theorem flat_pl : ∀ {n : Nat} {d : PyData}, flatD d = true → pl n d = true
  | 0, d, h => by unfold pl; exact h
  | n + 1, .none, _ => rfl
  | n + 1, .bool _, _ => rfl
  | n + 1, .int _, _ => rfl
  | n + 1, .str _, _ => rfl
theorem pl_up : ∀ {n : Nat} {d : PyData}, pl n d = true → pl (n + 1) d = true
  | 0, d, h => by unfold pl at h; exact flat_pl h
  | n + 1, .none, _ => rfl
  | n + 1, .bool _, _ => rfl
  | n + 1, .int _, _ => rfl
  | n + 1, .str _, _ => rfl
  | n + 1, .dict _, h => by simp [pl, flatD] at h
  | n + 1, .list ds, h => by
    simp only [pl, Bool.and_eq_true, decide_eq_true_eq, List.all_eq_true] at h ⊢
    exact ⟨h.1, fun d hd => pl_up (h.2 d hd)⟩
  | n + 1, .tuple ds, h => by
    simp only [pl, Bool.and_eq_true, decide_eq_true_eq, List.all_eq_true] at h ⊢
    exact ⟨h.1, fun d hd => pl_up (h.2 d hd)⟩
section
variable {P : Program} {w : World} {K : PySem.W.Frag} {mg : Str → Option Value} {base : Heap} {f : Addr} {fd : FuncData} {k : Nat} {kws : List (Str × V)}
theorem same_step (F : FunD K "_law_same" "_law_same" (defArgs s_law_same) (defBody s_law_same) (defScope s_law_same) [] kws f fd) (B : BltX mg) (n : Nat) (hn : n ≤ 140) (G_law_same : Fq P w K mg base CX0 n "_law_same" ["_law_found", "_law_due"] (prevQ K n)) : FnG P w K mg base CX0 (n + 1) f fd ["_law_found", "_law_due"] (spSame K n) := by
  refine okG F sc_law_same (fun vs H Q E h => ?_) (fun cdv A outer s H0 vs Q E hG hr h => ?_)
  · obtain ⟨v, u, d, rfl, _⟩ := h
    rfl
  obtain ⟨v, u, d, rfl, hv, hu, hpl, q⟩ := h
  have hw : W K H0 [] [] H0 [] [.rp v d, .rp u d] := W.start0 (fun _ z => nomatch z) (fun r z => by
    rw [del_nil]
    rcases List.mem_cons.mp z with rfl | z
    · exact hv
    · rw [List.mem_singleton.mp z]; exact hu)
  refine ⟨_, [some v, some u, none, none], (pss_cons (ps_if (pt_val (pe_callB (call_isiU (K := K)) (by rfl) B.isinstance (by decide +kernel) (pa_cons (pv 1) (pa_cons (pe_tup (pa_cons (pe_bltn (v := .ty "list") (by rfl) B.list (by decide +kernel) rfl) (pa_cons (pe_bltn (v := .ty "tuple") (by rfl) B.tuple (by decide +kernel) rfl) pa_nil))) pa_nil)))) (pss_cons (ps_if (PW.pt (pw_or (pt_cmpR (op_neU (K := K) hr) (pe_callB (call_isiU (K := K)) (by rfl) B.isinstance (by decide +kernel) (pa_cons (pv 0) (pa_cons (pe_bltn (v := .ty "list") (by rfl) B.list (by decide +kernel) rfl) pa_nil))) (pe_callB (call_isiU (K := K)) (by rfl) B.isinstance (by decide +kernel) (pa_cons (pv 1) (pa_cons (pe_bltn (v := .ty "list") (by rfl) B.list (by decide +kernel) rfl) pa_nil))) (nomark _)) (pw_or1 (pt_cmpR (op_neU (K := K) hr) (pe_callB (call_isiU (K := K)) (by rfl) B.isinstance (by decide +kernel) (pa_cons (pv 0) (pa_cons (pe_bltn (v := .ty "tuple") (by rfl) B.tuple (by decide +kernel) rfl) pa_nil))) (pe_callB (call_isiU (K := K)) (by rfl) B.isinstance (by decide +kernel) (pa_cons (pv 1) (pa_cons (pe_bltn (v := .ty "tuple") (by rfl) B.tuple (by decide +kernel) rfl) pa_nil))) (nomark _))))) (pss_one (ps_ret pe_bl)) pss_nil)
  (pss_one (ps_ret (pe_and (pe_cmpR (op_eqU (K := K) hr) (pe_callB (call_lenU (K := K)) (by rfl) B.len (by decide +kernel) (pa_cons (pv 0) pa_nil)) (pe_callB (call_lenU (K := K)) (by rfl) B.len (by decide +kernel) (pa_cons (pv 1) pa_nil)) (nomark _)) (pe_one (pe_callB (call_allU (K := K) rfl) (by rfl) B.all (by decide +kernel) (pa_cons (pe_lc (own := [("_law_one", 2), ("_law_other", 3)]) rfl sc_law_same.nd (RZ.pi_zipA (by rfl) B.zip (pa_cons (pv 0) (pa_cons (pv 1) pa_nil))) (blkOk_by (own := [("_law_one", 2), ("_law_other", 3)]) (N := ["_law_found", "_law_due", "_law_one", "_law_other"]) (sc := defScope s_law_same) (by decide +kernel)) (fun _ _ _ _ _ => (pg_T (K := K) (n := 2) rfl (pgs_cons (pg_name (i := 2) sc_law_same.nd rfl (Or.inl rfl)) (pgs_cons (pg_name (i := 3) sc_law_same.nd rfl (Or.inl rfl)) pgs_nil)))) (fun _ _ _ _ _ => pts_nil) (fun _ _ _ _ _ => (pe_fq hG G_law_same hr (by first | decide | omega) (by rfl) pass0 (pa_cons (pv 2) (pa_cons (pv 3) pa_nil))))) pa_nil))))))) pss_nil)
  (pss_cons (ps_if (PW.pt (pw_or (pt_cmpR (op_isU) (pv 1) pe_non (nomark _)) (pw_or1 (pt_cmpR (op_isU) (pv 0) pe_non (nomark _))))) (pss_one (ps_ret (pe_and (pe_cmpR (op_isU) (pv 1) pe_non (nomark _)) (pe_one (pe_cmpR (op_isU) (pv 0) pe_non (nomark _)))))) pss_nil)
  (pss_cons (ps_if (PW.pt (pw_or (pt_val (pe_callB (call_isiU (K := K)) (by rfl) B.isinstance (by decide +kernel) (pa_cons (pv 1) (pa_cons (pe_bltn (v := .ty "bool") (by rfl) B.bool (by decide +kernel) rfl) pa_nil)))) (pw_or1 (pt_val (pe_callB (call_isiU (K := K)) (by rfl) B.isinstance (by decide +kernel) (pa_cons (pv 1) (pa_cons (pe_bltn (v := .ty "str") (by rfl) B.str (by decide +kernel) rfl) pa_nil))))))) (pss_one (ps_ret (pe_and (pe_cmpR (op_eqU (K := K) hr) (pe_callB (call_isiU (K := K)) (by rfl) B.isinstance (by decide +kernel) (pa_cons (pv 0) (pa_cons (pe_bltn (v := .ty "bool") (by rfl) B.bool (by decide +kernel) rfl) pa_nil))) (pe_callB (call_isiU (K := K)) (by rfl) B.isinstance (by decide +kernel) (pa_cons (pv 1) (pa_cons (pe_bltn (v := .ty "bool") (by rfl) B.bool (by decide +kernel) rfl) pa_nil))) (nomark _)) (pe_one (pe_cmpR (op_eqU (K := K) hr) (pv 0) (pv 1) (nomark _)))))) pss_nil)
  (pss_one (ps_ret (pe_and (pe_callB (call_isiU (K := K)) (by rfl) B.isinstance (by decide +kernel) (pa_cons (pv 0) (pa_cons (pe_bltn (v := .ty "int") (by rfl) B.int' (by decide +kernel) rfl) pa_nil))) (pe_and (pe_not (pe_callB (call_isiU (K := K)) (by rfl) B.isinstance (by decide +kernel) (pa_cons (pv 0) (pa_cons (pe_bltn (v := .ty "bool") (by rfl) B.bool (by decide +kernel) rfl) pa_nil)))) (pe_one (pe_cmpR (op_eqU (K := K) hr) (pv 0) (pv 1) (nomark _)))))))))), rfl, ?_⟩
  walk_at "sx"
  cases hv with
  | non =>
    cases hu
    refine x_isiDT (b := false) (Rp.dd (hw.rp 1 rfl)) (hw.at 0 rfl) (.cons (.ty _) (.cons (.ty _) .nil)) (by rfl) ?_
    walk_at "sx"
    exact q _ hw.ex
  | bl x =>
    cases hu
    refine x_isiDT (b := false) (Rp.dd (hw.rp 1 rfl)) (hw.at 0 rfl) (.cons (.ty _) (.cons (.ty _) .nil)) (by rfl) ?_
    walk_at "sx"
    exact q _ hw.ex
  | int x =>
    cases hu
    refine x_isiDT (b := false) (Rp.dd (hw.rp 1 rfl)) (hw.at 0 rfl) (.cons (.ty _) (.cons (.ty _) .nil)) (by rfl) ?_
    walk_at "sx"
    exact q _ hw.ex
  | str x =>
    cases hu
    refine x_isiDT (b := false) (Rp.dd (hw.rp 1 rfl)) (hw.at 0 rfl) (.cons (.ty _) (.cons (.ty _) .nil)) (by rfl) ?_
    walk_at "sx"
    exact q _ hw.ex
  | lst ha hxs =>
    cases hu with
    | lst hb hys =>
    rename_i a xs ds b ys _
    have hsx : SqL K H0 a xs := SqL.of ha
    have hsy : SqL K H0 b ys := SqL.of hb
    have lx := hxs.length
    have ly := hys.length
    cases n with
    | zero => exact absurd hpl (by simp [pl, flatD])
    | succ n =>
    simp only [pl, Bool.and_eq_true, decide_eq_true_eq, List.all_eq_true] at hpl
    obtain ⟨hlen, hall⟩ := hpl
    refine x_isiDT (b := true) (Rp.dd (hw.rp 1 rfl)) (hw.at 0 rfl) (.cons (.ty _) (.cons (.ty _) .nil)) (by rfl) ?_
    walk_at "sx"
    refine x_isiD (Rp.dd (hw.rp 0 rfl)) (b := true) (by show kitB "list" "list" = _; decide +kernel) ?_
    walk_at "sx"
    refine x_isiD (Rp.dd (hw.rp 1 rfl)) (b := true) (by show kitB "list" "list" = _; decide +kernel) ?_
    walk_at "sx"
    refine x_isiD (Rp.dd (hw.rp 0 rfl)) (b := false) (by show kitB "list" "tuple" = _; decide +kernel) ?_
    walk_at "sx"
    refine x_isiD (Rp.dd (hw.rp 1 rfl)) (b := false) (by show kitB "list" "tuple" = _; decide +kernel) ?_
    walk_at "sx"
    refine x_iZipA ?_
    walk_at "sx"
    refine ⟨a, b, xs, ys, rfl, .inl ⟨hw.ex.ext.sqL hsx, hw.ex.ext.sqL hsy, ?_⟩⟩
    refine w_lcK hw (walk_zip (n := xs.length) (xs := xs) (ys := ys) (by omega)) (fun D i H' => W K H0 [] [] H' [(D, .lst (List.replicate i (.bl true)))] []) ?_ ?_ ?_ ?_
    · intro D H _ hw
      exact (hw.cells [0] rfl (by simp)).pick [] rfl
    · intro D i H _ hw
      exact ⟨hw.ex.ext.sqL hsx, hw.ex.ext.sqL hsy⟩
    · rintro D i x H _ hi hw ⟨T1, x, y, rfl, hT, rfl, e1, e2⟩
      replace hw := hw.pure (Ex.new (o := .tup [x, y]) hT)
      have hTT : SqT K (upd H T1 (.tup [x, y])) T1 [x, y] := .inl (.inl upd_same)
      obtain ⟨d, hd, hx⟩ := DdAll.item (DdAll.ext hw.ex.ext hxs) e1
      obtain ⟨d', hd', hy⟩ := DdAll.item (DdAll.ext hw.ex.ext hys) e2
      cases hd.symm.trans hd'
      have hz : (List.replicate i (V.bl true)).length < sizeLine := sz_lt (by simp; omega)
      walk_at "sx"
      refine ⟨x, y, d, rfl, hx, hy, hall d (List.mem_of_getElem? hd), fun H e => ?_⟩
      replace hw := hw.pure e
      walk_at "sx"
      rw [List.replicate_succ']
      exact hw
    intro D H hw
    walk_at "sx"
    refine x_allT (hw.at 0 rfl) ?_
    walk_at "sx"
    exact q _ hw.ex
  | tup ha hxs =>
    cases hu with
    | tup hb hys =>
    rename_i a xs ds b ys _
    have hsx : SqT K H0 a xs := ha
    have hsy : SqT K H0 b ys := hb
    have lx := hxs.length
    have ly := hys.length
    cases n with
    | zero => exact absurd hpl (by simp [pl, flatD])
    | succ n =>
    simp only [pl, Bool.and_eq_true, decide_eq_true_eq, List.all_eq_true] at hpl
    obtain ⟨hlen, hall⟩ := hpl
    refine x_isiDT (b := true) (Rp.dd (hw.rp 1 rfl)) (hw.at 0 rfl) (.cons (.ty _) (.cons (.ty _) .nil)) (by rfl) ?_
    walk_at "sx"
    refine x_isiD (Rp.dd (hw.rp 0 rfl)) (b := false) (by show kitB "tuple" "list" = _; decide +kernel) ?_
    walk_at "sx"
    refine x_isiD (Rp.dd (hw.rp 1 rfl)) (b := false) (by show kitB "tuple" "list" = _; decide +kernel) ?_
    walk_at "sx"
    refine x_isiD (Rp.dd (hw.rp 0 rfl)) (b := true) (by show kitB "tuple" "tuple" = _; decide +kernel) ?_
    walk_at "sx"
    refine x_isiD (Rp.dd (hw.rp 1 rfl)) (b := true) (by show kitB "tuple" "tuple" = _; decide +kernel) ?_
    walk_at "sx"
    refine x_lenT (hw.ex.ext.sqT hsx) ?_
    walk_at "sx"
    refine x_lenT (hw.ex.ext.sqT hsy) ?_
    walk_at "sx"
    refine x_iZipA ?_
    walk_at "sx"
    refine ⟨a, b, xs, ys, rfl, .inr ⟨hw.ex.ext.sqT hsx, hw.ex.ext.sqT hsy, ?_⟩⟩
    refine w_lcK hw (walk_zipT (n := xs.length) (xs := xs) (ys := ys) (by omega)) (fun D i H' => W K H0 [] [] H' [(D, .lst (List.replicate i (.bl true)))] []) ?_ ?_ ?_ ?_
    · intro D H _ hw
      exact (hw.cells [0] rfl (by simp)).pick [] rfl
    · intro D i H _ hw
      exact ⟨hw.ex.ext.sqT hsx, hw.ex.ext.sqT hsy⟩
    · rintro D i x H _ hi hw ⟨T1, x, y, rfl, hT, rfl, e1, e2⟩
      replace hw := hw.pure (Ex.new (o := .tup [x, y]) hT)
      have hTT : SqT K (upd H T1 (.tup [x, y])) T1 [x, y] := .inl (.inl upd_same)
      obtain ⟨d, hd, hx⟩ := DdAll.item (DdAll.ext hw.ex.ext hxs) e1
      obtain ⟨d', hd', hy⟩ := DdAll.item (DdAll.ext hw.ex.ext hys) e2
      cases hd.symm.trans hd'
      have hz : (List.replicate i (V.bl true)).length < sizeLine := sz_lt (by simp; omega)
      walk_at "sx"
      refine ⟨x, y, d, rfl, hx, hy, hall d (List.mem_of_getElem? hd), fun H e => ?_⟩
      replace hw := hw.pure e
      walk_at "sx"
      rw [List.replicate_succ']
      exact hw
    intro D H hw
    walk_at "sx"
    refine x_allT (hw.at 0 rfl) ?_
    walk_at "sx"
    exact q _ hw.ex
theorem same_fn (F : FunD K "_law_same" "_law_same" (defArgs s_law_same) (defBody s_law_same) (defScope s_law_same) [] kws f fd) (B : BltX mg) (gm : mg "_law_same" = some (.ref f)) : ∀ n, n ≤ 140 → FnG P w K mg base CX0 (n + 1) f fd ["_law_found", "_law_due"] (spSame K n)
  | 0, h => same_step F B 0 h (mkFq F gm (fun _ _ _ _ _ _ us hl => match us, hl with | [_, _], _ => rfl) ⟨fun _ _ _ _ z => z.elim, fun _ _ _ _ _ _ _ _ _ _ _ _ _ _ z => z.elim⟩)
  | n + 1, h => same_step F B (n + 1) h (mkFq F gm (fun _ _ _ _ _ _ us hl => match us, hl with | [_, _], _ => rfl) (same_fn F B gm n (by omega)))
end
end Law
namespace Law
open PySem PySem.Spec PyProof.Rows L2 Fw
abbrev s_law_spelled : Stmt := topS 35
theorem sc_law_spelled : FnScope ["_law_tree", "_law_found", "_law_part"] ["_law_tree"] (defScope s_law_spelled) := ⟨rfl, rfl, rfl, by decide +kernel, rfl, by decide +kernel, by decide +kernel⟩

def spSpelled (K : PySem.W.Frag) (n : Nat) : Sp := fun vs H Q _ => ∃ (v : V) (t : Tr), vs = [v] ∧ Dd K H v t.data ∧ TrOk t ∧ t.high ≤ n ∧ t.size ≤ 3000 ∧ ∀ H', Ex [] H H' → Q (.str t.text) H'
def prevS (K : PySem.W.Frag) : Nat → Sp
  | 0 => fun _ _ _ _ => False
  | m + 1 => spSpelled K m
theorem eqv_nil (ps : List Tr) : (!PyData.eqv (.tuple (datas ps)) (.tuple [])) = decide (ps ≠ []) := by
  cases ps with
  | nil => simp [datas, PyData.eqv, PyData.eqvAll]
  | cons t r => simp [datas, PyData.eqv, PyData.eqvAll]
section
variable {P : Program} {w : World} {K : PySem.W.Frag} {mg : Str → Option Value} {base : Heap} {f : Addr} {fd : FuncData} {k : Nat} {kws : List (Str × V)}
theorem spelled_step (F : FunD K "_law_spelled" "_law_spelled" (defArgs s_law_spelled) (defBody s_law_spelled) (defScope s_law_spelled) [] kws f fd) (B : BltX mg) (n : Nat) (hn : n ≤ 32) (G_law_spelled : Fq P w K mg base CX0 n "_law_spelled" ["_law_tree"] (prevS K n)) : FnG P w K mg base CX0 (n + 1) f fd ["_law_tree"] (spSpelled K n) := by
  refine okG F sc_law_spelled (fun vs H Q E h => ?_) (fun cdv A outer s H0 vs Q E hG hr h => ?_)
  · obtain ⟨v, t, rfl, _⟩ := h
    rfl
  obtain ⟨v, t, rfl, hd, hok, hh, hs, q⟩ := h
  have hw : W K H0 [] [] H0 [] [.rp v t.data] := W.start0 (fun _ z => nomatch z) (fun r z => by rw [List.mem_singleton.mp z]; rw [del_nil]; exact hd)
  obtain ⟨nm, o, ps⟩ := t
  obtain ⟨hnm, ho0, ho6, hp2, hps⟩ := hok.parts
  have hll := text_len hok
  have hlp := texts_len hps
  obtain ⟨a, pt, rfl, hw⟩ := hw.tree 0 rfl
  have hl6 := hnm.l6
  have hno := num_len ho0 ho6
  have e1 : (Str.ofString ":").length = 1 := by decide
  have e2 : (Str.ofString "(").length = 1 := by decide
  have e3 : (Str.ofString ")").length = 1 := by decide
  have e4 : (Str.ofString ",").length = 1 := by decide
  simp only [Tr.size, Tr.high] at hs hh hll
  refine ⟨_, [some (.ref a), none, none], (pss_cons (ps_set (i := 1) sc_law_spelled.nd rfl (Or.inl rfl) (pe_op (op_addU (K := K)) (pe_ix (ix_U (K := K)) (pv 0) pe_int (fun _ _ => rfl)) (pe_op op_mulS (pe_op (op_addU (K := K)) pe_str (pe_callTy call_str_int (by rfl) B.str (by decide +kernel) (pa_cons (pe_ix (ix_U (K := K)) (pv 0) pe_int (fun _ _ => rfl)) pa_nil))) (pe_callTy call_intU (by rfl) B.int' (by decide +kernel) (pa_cons (pe_cmpR (op_gt) (pe_ix (ix_U (K := K)) (pv 0) pe_int (fun _ _ => rfl)) pe_int (nomark _)) pa_nil)))))
  (pss_one (ps_ret (pe_op (op_addU (K := K)) (pv 1) (pe_op op_mulS (pe_op (op_addU (K := K)) (pe_op (op_addU (K := K)) pe_str (Fw.pe_m1 (K := K) PySem.F.plainAttrs_str PySem.F.slot_str_join PySem.F.type_str_join mt_join pe_str (pa_cons (pe_lc (own := [("_law_part", 2)]) rfl sc_law_spelled.nd (pi_U (K := K) (pe_ix (ix_U (K := K)) (pv 0) pe_int (fun _ _ => rfl))) (blkOk_by (own := [("_law_part", 2)]) (N := ["_law_tree", "_law_found", "_law_part"]) (sc := defScope s_law_spelled) (by decide +kernel)) (fun _ _ _ _ _ => (pg_name (i := 2) sc_law_spelled.nd rfl (Or.inl rfl))) (fun _ _ _ _ _ => pts_nil) (fun _ _ _ _ _ => (pe_fq hG G_law_spelled hr (by first | decide | omega) (by rfl) pass0 (pa_cons (pv 2) pa_nil)))) pa_nil))) pe_str) (pe_callTy call_intU (by rfl) B.int' (by decide +kernel) (pa_cons (pe_cmpR (op_neU (K := K) hr) (pe_ix (ix_U (K := K)) (pv 0) pe_int (fun _ _ => rfl)) (pe_tup pa_nil) (nomark _)) pa_nil))))))), rfl, ?_⟩
  walk_at "sx"
  refine ⟨o, rfl, log_of (by omega), ?_⟩
  walk_at "sx"
  refine x_addS (by rw [sizeLine_eq]; omega) ?_
  walk_at "sx"
  refine x_mulB (by rw [strLen_append]; omega) ?_
  walk_at "sx"
  have hm1 : (Txt.mul (":" ++ Str.ofString (toString o)) (if decide (0 < o) = true then 1 else 0)).length ≤ 8 := by
    split
    · rw [mul1, strLen_append]; omega
    · rw [mul0]; show 0 ≤ _; omega
  refine x_addS (by rw [sizeLine_eq]; omega) ?_
  walk_at "sx"
  obtain ⟨xs, hxs, hw⟩ := hw.openT (hw.rp 1 rfl)
  replace hw := hw.addA hxs
  have hlx : xs.length = ps.length := by rw [hxs.length, datas_length]
  walk_at "sx"
  refine w_lcK hw (walk_tup (xs := xs)) (fun D i H' => W K H0 [] [] H' [(D, .lst ((texts (ps.take i)).map V.str))] [.al xs (datas ps), .tp pt xs, .tp a [.str nm, .int o, .ref pt], .rp (.ref pt) (.tuple (datas ps))]) ?_ ?_ ?_ ?_
  · intro D H _ hw
    exact hw.pick [0, 1, 2, 3] rfl
  · intro D i H _ hw
    exact hw.tp 1 rfl
  · rintro D i x H _ hi hw ⟨rfl, hx⟩
    obtain ⟨d, hd, hrp⟩ := DdAll.item (hw.all 0 rfl) hx
    obtain ⟨u, hu, rfl⟩ := datas_get hd
    have hum := List.mem_of_getElem? hu
    have hz : ((texts (ps.take i)).map V.str).length < sizeLine := sz_lt (by rw [List.length_map, texts_map, List.length_map, List.length_take]; omega)
    have e5 := texts_take hu
    cases n with
    | zero => omega
    | succ n =>
    walk_at "sx"
    refine ⟨x, u, rfl, Rp.dd hrp, hps.mem u hum, ?_, ?_, fun H e => ?_⟩
    · have := highs_mem u hum
      omega
    · have := sizes_mem u hum
      omega
    replace hw := hw.pure e
    walk_at "sx"
    rw [e5, List.map_append]
    exact hw
  intro D H hw
  rw [List.take_of_length_le (Nat.le_of_eq hlx.symm)] at hw
  walk_at "sx"
  refine ⟨_, D, texts ps, rfl, rfl, .inl (SqL.of (hw.at 0 rfl)), by rw [e4, texts_map, List.length_map, ← texts_map]; omega, ?_⟩
  have hj : (Txt.join "," (texts ps)).length ≤ 20 * sizes ps + 2 := by
    have e : (Txt.join "," (texts ps)).length = ((texts ps).map (·.length)).sum + ((texts ps).length - 1) * 1 := by
      have := size_glued "," (texts ps)
      rw [e4] at this
      exact this
    have hl : (texts ps).length = ps.length := by rw [texts_map, List.length_map]
    omega
  walk_at "sx"
  refine x_addS (by rw [sizeLine_eq]; omega) ?_
  walk_at "sx"
  refine x_addS (by rw [strLen_append, sizeLine_eq]; omega) ?_
  walk_at "sxd"
  refine x_neD (hw.rp 4 rfl).dp (hw.rp 0 rfl).dp (parts_shaped hps (by omega)) (by decide +kernel) ?_
  rw [eqv_nil]
  walk_at "sx"
  refine x_mulB (by rw [strLen_append, strLen_append]; omega) ?_
  walk_at "sx"
  have hm2 : (Txt.mul (("(" ++ Txt.join "," (texts ps)) ++ ")") (if decide (ps ≠ []) = true then 1 else 0)).length ≤ 20 * sizes ps + 4 := by
    split
    · rw [mul1, strLen_append, strLen_append]; omega
    · rw [mul0]; show 0 ≤ _; omega
  refine x_addS (by rw [strLen_append, sizeLine_eq]; omega) ?_
  have q' := q _ hw.ex
  simp only [Tr.text] at q'
  exact q'
theorem spelled_fn (F : FunD K "_law_spelled" "_law_spelled" (defArgs s_law_spelled) (defBody s_law_spelled) (defScope s_law_spelled) [] kws f fd) (B : BltX mg) (gm : mg "_law_spelled" = some (.ref f)) : ∀ n, n ≤ 32 → FnG P w K mg base CX0 (n + 1) f fd ["_law_tree"] (spSpelled K n)
  | 0, h => spelled_step F B 0 h (mkFq F gm (fun _ _ _ _ _ _ us hl => match us, hl with | [_], _ => rfl) ⟨fun _ _ _ _ z => z.elim, fun _ _ _ _ _ _ _ _ _ _ _ _ _ _ z => z.elim⟩)
  | n + 1, h => spelled_step F B (n + 1) h (mkFq F gm (fun _ _ _ _ _ _ us hl => match us, hl with | [_], _ => rfl) (spelled_fn F B gm n (by omega)))
end
end Law
namespace Law
open PySem PySem.Spec PyProof.Rows L2 Fw
/-! ### the law's own going, sign by sign -/
abbrev sg (c : Nat) : Str := ⟨#[c]⟩
def isL (c : Nat) : Bool := decide (97 ≤ c) && decide (c ≤ 122)
def isD (c : Nat) : Bool := decide (48 ≤ c) && decide (c ≤ 57)
def digOk (fig : Option Str) (c : Nat) : Bool := match fig with
  | none => false
  | some f => isD c && (decide (f.length < 6) && !decide (f ++ sg c = "0"))
def noWord (w : Str) (ended : Bool) : Bool := (decide (w = "") || decide (w = "own")) && !ended
def run : List Nat → Str → Option Str → Bool → List Int → Nat → Option Nat
  | [], w, fig, ended, op, i => if noWord w ended = true then some i else if fig = some (Str.ofString "") then some i else if op = [] then none else some i
  | c :: r, w, fig, ended, op, i =>
    if (isL c && (fig.isNone && (!ended && decide (w.length < 6)))) = true then run r (w ++ sg c) fig ended op (i + 1)
    else if noWord w ended = true then some i
    else if (decide (c = 58) && (fig.isNone && !ended)) = true then run r w (some (Str.ofString "")) ended op (i + 1)
    else if digOk fig c = true then run r w (some (fig.getD (Str.ofString "") ++ sg c)) ended op (i + 1)
    else if fig = some (Str.ofString "") then some i
    else if (decide (c = 40) && (!ended && decide (op.length < 30))) = true then run r "" none false (1 :: op) (i + 1)
    else if (decide (c = 44) && decide (op.head? = some 1)) = true then run r "" none false (2 :: op.tail) (i + 1)
    else if (decide (c = 41) && decide (op ≠ [])) = true then run r "x" none true op.tail (i + 1)
    else some i
def bad (z : Str) : Option Nat := run (cd z) "" none false [] 0
def figV : Option Str → V
  | none => .non
  | some f => .str f
def badV : Option Nat → V
  | none => .non
  | some k => .int k
end Law
namespace Law
open PySem PySem.Spec PyProof.Rows L2 Fw
/-! ### the going, token by token -/
abbrev st (l : List Nat) : Str := ⟨l.toArray⟩
theorem st_app (l m : List Nat) : st (l ++ m) = st l ++ st m := str_ext (by rw [show (st l ++ st m).cps.toList = cd (st l) ++ cd (st m) from cd_app _ _])
theorem app_sg (w : Str) (c : Nat) (l : List Nat) : w ++ sg c ++ st l = w ++ st (c :: l) := str_ext (by
  show cd _ = cd _
  rw [cd_app, cd_app, cd_app, List.append_assoc]
  rfl)
theorem app_nil (w : Str) : w ++ st [] = w := str_ext (by show cd _ = _; rw [cd_app]; simp)
theorem nil_app (w : Str) : Str.ofString "" ++ w = w := str_ext (by show cd _ = _; rw [cd_app]; show [] ++ _ = _; simp)
/-- behind a node that is whole -/
def brk : List Nat → List Int → Nat → Option Nat
  | [], op, i => if op = [] then none else some i
  | c :: r, op, i => if (decide (c = 44) && decide (op.head? = some 1)) = true then run r "" none false (2 :: op.tail) (i + 1) else if (decide (c = 41) && decide (op ≠ [])) = true then run r "x" none true op.tail (i + 1) else some i
theorem run_ended (T : List Nat) (op : List Int) (i : Nat) : run T "x" none true op i = brk T op i := by
  cases T with
  | nil =>
    rw [run, brk, if_neg (by unfold noWord; simp), if_neg (by simp)]
  | cons c r =>
    rw [run, brk]
    rw [if_neg (by simp), if_neg (by unfold noWord; simp), if_neg (by simp), if_neg (by simp [digOk]), if_neg (by simp), if_neg (by simp)]
theorem run_letters : ∀ (l rest : List Nat) (w : Str) (op : List Int) (i : Nat), (∀ c ∈ l, isL c = true) → w.length + l.length ≤ 6 → run (l ++ rest) w none false op i = run rest (w ++ st l) none false op (i + l.length)
  | [], rest, w, op, i, _, _ => by rw [app_nil]; rfl
  | c :: l, rest, w, op, i, h, h6 => by
    rw [List.cons_append, run, if_pos (by
      rw [h c (List.mem_cons_self ..)]
      simp only [Option.isNone_none, Bool.not_false, Bool.true_and, decide_eq_true_eq]
      rw [List.length_cons] at h6
      omega)]
    rw [run_letters l rest (w ++ sg c) op (i + 1) (fun d hd => h d (List.mem_cons_of_mem _ hd)) (by rw [strLen_append]; rw [List.length_cons] at h6; show _ + 1 + _ ≤ _; omega), app_sg, List.length_cons]
    congr 1
    omega
/-- nothing more belongs to the word -/
def stopL (w : Str) (T : List Nat) : Prop := w.length = 6 ∨ ∀ c r, T = c :: r → isL c = false
def stopD (f : Str) (T : List Nat) : Prop := f.length = 6 ∨ ∀ c r, T = c :: r → isD c = false
theorem no_letter {w : Str} {c : Nat} {r : List Nat} (h : stopL w (c :: r)) (fig : Option Str) (e : Bool) : ¬ (isL c && (fig.isNone && (!e && decide (w.length < 6)))) = true := by
  rcases h with h | h
  · rw [h]; simp
  · rw [h c r rfl]; simp
theorem run_noWord {w : Str} {T : List Nat} (h : stopL w T) (hw : noWord w false = true) (op : List Int) (i : Nat) : run T w none false op i = some i := by
  cases T with
  | nil => rw [run, if_pos hw]
  | cons c r => rw [run, if_neg (no_letter h none false), if_pos hw]
theorem run_colon {w : Str} {r : List Nat} (hw : noWord w false = false) (op : List Int) (i : Nat) : run (58 :: r) w none false op i = run r w (some (Str.ofString "")) false op (i + 1) := by
  rw [run, if_neg (by simp [isL]), if_neg (by rw [hw]; simp), if_pos (by simp)]
theorem run_digits : ∀ (l rest : List Nat) (w f : Str) (op : List Int) (i : Nat), noWord w false = false → (∀ c ∈ l, isD c = true) → f.length + l.length ≤ 6 → (f.length = 0 → l.head? ≠ some 48) → run (l ++ rest) w (some f) false op i = run rest w (some (f ++ st l)) false op (i + l.length)
  | [], rest, w, f, op, i, _, _, _, _ => by rw [app_nil]; rfl
  | c :: l, rest, w, f, op, i, hw, h, h6, h0 => by
    have hc := h c (List.mem_cons_self ..)
    have hc' : 48 ≤ c ∧ c ≤ 57 := by simpa [isD] using hc
    have hL : isL c = false := by unfold isL; rw [decide_eq_false (by omega)]; rfl
    have hz : decide (f ++ sg c = Str.ofString "0") = false := by
      refine decide_eq_false fun e => ?_
      have e1 := congrArg cd e
      rw [cd_app] at e1
      have e2 : cd (Str.ofString "0") = [48] := by decide +kernel
      rw [e2] at e1
      have hl := congrArg List.length e1
      rw [List.length_append] at hl
      have hf0 : (cd f) = [] := List.eq_nil_of_length_eq_zero (by have : (cd (sg c)).length = 1 := rfl; have : ([48] : List Nat).length = 1 := rfl; omega)
      rw [hf0] at e1
      have : c = 48 := by
        have e3 : [c] = [48] := e1
        simpa using e3
      exact h0 (by rw [← cd_len, hf0]; rfl) (by rw [this]; rfl)
    rw [List.length_cons] at h6
    rw [List.cons_append, run, if_neg (by rw [hL]; simp), if_neg (by rw [hw]; simp), if_neg (by simp), if_pos (by
      show (isD c && (decide (f.length < 6) && !decide (f ++ sg c = Str.ofString "0"))) = true
      rw [hc, hz]
      simp only [Bool.not_false, Bool.and_true, Bool.true_and, decide_eq_true_eq]
      omega)]
    rw [show (some f).getD (Str.ofString "") = f from rfl]
    rw [run_digits l rest w (f ++ sg c) op (i + 1) hw (fun d hd => h d (List.mem_cons_of_mem _ hd)) (by rw [strLen_append]; show _ + 1 + _ ≤ _; omega) (fun z => by rw [strLen_append] at z; exact absurd z (by show ¬ (_ + 1 = 0); omega)), app_sg, List.length_cons]
    congr 1
    omega
theorem run_noFig {w : Str} {T : List Nat} (hw : noWord w false = false) (h : ∀ c r, T = c :: r → isD c = false ∨ c = 48) (op : List Int) (i : Nat) : run T w (some (Str.ofString "")) false op i = some i := by
  cases T with
  | nil => rw [run, if_neg (by rw [hw]; simp), if_pos rfl]
  | cons c r =>
    rw [run, if_neg (by simp), if_neg (by rw [hw]; simp), if_neg (by simp), if_neg ?_, if_pos rfl]
    show ¬ (isD c && (decide ((Str.ofString "").length < 6) && !decide (Str.ofString "" ++ sg c = Str.ofString "0"))) = true
    rcases h c r rfl with h | rfl
    · rw [h]; simp
    · have : Str.ofString "" ++ sg 48 = Str.ofString "0" := by decide +kernel
      rw [this]; simp
/-- the node is whole: a bracket, a comma or the end comes -/
theorem run_whole {w : Str} {fig : Option Str} {T : List Nat} (hw : noWord w false = false) (h1 : fig ≠ some (Str.ofString "")) (h2 : fig = none → stopL w T ∧ ∀ r, T ≠ 58 :: r) (h3 : ∀ f, fig = some f → stopD f T) (op : List Int) (i : Nat) :
    (∀ r, T = 40 :: r → op.length < 30 → run T w fig false op i = run r "" none false (1 :: op) (i + 1)) ∧ ((∀ r, T = 40 :: r → ¬ op.length < 30) → run T w fig false op i = brk T op i) := by
  cases T with
  | nil =>
    refine ⟨fun r e => (nomatch e), fun _ => ?_⟩
    rw [run, brk, if_neg (by rw [hw]; simp), if_neg h1]
  | cons c r =>
    have key : run (c :: r) w fig false op i = if (decide (c = 40) && (!false && decide (op.length < 30))) = true then run r "" none false (1 :: op) (i + 1) else brk (c :: r) op i := by
      rw [run, brk]
      have n1 : ¬ (isL c && (fig.isNone && (!false && decide (w.length < 6)))) = true := by
        cases fig with
        | none => exact no_letter (h2 rfl).1 none false
        | some f => simp
      have n3 : ¬ (decide (c = 58) && (fig.isNone && !false)) = true := by
        cases fig with
        | none =>
          have : c ≠ 58 := fun z => (h2 rfl).2 r (by rw [z])
          simp [this]
        | some f => simp
      have n4 : ¬ digOk fig c = true := by
        cases fig with
        | none => simp [digOk]
        | some f =>
          show ¬ (isD c && (decide (f.length < 6) && !decide (f ++ sg c = Str.ofString "0"))) = true
          rcases h3 f rfl with h | h
          · rw [h]; simp
          · rw [h c r rfl]; simp
      rw [if_neg n1, if_neg (by rw [hw]; simp), if_neg n3, if_neg n4, if_neg h1]
    refine ⟨fun r' e ho => ?_, fun ho => ?_⟩
    · cases e
      rw [key, if_pos (by simp [ho])]
    · rw [key, if_neg ?_]
      intro z
      simp only [Bool.and_eq_true, decide_eq_true_eq] at z
      exact ho r (by rw [z.1]) z.2.2
end Law
namespace Law
open PySem PySem.Spec PyProof.Rows L2 Fw
/-! ### a number's text -/
theorem val_lt : ∀ (l : List Nat) (a : Nat), (∀ c ∈ l, isD c = true) → l.foldl (fun acc c => acc * 10 + (c - 48)) a < (a + 1) * 10 ^ l.length
  | [], a, _ => by simp
  | c :: l, a, h => by
    have hc : 48 ≤ c ∧ c ≤ 57 := by simpa [isD] using h c (List.mem_cons_self ..)
    have ih := val_lt l (a * 10 + (c - 48)) fun d hd => h d (List.mem_cons_of_mem _ hd)
    rw [List.foldl_cons, List.length_cons]
    refine Nat.lt_of_lt_of_le ih ?_
    rw [Nat.pow_succ, Nat.mul_comm (10 ^ l.length) 10, ← Nat.mul_assoc]
    exact Nat.mul_le_mul_right _ (by omega)
theorem dig_text {l : List Nat} (h : ∀ c ∈ l, isD c = true) (h1 : 1 ≤ l.length) (h6 : l.length ≤ 6) (h0 : l.head? ≠ some 48) : ∃ o : Int, PySem.intText? (st l) = some o ∧ 0 < o ∧ o < 1000000 ∧ cd (Str.ofString (toString o)) = l := by
  have hA : NumText.AllDigits l := fun c hc => by simpa [isD] using h c hc
  obtain ⟨c, r, rfl⟩ : ∃ c r, l = c :: r := by
    cases l with
    | nil => simp at h1
    | cons c r => exact ⟨c, r, rfl⟩
  have hc := hA c (List.mem_cons_self ..)
  have hc49 : 49 ≤ c := by
    have : c ≠ 48 := fun z => h0 (by rw [z]; rfl)
    omega
  refine ⟨(NumText.digitsVal (c :: r) : Nat), ?_, ?_, ?_, ?_⟩
  · exact SX.int_S (List.all_eq_true.mpr fun d hd => by have := hA d hd; simpa using this) (by simp) (by omega)
  · have := NumText.digitsVal_pos (cs := r) hc49
    omega
  · have := val_lt (c :: r) 0 h
    have h10 : 10 ^ (c :: r).length ≤ 10 ^ 6 := Nat.pow_le_pow_right (by decide) h6
    have : NumText.digitsVal (c :: r) < 10 ^ 6 := by
      show (c :: r).foldl _ 0 < _
      omega
    omega
  · show (PySem.Str.ofString (toString ((NumText.digitsVal (c :: r) : Nat) : Int))).cps.toList = _
    rw [PySem.W.KIN.signs_num, NumText.toDigits_digitsVal r.length (c :: r) rfl hA (.inr ⟨c, r, rfl, hc49⟩), List.map_map]
    conv => rhs; rw [← List.map_id (c :: r)]
    refine List.map_congr_left fun d hd => ?_
    have := hA d hd
    show (Char.ofNat d).toNat = d
    have hv : d.isValidChar := .inl (by omega)
    simp [Char.ofNat, hv, Char.toNat, Char.ofNatAux]
/-! ### what was read -/
structure Fra where
  na : Addr
  pa : Addr
  n : Str
  o : Int
  us : List V
  ts : List Tr
def Fra.tree (f : Fra) : Tr := .mk f.n f.o f.ts
def headT (n : Str) (o : Int) : Str := n ++ Txt.mul (":" ++ Str.ofString (toString o)) (if decide (0 < o) = true then 1 else 0)
def fcells (f : Fra) : List (Addr × HO) := [(f.na, .lst [.str f.n, .int f.o, .ref f.pa]), (f.pa, .lst f.us)]
def scells : List Fra → List (Addr × HO)
  | [] => []
  | f :: r => (f.na, .lst [.str f.n, .int f.o, .ref f.pa]) :: (f.pa, .lst f.us) :: scells r
def sfacts (l : List Fra) : List Fa := l.map fun f => .al f.us (datas f.ts)
def opnd (l : List Fra) : HO := .lst (l.map fun f => V.ref f.na).reverse
def pcs (ts : List Tr) : List Nat := ts.flatMap fun t => cd t.text ++ [44]
def pre : List Fra → List Nat
  | [] => []
  | f :: r => pre r ++ cd (headT f.n f.o) ++ [40] ++ pcs f.ts
structure OkF (j : Nat) (f : Fra) : Prop where
  nm : NameOk f.n
  o0 : 0 ≤ f.o
  o6 : f.o < 1000000
  ts : TrsOk f.ts
  l1 : f.ts.length ≤ 1
  hi : highs f.ts + j ≤ 30
  lu : f.us.length = f.ts.length
def OkSt : List Fra → Prop
  | [] => True
  | f :: r => OkF r.length f ∧ OkSt r
def cnt (l : List Fra) : List Int := l.map fun f => 1 + (f.ts.length : Int)
theorem join_snoc (us : List Tr) (t : Tr) : cd (Txt.join "," (texts (us ++ [t]))) = pcs us ++ cd t.text := by
  have e : ∀ ys, Txt.join "," ys = Str.join "," ys := fun ys => PySem.StrLaws.glued_eq_join "," ys
  rw [e, texts_map]
  induction us with
  | nil => rfl
  | cons u r ih =>
    obtain ⟨x, ys, hx⟩ : ∃ x ys, (r ++ [t]).map Tr.text = x :: ys := by
      cases h : (r ++ [t]).map Tr.text with
      | nil => simp at h
      | cons x ys => exact ⟨x, ys, rfl⟩
    rw [List.cons_append, List.map_cons, hx]
    have e2 : Str.join "," (u.text :: x :: ys) = u.text ++ "," ++ Str.join "," (x :: ys) := rfl
    rw [e2, ← hx, cd_app, cd_app, ih]
    have e3 : cd (Str.ofString ",") = [44] := by decide +kernel
    rw [e3]
    simp [pcs]
theorem text_none (n : Str) (o : Int) : cd (Tr.mk n o []).text = cd (headT n o) := by
  have e : (Tr.mk n o []).text = headT n o ++ Txt.mul (("(" ++ Txt.join "," (texts [])) ++ ")") 0 := by simp only [Tr.text]; rfl
  rw [e, cd_app, mul0]
  simp
theorem text_snoc (n : Str) (o : Int) (us : List Tr) (t : Tr) : cd (Tr.mk n o (us ++ [t])).text = cd (headT n o) ++ [40] ++ pcs us ++ cd t.text ++ [41] := by
  have e : (Tr.mk n o (us ++ [t])).text = headT n o ++ Txt.mul (("(" ++ Txt.join "," (texts (us ++ [t]))) ++ ")") 1 := by
    simp only [Tr.text]
    rw [show (decide ((us ++ [t]) ≠ [])) = true from decide_eq_true (by simp)]
    rfl
  have e1 : cd (Str.ofString "(") = [40] := by decide +kernel
  have e2 : cd (Str.ofString ")") = [41] := by decide +kernel
  rw [e, cd_app, mul1, cd_app, cd_app, join_snoc, e1, e2]
  simp
def figT : Option Str → List Nat
  | none => []
  | some f => 58 :: cd f
theorem head_fig {fig : Option Str} {nm : Str} {o : Int} (ho : (fig = none ∧ o = 0) ∨ ∃ l, fig = some (st l) ∧ 0 < o ∧ cd (Str.ofString (toString o)) = l) : cd (headT nm o) = cd nm ++ figT fig := by
  unfold headT
  rw [cd_app]
  congr 1
  rcases ho with ⟨rfl, rfl⟩ | ⟨l, rfl, h0, h1⟩
  · rfl
  · rw [decide_eq_true h0, if_pos rfl, mul1, cd_app, h1]
    have e1 : cd (Str.ofString ":") = [58] := by decide +kernel
    rw [e1]
    rfl
end Law
namespace Law
open PySem PySem.Spec PyProof.Rows L2 Fw
/-! ### a tree's text is whole, and no other tree has it -/
theorem digs : ∀ (k o : Nat), 0 < o → o < 10 ^ k → ∃ l : List Nat, (∀ c ∈ l, isD c = true) ∧ 1 ≤ l.length ∧ l.length ≤ k ∧ l.head? ≠ some 48 ∧ NumText.digitsVal l = o
  | 0, o, h0, h1 => by simp at h1; omega
  | k + 1, o, h0, h1 => by
    by_cases h : o < 10
    · refine ⟨[48 + o], fun c hc => ?_, by simp, by simp, by simp; omega, ?_⟩
      · rw [List.mem_singleton.mp hc]; simp [isD]; omega
      · show [48 + o].foldl (fun acc c => acc * 10 + (c - 48)) 0 = o
        simp
    · obtain ⟨l, a, b, c, d, e⟩ := digs k (o / 10) (by omega) (by rw [Nat.pow_succ] at h1; omega)
      refine ⟨l ++ [48 + o % 10], fun x hx => ?_, by simp, by simp; omega, ?_, ?_⟩
      · rcases List.mem_append.mp hx with hx | hx
        · exact a x hx
        · rw [List.mem_singleton.mp hx]; simp [isD]; omega
      · rw [List.head?_append]
        cases l with
        | nil => simp at b
        | cons x l => simpa using d
      · have e' : l.foldl (fun acc c => acc * 10 + (c - 48)) 0 = o / 10 := e
        show (l ++ [48 + o % 10]).foldl (fun acc c => acc * 10 + (c - 48)) 0 = o
        rw [List.foldl_append, e']
        simp
        omega
theorem dig_back {l : List Nat} (h : ∀ c ∈ l, isD c = true) (h1 : 1 ≤ l.length) (h0 : l.head? ≠ some 48) : cd (Str.ofString (toString ((NumText.digitsVal l : Nat) : Int))) = l := by
  have hA : NumText.AllDigits l := fun c hc => by simpa [isD] using h c hc
  obtain ⟨c, r, rfl⟩ : ∃ c r, l = c :: r := by
    cases l with
    | nil => simp at h1
    | cons c r => exact ⟨c, r, rfl⟩
  have hc := hA c (List.mem_cons_self ..)
  have hc49 : 49 ≤ c := by
    have : c ≠ 48 := fun z => h0 (by rw [z]; rfl)
    omega
  show (PySem.Str.ofString (toString ((NumText.digitsVal (c :: r) : Nat) : Int))).cps.toList = _
  rw [PySem.W.KIN.signs_num, NumText.toDigits_digitsVal r.length (c :: r) rfl hA (.inr ⟨c, r, rfl, hc49⟩), List.map_map]
  conv => rhs; rw [← List.map_id (c :: r)]
  refine List.map_congr_left fun d hd => ?_
  have := hA d hd
  show (Char.ofNat d).toNat = d
  have hv : d.isValidChar := .inl (by omega)
  simp [Char.ofNat, hv, Char.toNat, Char.ofNatAux]
/-- a number's figures -/
theorem num_digs {o : Int} (h0 : 0 < o) (h6 : o < 1000000) : ∃ l : List Nat, cd (Str.ofString (toString o)) = l ∧ (∀ c ∈ l, isD c = true) ∧ 1 ≤ l.length ∧ l.length ≤ 6 ∧ l.head? ≠ some 48 ∧ (NumText.digitsVal l : Int) = o := by
  obtain ⟨l, a, b, c, d, e⟩ := digs 6 o.toNat (by omega) (by omega)
  refine ⟨l, ?_, a, b, c, d, by omega⟩
  have := dig_back a b d
  rw [e, show ((o.toNat : Nat) : Int) = o by omega] at this
  exact this
/-- what may stand behind a tree -/
def Dl (T : List Nat) : Prop := ∀ c r, T = c :: r → c = 44 ∨ c = 41
theorem Dl.nil : Dl [] := fun _ _ e => nomatch e
theorem Dl.comma (r : List Nat) : Dl (44 :: r) := fun c _ e => by cases e; exact .inl rfl
theorem Dl.close (r : List Nat) : Dl (41 :: r) := fun c _ e => by cases e; exact .inr rfl
/-- a node's head: its number's text -/
def figL (o : Int) : List Nat := if 0 < o then 58 :: cd (Str.ofString (toString o)) else []
theorem head_cd (n : Str) (o : Int) : cd (headT n o) = cd n ++ figL o := by
  unfold headT figL
  rw [cd_app]
  congr 1
  by_cases h : 0 < o
  · rw [decide_eq_true h, if_pos rfl, mul1, cd_app, if_pos h]
    have e1 : cd (Str.ofString ":") = [58] := by decide +kernel
    rw [e1]
    rfl
  · rw [decide_eq_false h, if_neg (by decide), mul0, if_neg h]
theorem text1 (n : Str) (o : Int) (a : Tr) : cd (Tr.mk n o [a]).text = cd n ++ figL o ++ 40 :: (cd a.text ++ [41]) := by
  have := text_snoc n o [] a
  rw [List.nil_append] at this
  rw [this, head_cd]
  simp [pcs]
theorem text2 (n : Str) (o : Int) (a b : Tr) : cd (Tr.mk n o [a, b]).text = cd n ++ figL o ++ 40 :: (cd a.text ++ 44 :: (cd b.text ++ [41])) := by
  have := text_snoc n o [a] b
  rw [show [a] ++ [b] = [a, b] from rfl] at this
  rw [this, head_cd]
  simp [pcs]
theorem text0 (n : Str) (o : Int) : cd (Tr.mk n o []).text = cd n ++ figL o := by rw [text_none, head_cd]
theorem name_word {n : Str} (h : NameOk n) : noWord n false = false := by
  unfold noWord
  have h1 : n ≠ Str.ofString "" := fun e => by have := h.l1; rw [e] at this; exact absurd this (by decide)
  rw [decide_eq_false h1, decide_eq_false h.no]
  rfl
theorem st_cd (n : Str) : st (cd n) = n := by cases n; rfl
theorem name_letters {n : Str} (h : NameOk n) : ∀ c ∈ cd n, isL c = true := fun c hc => by
  have := h.small c hc
  simp [isL]; omega
/-- a node's head is gone through -/
theorem run_head {n : Str} {o : Int} (hn : NameOk n) (h0 : 0 ≤ o) (h6 : o < 1000000) {T : List Nat} (hT : ∀ c r, T = c :: r → isL c = false ∧ isD c = false ∧ c ≠ 58) (op : List Int) (i : Nat) :
    (∀ r, T = 40 :: r → op.length < 30 → run (cd n ++ figL o ++ T) "" none false op i = run r "" none false (1 :: op) (i + (cd n ++ figL o).length + 1)) ∧ ((∀ r, T = 40 :: r → ¬ op.length < 30) → run (cd n ++ figL o ++ T) "" none false op i = brk T op (i + (cd n ++ figL o).length)) := by
  have hl : (cd n).length = n.length := cd_len n
  have e1 : run (cd n ++ figL o ++ T) "" none false op i = run (figL o ++ T) n none false op (i + (cd n).length) := by
    rw [List.append_assoc, run_letters (cd n) _ "" op i (name_letters hn) (by rw [hl]; have := hn.l6; show 0 + _ ≤ _; omega), st_cd]
    congr 1
    exact nil_app n
  by_cases ho : 0 < o
  · obtain ⟨l, hl1, hl2, hl3, hl4, hl5, hl6⟩ := num_digs ho h6
    have hf : figL o = 58 :: l := by unfold figL; rw [if_pos ho, hl1]
    have e2 : run (figL o ++ T) n none false op (i + (cd n).length) = run T n (some (st l)) false op (i + (cd n).length + 1 + l.length) := by
      rw [hf, List.cons_append, run_colon (name_word hn), run_digits l T n _ op _ (name_word hn) hl2 (by show 0 + _ ≤ _; omega) (fun _ => hl5)]
      congr 2
      exact nil_app _
    have hw := run_whole (w := n) (fig := some (st l)) (T := T) (name_word hn) (fun e => by
      have := congrArg cd (Option.some.inj e)
      have h9 : l = cd (Str.ofString "") := this
      rw [h9] at hl3
      exact absurd hl3 (by decide)) (fun e => nomatch e) (fun f e => .inr fun c r h => (hT c r h).2.1) op (i + (cd n).length + 1 + l.length)
    have e3 : i + (cd n ++ figL o).length = i + (cd n).length + 1 + l.length := by rw [hf, List.length_append, List.length_cons]; omega
    rw [e1, e2, e3]
    exact hw
  · have hf : figL o = [] := by unfold figL; rw [if_neg ho]
    have hw := run_whole (w := n) (fig := none) (T := T) (name_word hn) (fun e => nomatch e) (fun _ => ⟨.inr fun c r h => (hT c r h).1, fun r h => (hT 58 r h).2.2 rfl⟩) (fun f e => nomatch e) op (i + (cd n).length)
    have e3 : i + (cd n ++ figL o).length = i + (cd n).length := by rw [hf, List.append_nil]
    rw [e1, e3, hf]
    exact hw
theorem dl_no {T : List Nat} (h : Dl T) : ∀ c r, T = c :: r → isL c = false ∧ isD c = false ∧ c ≠ 58 := fun c r e => by
  rcases h c r e with rfl | rfl <;> decide
theorem br_no (X : List Nat) : ∀ c r, (40 :: X : List Nat) = c :: r → isL c = false ∧ isD c = false ∧ c ≠ 58 := fun c r e => by
  cases e
  decide
theorem brk_close (T : List Nat) (k : Int) (op : List Int) (i : Nat) : brk (41 :: T) (k :: op) i = brk T op (i + 1) := by
  rw [brk, if_neg (by simp), if_pos (by simp), List.tail_cons, run_ended]
theorem brk_comma (T : List Nat) (op : List Int) (i : Nat) : brk (44 :: T) (1 :: op) i = run T "" none false (2 :: op) (i + 1) := by
  rw [brk, if_pos (by simp), List.tail_cons]
/-- a tree is gone through -/
theorem run_tree : ∀ {t : Tr}, TrOk t → ∀ (op : List Int) (T : List Nat) (i : Nat), t.high + op.length ≤ 31 → Dl T → run (cd t.text ++ T) "" none false op i = brk T op (i + (cd t.text).length)
  | .mk n o ps, h, op, T, i, hh, hT => by
    obtain ⟨h1, h2, h3, h4, h5⟩ := h.parts
    match ps, h4, h5, hh with
    | [], _, _, _ =>
      rw [text0]
      exact (run_head h1 h2 h3 (dl_no hT) op i).2 fun r e => by
        rcases hT 40 r e with z | z <;> cases z
    | [a], _, h5, hh =>
      have ha := h5.mem a (List.mem_cons_self ..)
      simp only [Tr.high, highs] at hh
      have hp : 1 ≤ a.high := by cases a; simp only [Tr.high]; omega
      rw [text1, List.append_assoc, List.cons_append, (run_head h1 h2 h3 (br_no (cd a.text ++ [41] ++ T)) op i).1 _ rfl (by omega), List.append_assoc, run_tree ha (1 :: op) ([41] ++ T) _ (by rw [List.length_cons]; omega) (Dl.close T)]
      show brk (41 :: T) (1 :: op) _ = _
      rw [brk_close]
      congr 1
      simp only [List.length_append, List.length_cons, List.length_nil]
      omega
    | [a, b], _, h5, hh =>
      have ha := h5.mem a (List.mem_cons_self ..)
      have hb := h5.mem b (List.mem_cons_of_mem _ (List.mem_cons_self ..))
      simp only [Tr.high, highs] at hh
      have hp : 1 ≤ a.high := by cases a; simp only [Tr.high]; omega
      rw [text2, List.append_assoc, List.cons_append, (run_head h1 h2 h3 (br_no (cd a.text ++ 44 :: (cd b.text ++ [41]) ++ T)) op i).1 _ rfl (by omega), List.append_assoc, run_tree ha (1 :: op) (44 :: (cd b.text ++ [41]) ++ T) _ (by rw [List.length_cons]; omega) (Dl.comma _)]
      rw [List.cons_append, brk_comma, List.append_assoc, run_tree hb (2 :: op) ([41] ++ T) _ (by rw [List.length_cons]; omega) (Dl.close T)]
      show brk (41 :: T) (2 :: op) _ = _
      rw [brk_close]
      congr 1
      simp only [List.length_append, List.length_cons, List.length_nil]
      omega
theorem bad_none {t : Tr} (h : TrOk t) (hh : t.high ≤ 31) : bad t.text = none := by
  have := run_tree h [] [] 0 (by simpa using hh) Dl.nil
  rw [List.append_nil] at this
  unfold bad
  rw [this]
  rfl
/-! no other tree has that text -/
theorem split_uniq {p : Nat → Bool} : ∀ {a a' X X' : List Nat}, (∀ c ∈ a, p c = true) → (∀ c ∈ a', p c = true) → (∀ c r, X = c :: r → p c = false) → (∀ c r, X' = c :: r → p c = false) → a ++ X = a' ++ X' → a = a' ∧ X = X'
  | [], [], X, X', _, _, _, _, e => ⟨rfl, e⟩
  | [], c :: a', X, X', _, h2, h3, _, e => by
    rw [List.nil_append, List.cons_append] at e
    have := h3 c _ e
    rw [h2 c (List.mem_cons_self ..)] at this
    cases this
  | c :: a, [], X, X', h1, _, _, h4, e => by
    rw [List.nil_append, List.cons_append] at e
    have := h4 c _ e.symm
    rw [h1 c (List.mem_cons_self ..)] at this
    cases this
  | c :: a, c' :: a', X, X', h1, h2, h3, h4, e => by
    rw [List.cons_append, List.cons_append] at e
    obtain ⟨e1, e2⟩ := List.cons.inj e
    subst e1
    obtain ⟨h, g⟩ := split_uniq (fun d hd => h1 d (List.mem_cons_of_mem _ hd)) (fun d hd => h2 d (List.mem_cons_of_mem _ hd)) h3 h4 e2
    exact ⟨by rw [h], g⟩
theorem cd_inj {a b : Str} (h : cd a = cd b) : a = b := by rw [← st_cd a, ← st_cd b, h]
theorem fig_head {o : Int} {Y : List Nat} (hY : ∀ c r, Y = c :: r → isL c = false ∧ isD c = false ∧ c ≠ 58) : ∀ c r, figL o ++ Y = c :: r → isL c = false := fun c r e => by
  unfold figL at e
  split at e
  · rw [List.cons_append] at e
    cases e
    decide
  · exact (hY c r e).1
/-- the heads are the same, and so is what comes behind -/
theorem head_uniq {n n' : Str} {o o' : Int} {Y Y' : List Nat} (hn : NameOk n) (hn' : NameOk n') (h0 : 0 ≤ o) (h6 : o < 1000000) (h0' : 0 ≤ o') (h6' : o' < 1000000) (hY : ∀ c r, Y = c :: r → isL c = false ∧ isD c = false ∧ c ≠ 58) (hY' : ∀ c r, Y' = c :: r → isL c = false ∧ isD c = false ∧ c ≠ 58)
    (e : cd n ++ figL o ++ Y = cd n' ++ figL o' ++ Y') : n = n' ∧ o = o' ∧ Y = Y' := by
  rw [List.append_assoc, List.append_assoc] at e
  obtain ⟨h1, h2⟩ := split_uniq (p := isL) (name_letters hn) (name_letters hn') (fig_head hY) (fig_head hY') e
  refine ⟨cd_inj h1, ?_⟩
  by_cases c1 : 0 < o
  · obtain ⟨l, a1, a2, a3, a4, a5, a6⟩ := num_digs c1 h6
    have f1 : figL o = 58 :: l := by unfold figL; rw [if_pos c1, a1]
    by_cases c2 : 0 < o'
    · obtain ⟨l', b1, b2, b3, b4, b5, b6⟩ := num_digs c2 h6'
      have f2 : figL o' = 58 :: l' := by unfold figL; rw [if_pos c2, b1]
      rw [f1, f2, List.cons_append, List.cons_append] at h2
      obtain ⟨h3, h4⟩ := split_uniq (p := isD) a2 b2 (fun c r e => (hY c r e).2.1) (fun c r e => (hY' c r e).2.1) (List.cons.inj h2).2
      refine ⟨?_, h4⟩
      rw [← a6, ← b6, h3]
    · have f2 : figL o' = [] := by unfold figL; rw [if_neg c2]
      rw [f1, f2, List.cons_append, List.nil_append] at h2
      exact absurd rfl (hY' 58 _ h2.symm).2.2
  · have f1 : figL o = [] := by unfold figL; rw [if_neg c1]
    by_cases c2 : 0 < o'
    · obtain ⟨l', b1, b2, b3, b4, b5, b6⟩ := num_digs c2 h6'
      have f2 : figL o' = 58 :: l' := by unfold figL; rw [if_pos c2, b1]
      rw [f1, f2, List.cons_append, List.nil_append] at h2
      exact absurd rfl (hY 58 _ h2).2.2
    · have f2 : figL o' = [] := by unfold figL; rw [if_neg c2]
      rw [f1, f2, List.nil_append, List.nil_append] at h2
      exact ⟨by omega, h2⟩
theorem dl_40 {T X : List Nat} (h : Dl T) (e : T = 40 :: X) : False := by
  rcases h 40 X e with z | z <;> cases z
theorem text_uniq : ∀ {t : Tr}, TrOk t → ∀ {t' : Tr}, TrOk t' → ∀ {T T' : List Nat}, Dl T → Dl T' → cd t.text ++ T = cd t'.text ++ T' → t = t' ∧ T = T'
  | .mk n o ps, h, .mk n' o' ps', h', T, T', hT, hT', e => by
    obtain ⟨h1, h2, h3, h4, h5⟩ := h.parts
    obtain ⟨g1, g2, g3, g4, g5⟩ := h'.parts
    have key : ∀ (a a' : Tr) (R R' : List Nat), a ∈ ps → a' ∈ ps' → Dl R → Dl R' → cd a.text ++ R = cd a'.text ++ R' → a = a' ∧ R = R' := fun a a' R R' ha ha' hR hR' e => text_uniq (h5.mem a ha) (g5.mem a' ha') hR hR' e
    match ps, ps', h4, g4, e, key with
    | [], [], _, _, e, _ =>
      rw [text0, text0] at e
      obtain ⟨rfl, rfl, z⟩ := head_uniq h1 g1 h2 h3 g2 g3 (dl_no hT) (dl_no hT') e
      exact ⟨rfl, z⟩
    | [], [a], _, _, e, _ =>
      rw [text0, text1, List.append_assoc (cd n' ++ figL o'), List.cons_append] at e
      obtain ⟨_, _, z⟩ := head_uniq h1 g1 h2 h3 g2 g3 (dl_no hT) (br_no _) e
      exact (dl_40 hT z).elim
    | [], [a, b], _, _, e, _ =>
      rw [text0, text2, List.append_assoc (cd n' ++ figL o'), List.cons_append] at e
      obtain ⟨_, _, z⟩ := head_uniq h1 g1 h2 h3 g2 g3 (dl_no hT) (br_no _) e
      exact (dl_40 hT z).elim
    | [a], [], _, _, e, _ =>
      rw [text0, text1, List.append_assoc (cd n ++ figL o), List.cons_append] at e
      obtain ⟨_, _, z⟩ := head_uniq h1 g1 h2 h3 g2 g3 (br_no _) (dl_no hT') e
      exact (dl_40 hT' z.symm).elim
    | [a, b], [], _, _, e, _ =>
      rw [text0, text2, List.append_assoc (cd n ++ figL o), List.cons_append] at e
      obtain ⟨_, _, z⟩ := head_uniq h1 g1 h2 h3 g2 g3 (br_no _) (dl_no hT') e
      exact (dl_40 hT' z.symm).elim
    | [a], [a'], _, _, e, key =>
      rw [text1, text1, List.append_assoc (cd n ++ figL o), List.append_assoc (cd n' ++ figL o'), List.cons_append, List.cons_append] at e
      obtain ⟨rfl, rfl, z⟩ := head_uniq h1 g1 h2 h3 g2 g3 (br_no _) (br_no _) e
      have z := (List.cons.inj z).2
      rw [List.append_assoc, List.append_assoc] at z
      obtain ⟨e1, z2⟩ := key _ _ _ _ (List.mem_cons_self ..) (List.mem_cons_self ..) (Dl.close T) (Dl.close T') z
      exact ⟨by rw [e1], (List.cons.inj z2).2⟩
    | [a], [a', b'], _, _, e, key =>
      rw [text1, text2, List.append_assoc (cd n ++ figL o), List.append_assoc (cd n' ++ figL o'), List.cons_append, List.cons_append] at e
      obtain ⟨rfl, rfl, z⟩ := head_uniq h1 g1 h2 h3 g2 g3 (br_no _) (br_no _) e
      have z := (List.cons.inj z).2
      rw [List.append_assoc, List.append_assoc] at z
      obtain ⟨_, z⟩ := key _ _ _ _ (List.mem_cons_self ..) (List.mem_cons_self ..) (Dl.close T) (Dl.comma _) z
      exact absurd (List.cons.inj z).1 (by decide)
    | [a, b], [a'], _, _, e, key =>
      rw [text1, text2, List.append_assoc (cd n ++ figL o), List.append_assoc (cd n' ++ figL o'), List.cons_append, List.cons_append] at e
      obtain ⟨rfl, rfl, z⟩ := head_uniq h1 g1 h2 h3 g2 g3 (br_no _) (br_no _) e
      have z := (List.cons.inj z).2
      rw [List.append_assoc, List.append_assoc] at z
      obtain ⟨_, z⟩ := key _ _ _ _ (List.mem_cons_self ..) (List.mem_cons_self ..) (Dl.comma _) (Dl.close T') z
      exact absurd (List.cons.inj z).1 (by decide)
    | [a, b], [a', b'], _, _, e, key =>
      rw [text2, text2, List.append_assoc (cd n ++ figL o), List.append_assoc (cd n' ++ figL o'), List.cons_append, List.cons_append] at e
      obtain ⟨rfl, rfl, z⟩ := head_uniq h1 g1 h2 h3 g2 g3 (br_no _) (br_no _) e
      have z := (List.cons.inj z).2
      rw [List.append_assoc, List.append_assoc] at z
      obtain ⟨e1, z2⟩ := key _ _ _ _ (List.mem_cons_self ..) (List.mem_cons_self ..) (Dl.comma _) (Dl.comma _) z
      have z3 : cd b.text ++ [41] ++ T = cd b'.text ++ [41] ++ T' := (List.cons.inj z2).2
      rw [List.append_assoc, List.append_assoc] at z3
      obtain ⟨e2, z4⟩ := key _ _ _ _ (List.mem_cons_of_mem _ (List.mem_cons_self ..)) (List.mem_cons_of_mem _ (List.mem_cons_self ..)) (Dl.close T) (Dl.close T') z3
      exact ⟨by rw [e1, e2], (List.cons.inj z4).2⟩
theorem text_inj {t t' : Tr} (h : TrOk t) (h' : TrOk t') (e : t.text = t'.text) : t = t' := by
  have := text_uniq h h' (T := []) (T' := []) Dl.nil Dl.nil (by rw [e])
  exact this.1
end Law
namespace Law
open PySem PySem.Spec PyProof.Rows L2 Fw
theorem x_viaT {σ : L2.St} {H : Hp} {c : TT} {QB : Bool → Hp → Prop} (C : (Bool → Hp → Prop) → Prop) (h : ∀ QB', C QB' → c σ H QB') (k : C QB) : c σ H QB := h QB k
theorem sg_eq {c d : Nat} : sg c = sg d ↔ c = d := ⟨fun h => by have := congrArg cd h; simpa using this, fun h => by rw [h]⟩
theorem dC (c d : Nat) : decide (sg c = sg d) = decide (c = d) := decide_eq_decide.mpr sg_eq
theorem lits : Str.ofString ":" = sg 58 ∧ Str.ofString "(" = sg 40 ∧ Str.ofString "," = sg 44 ∧ Str.ofString ")" = sg 41 := by decide +kernel
theorem sg_ne (c : Nat) : decide (sg c = Str.ofString "") = false := decide_eq_false fun h => by have := congrArg Str.length h; exact absurd (show (1 : Nat) = 0 from this) (by decide)
theorem inAbc (c : Nat) : decide (c ∈ (Str.ofString "abcdefghijklmnopqrstuvwxyz").cps.toList) = isL c := by
  have e : (Str.ofString "abcdefghijklmnopqrstuvwxyz").cps.toList = [97, 98, 99, 100, 101, 102, 103, 104, 105, 106, 107, 108, 109, 110, 111, 112, 113, 114, 115, 116, 117, 118, 119, 120, 121, 122] := by decide +kernel
  rw [e]
  unfold isL
  rw [← Bool.decide_and]
  refine decide_eq_decide.mpr ?_
  simp only [List.mem_cons, List.not_mem_nil, or_false]
  omega
theorem inDig (c : Nat) : decide (c ∈ (Str.ofString "0123456789").cps.toList) = isD c := by
  have e : (Str.ofString "0123456789").cps.toList = [48, 49, 50, 51, 52, 53, 54, 55, 56, 57] := by decide +kernel
  rw [e]
  unfold isD
  rw [← Bool.decide_and]
  refine decide_eq_decide.mpr ?_
  simp only [List.mem_cons, List.not_mem_nil, or_false]
  omega
theorem lt6 (n : Nat) : decide ((n : Int) < 6) = decide (n < 6) := decide_eq_decide.mpr (by omega)
theorem lt30 (n : Nat) : decide ((n : Int) < 30) = decide (n < 30) := decide_eq_decide.mpr (by omega)
theorem at_last (r : List Int) (a : Int) : atI ((a :: r).reverse.map V.int) (-1) = some (.int a) := by
  rw [List.reverse_cons, List.map_append]
  unfold atI ixN
  simp
  rw [if_pos (by omega), show (-1 + ((r.length : Int) + 1)).toNat = r.length by omega]
  simp
theorem ix_last (r : List Int) (a : Int) : ixN ((a :: r).reverse.map V.int).length (-1) = some r.length := by
  rw [List.length_map, List.length_reverse, List.length_cons]
  unfold ixN
  simp
  omega
theorem set_last (r : List Int) (a b : Int) : ((a :: r).reverse.map V.int).set r.length (.int b) = (b :: r).reverse.map V.int := by
  rw [List.reverse_cons, List.map_append, List.reverse_cons, List.map_append]
  rw [List.set_append]
  simp
theorem last_of (r : List Int) (a : Int) : ((a :: r).reverse.map V.int)[((a :: r).reverse.map V.int).length - 1]? = some (.int a) := by
  rw [List.reverse_cons, List.map_append]
  simp
theorem drop_last (r : List Int) (a : Int) : ((a :: r).reverse.map V.int).dropLast = r.reverse.map V.int := by
  rw [List.reverse_cons, List.map_append]
  simp
theorem w_popL {K : PySem.W.Frag} {H0 H : Hp} {Ms M0 : List Addr} {L : List (Addr × HO)} {R : List Fa} {p : Addr} {xs : List V} {y : V} {Q : VK} (hw : W K H0 Ms M0 H L R) (i : Nat) (hL : L[i]? = some (p, .lst xs)) (hy : xs[xs.length - 1]? = some y) (k : ∀ H', W K H0 Ms M0 H' (L.set i (p, .lst xs.dropLast)) R → Q y H') : rPop (.ref p) [] H Q :=
  ⟨p, xs, y, rfl, rfl, hw.at i hL, hy, k _ (hw.set i hL _)⟩
theorem _root_.Fw.W.lastCell {K : PySem.W.Frag} {H0 H : Hp} {Ms M0 : List Addr} {c : Addr × HO} {R : List Fa} : ∀ {L : List (Addr × HO)}, W K H0 Ms M0 H (L ++ [c]) R → W K H0 Ms M0 H [c] R
  | [], w => w
  | _ :: _, w => Fw.W.lastCell w.drop1
end Law
namespace Law
open PySem PySem.Spec PyProof.Rows L2 Fw
abbrev veT : List Value := [.type "ValueError", .type "Exception", .type "BaseException", .type "object"]
structure Con (mg : Str → Option Value) : Prop where
  SMALL : ∃ t, mg "SMALL" = some (.str "abcdefghijklmnopqrstuvwxyz" t)
  FIGURES : ∃ t, mg "FIGURES" = some (.str "0123456789" t)
  MOST_SIGNS : ∃ t, mg "MOST_SIGNS" = some (.int 6 t)
  MOST_PARTS : ∃ t, mg "MOST_PARTS" = some (.int 2 t)
  MOST_DEEP : ∃ t, mg "MOST_DEEP" = some (.int 30 t)
  NO_NAME : ∃ t, mg "NO_NAME" = some (.str "own" t)
abbrev ssigns_on : Stmt := topS 12
theorem scsigns_on : FnScope ["text", "at", "signs", "most", "end"] ["text", "at", "signs", "most"] (defScope ssigns_on) := ⟨rfl, rfl, rfl, by decide +kernel, rfl, by decide +kernel, by decide +kernel⟩

abbrev sBadText_init : Stmt := inClass (topS 1) 0
theorem scBadText_init : FnScope ["self", "at"] ["self", "at"] (defScope sBadText_init) := ⟨rfl, rfl, rfl, by decide +kernel, rfl, by decide +kernel, by decide +kernel⟩

abbrev sname_at : Stmt := topS 13
theorem scname_at : FnScope ["text", "at", "end"] ["text", "at"] (defScope sname_at) := ⟨rfl, rfl, rfl, by decide +kernel, rfl, by decide +kernel, by decide +kernel⟩

abbrev sown_at : Stmt := topS 14
theorem scown_at : FnScope ["text", "at", "end"] ["text", "at"] (defScope sown_at) := ⟨rfl, rfl, rfl, by decide +kernel, rfl, by decide +kernel, by decide +kernel⟩

abbrev sclosed : Stmt := topS 15
theorem scclosed : FnScope ["node", "making", "own", "parts"] ["node"] (defScope sclosed) := ⟨rfl, rfl, rfl, by decide +kernel, rfl, by decide +kernel, by decide +kernel⟩

def spSigns : Sp := fun vs H Q _ => ∃ (z S : Str) (a : Nat), vs = [.str z, .int a, .str S, .int 6] ∧ a ≤ z.length ∧ z.length ≤ 2000 ∧
  ∀ k : Nat, k ≤ 6 → a + k ≤ z.length → (∀ c ∈ ((cd z).drop a).take k, c ∈ cd S) → (k = 6 ∨ ∀ c r, (cd z).drop (a + k) = c :: r → c ∉ cd S) → Q (.int ((a + k : Nat) : Int)) H
def spName (CB : Addr) : Sp := fun vs H Q E => ∃ (z : Str) (a : Nat) (op : List Int) (bd : Option Nat), vs = [.str z, .int a] ∧ a ≤ z.length ∧ z.length ≤ 2000 ∧ run ((cd z).drop a) "" none false op a = bd ∧
  (∀ k nm, nm = st (((cd z).drop a).take k) → a + k ≤ z.length → NameOk nm → nm.length = k → stopL nm ((cd z).drop (a + k)) → run ((cd z).drop (a + k)) nm none false op (a + k) = bd → Q (.int ((a + k : Nat) : Int)) H) ∧
  ∀ (k : Nat) d H', bd = some k → H d = none → Ex [] H H' → H' d = some (.xd [("at", .int k)]) → E (.ref CB) (some d) H'
/-- a node's number as it stands -/
def figOk (z : Str) (a e : Nat) (fig : Option Str) : Prop :=
  (fig = none ∧ e = a ∧ ∀ r, (cd z).drop a ≠ 58 :: r) ∨ ∃ l : List Nat, fig = some (st l) ∧ e = a + 1 + l.length ∧ (cd z).drop a = 58 :: (l ++ (cd z).drop e) ∧ (∀ c ∈ l, isD c = true) ∧ 1 ≤ l.length ∧ l.length ≤ 6 ∧ l.head? ≠ some 48 ∧ stopD (st l) ((cd z).drop e)
def spOwn (CB : Addr) : Sp := fun vs H Q E => ∃ (z nm : Str) (a : Nat) (op : List Int) (bd : Option Nat), vs = [.str z, .int a] ∧ a ≤ z.length ∧ z.length ≤ 2000 ∧ NameOk nm ∧ stopL nm ((cd z).drop a) ∧ run ((cd z).drop a) nm none false op a = bd ∧
  (∀ (e : Nat) (fig : Option Str), a ≤ e → e ≤ z.length → figOk z a e fig → run ((cd z).drop e) nm fig false op e = bd → Q (.int (e : Int)) H) ∧
  ∀ (k : Nat) d H', bd = some k → H d = none → Ex [] H H' → H' d = some (.xd [("at", .int k)]) → E (.ref CB) (some d) H'
def spClosed (K : PySem.W.Frag) : Sp := fun vs H Q _ => ∃ (M : List Addr) (na pa : Addr) (n : Str) (o : Int) (us : List V) (ts : List Tr), vs = [.ref na] ∧ Al M H ∧ H na = some (.lst [.str n, .int o, .ref pa]) ∧ H pa = some (.lst us) ∧ RpAll K M H us (datas ts) ∧
  ∀ p H', Ex [] H H' → Rp K M H' (.ref p) (Tr.mk n o ts).data → Q (.ref p) H'
theorem drop_cons {l : List Nat} {a : Nat} (h : a < l.length) : l.drop a = l[a] :: l.drop (a + 1) := List.drop_eq_getElem_cons h
theorem take_snoc {l : List Nat} {k : Nat} (h : k < l.length) : l.take (k + 1) = l.take k ++ [l[k]] := by rw [List.take_add_one, List.getElem?_eq_getElem h]; rfl
theorem drop_split (l : List Nat) (a k : Nat) : l.drop a = (l.drop a).take k ++ l.drop (a + k) := by
  conv => lhs; rw [← List.take_append_drop k (l.drop a)]
  rw [List.drop_drop]
theorem abc_isL (c : Nat) : c ∈ cd (Str.ofString "abcdefghijklmnopqrstuvwxyz") ↔ isL c = true := by
  have := inAbc c
  rw [← this, decide_eq_true_eq]
theorem dig_isD (c : Nat) : c ∈ cd (Str.ofString "0123456789") ↔ isD c = true := by
  have := inDig c
  rw [← this, decide_eq_true_eq]
section
variable {P : Program} {w : World} {K : PySem.W.Frag} {mg : Str → Option Value} {base : Heap} {f : Addr} {fd : FuncData} {k : Nat} {kws : List (Str × V)}
theorem ok_signs (F : FunD K "signs_on" "signs_on" (defArgs ssigns_on) (defBody ssigns_on) (defScope ssigns_on) [] kws f fd) (B : BltX mg) : FnG P w K mg base CX0 (k + 1) f fd ["text", "at", "signs", "most"] spSigns := by
  refine okG F scsigns_on (fun vs H Q E h => ?_) (fun cdv A outer s H0 vs Q E hG hr h => ?_)
  · obtain ⟨z, S, a, rfl, _⟩ := h
    rfl
  obtain ⟨z, S, a, rfl, ha, hz, q⟩ := h
  refine ⟨_, [some (.str z), some (.int a), some (.str S), some (.int 6), none], (pss_cons (ps_set (i := 4) scsigns_on.nd rfl (Or.inl rfl) (pv 1))
  (pss_cons (ps_while PassesOwn.never (PW.pt (pw_and (pt_cmpR (op_lt) (pv 4) (pe_callB (call_lenU (K := K)) (by rfl) B.len (by decide +kernel) (pa_cons (pv 0) pa_nil)) (nomark _)) (pw_and (pt_cmpR (op_lt) (pe_op op_sub (pv 4) (pv 1)) (pv 3) (nomark _)) (pw_and1 (pt_cmpR (op_inU (K := K) hr) (pe_ix (ix_U (K := K)) (pv 0) (pv 4) (fun _ _ => rfl)) (pv 2) (by rfl)))))) (pss_one (ps_aug (i := 4) scsigns_on.nd rfl (Or.inl rfl) pe_int ip_add)))
  (pss_one (ps_ret (pv 4))))), rfl, ?_⟩
  refine x_seq (x_set (x_var rfl (x_nx (x_seq ?_))))
  refine w_while (fun m σ H => ∃ j : Nat, m = 6 - j ∧ H = H0 ∧ σ = [some (.str z), some (.int a), some (.str S), some (.int 6), some (.int ((a + j : Nat) : Int))] ∧ j ≤ 6 ∧ a + j ≤ z.length ∧ ∀ c ∈ ((cd z).drop a).take j, c ∈ cd S) 6 ⟨0, rfl, rfl, rfl, by decide, ha, fun c hc => by simp at hc⟩ ?_
  rintro m σ H ⟨j, rfl, rfl, rfl, hj6, hjz, hS⟩
  walk_at "sxp"
  refine x_ifd (fun c1 => ?_) (fun c1 => ?_)
  · walk_at "sxp"
    refine x_ifd (fun c2 => ?_) (fun c2 => ?_)
    · have hl : a + j < (cd z).length := by rw [cd_len]; omega
      walk_at "sx"
      refine x_ixS (c := (cd z)[a + j]) (by rw [sizeLine_eq]; omega) (atI_nat (List.getElem?_eq_getElem hl)) ?_
      walk_at "sx"
      refine x_ifd (fun c3 => ?_) (fun c3 => ?_)
      · refine x_whB ?_
        walk_at "sx"
        have hl2 : j < ((cd z).drop a).length := by rw [List.length_drop]; omega
        refine ⟨6 - (j + 1), by omega, j + 1, rfl, rfl, by simp; omega, by omega, by omega, fun c hc => ?_⟩
        rw [take_snoc hl2] at hc
        rcases List.mem_append.mp hc with hc | hc
        · exact hS c hc
        · rw [List.mem_singleton.mp hc, List.getElem_drop]
          exact c3
      · walk_at "sx"
        refine q j hj6 hjz hS (.inr fun c r e => ?_)
        rw [drop_cons hl] at e
        cases e
        exact c3
    · walk_at "sx"
      exact q j hj6 hjz hS (.inl (by omega))
  · walk_at "sx"
    refine q j hj6 hjz hS (.inr fun c r e => ?_)
    rw [List.drop_eq_nil_of_le (by rw [cd_len]; omega)] at e
    cases e
theorem ok_BadText {C : Addr} (F : Fun K "__init__" "BadText.__init__" sBadText_init f fd) (BValueError : mg "ValueError" = none) (T : Own K C "ValueError.__new__" veT) (h1 : PySem.W.findIn K (.ref C) "at" = some none) : FnOk P w K mg base CX0 (k + 1) f fd ["self", "at"] (spInit1 C "at") := by
  refine okS F scBadText_init (fun vs H Q E h => ?_) (fun cdv A outer s H0 vs Q E hr h => ?_)
  · obtain ⟨a, v, rfl, _⟩ := h
    rfl
  obtain ⟨a, v, rfl, ea, q⟩ := h
  exact ⟨_, [some (.ref a), some v], (pss_cons (ps_expr (pe_binit bs_ValueError (by rfl) BValueError (pa_cons (pv 0) (pa_cons pe_str pa_nil))))
  (pss_one (ps_fld bs_ValueError (pv 0) (pv 1)))), rfl, init1 T h1 ea q⟩
section
variable {CB fI : Addr} {fdI : FuncData} (TBadText : Own K CB "ValueError.__new__" veT) (iBadText : PySem.W.findIn K (.ref CB) "__init__" = some (some (.ref fI))) (tBadText : PySem.W.typeIn K (.ref fI) = some (.type "function"))
  (FiBadText : FnOk P w K mg base CX0 1 fI fdI ["self", "at"] (spInit1 CB "at")) (bBadText : Binds K fdI ["self", "at"] []) (gBadText : mg "BadText" = some (.ref CB)) (C : Con mg) (Gsigns_on : Fq P w K mg base CX0 1 "signs_on" ["text", "at", "signs", "most"] spSigns)
include TBadText iBadText tBadText FiBadText bBadText gBadText C Gsigns_on
theorem ok_name (F : FunD K "name_at" "name_at" (defArgs sname_at) (defBody sname_at) (defScope sname_at) [] kws f fd) : FnG P w K mg base (L2.CX P w) 3 f fd ["text", "at"] (spName CB) := by
  refine okGX F scname_at (fun vs H Q E h => ?_) (fun cdv A outer s H0 vs Q E hG hr h => ?_)
  · obtain ⟨z, a, op, bd, rfl, _⟩ := h
    rfl
  obtain ⟨z, a, op, bd, rfl, ha, hz, hrun, q, qE⟩ := h
  refine ⟨_, [some (.str z), some (.int a), none], (pss_cons (ps_set (i := 2) scname_at.nd rfl (Or.inl rfl) (pe_fq hG Gsigns_on hr (by first | decide | omega) (by rfl) pass0 (pa_cons (pv 0) (pa_cons (pv 1) (pa_cons (pe_gS (by rfl) C.SMALL) (pa_cons (pe_gI (by rfl) C.MOST_SIGNS) pa_nil))))))
  (pss_cons (ps_if (PW.pt (pw_or (pt_cmpR (op_eqU (K := K) hr) (pv 2) (pv 1) (nomark _)) (pw_or1 (pt_cmpR (op_eqU (K := K) hr) (pe_slice (sl_U (K := K)) (pv 0) (po_some (pv 1)) (po_some (pv 2))) (pe_gS (by rfl) C.NO_NAME) (nomark _))))) (pss_one (ps_raise rfl takesE (pmk_own bs_ValueError TBadText iBadText tBadText FiBadText hr (by decide) bBadText pass0 (by rfl) gBadText (pa_cons (pv 2) pa_nil)))) pss_nil)
  (pss_one (ps_ret (pv 2))))), rfl, ?_⟩
  walk_at "sx"
  refine ⟨z, _, a, rfl, ha, hz, fun k hk6 hkz hS hstop => ?_⟩
  have hlen : (((cd z).drop a).take k).length = k := by rw [List.length_take, List.length_drop, cd_len]; omega
  have hL : ∀ c ∈ ((cd z).drop a).take k, isL c = true := fun c hc => (abc_isL c).mp (hS c hc)
  have hsl : (st (((cd z).drop a).take k)).length = k := hlen
  have hst : stopL (st (((cd z).drop a).take k)) ((cd z).drop (a + k)) := hstop.imp (fun h => hsl.trans h) fun h c r e => by
    cases e2 : isL c with
    | false => rfl
    | true => exact absurd ((abc_isL c).mpr e2) (h c r e)
  have hdd : (cd z).drop a = ((cd z).drop a).take k ++ (cd z).drop (a + k) := drop_split _ _ _
  have hr2 : run ((cd z).drop (a + k)) (st (((cd z).drop a).take k)) none false op (a + k) = bd := by
    rw [hdd, run_letters _ _ _ _ _ hL (by show 0 + _ ≤ 6; omega), show ("" : Str) ++ st (((cd z).drop a).take k) = st (((cd z).drop a).take k) from nil_app _, hlen] at hrun
    exact hrun
  have hcut : cutS z (some (a : Int)) (some ((a + k : Nat) : Int)) = st (((cd z).drop a).take k) := str_ext (by
    show cd _ = _
    rw [cd_cut z a (a + k) ha hkz, Nat.add_sub_cancel_left])
  have hbad : ∀ {nm : Str}, nm = st (((cd z).drop a).take k) → noWord nm false = true → bd = some (a + k) := fun {nm} e hn => by
    subst e
    rw [run_noWord hst hn] at hr2
    exact hr2.symm
  generalize hnm : st (((cd z).drop a).take k) = nm at *
  walk_at "sx"
  refine x_ifd (fun c1 => ?_) (fun c1 => ?_)
  · have hk0 : k = 0 := by omega
    walk_at "sx"
    refine x_mk1 fun d hd => qE (a + k) d _ (hbad rfl ?_) hd (Ex.new hd) upd_same
    have : nm = "" := str_ext (List.eq_nil_of_length_eq_zero (by show (cd nm).length = 0; rw [cd_len, hsl, hk0]))
    rw [this]
    rfl
  · walk_at "sx"
    refine x_slX (by omega) ?_
    rw [hcut]
    walk_at "sx"
    refine x_ifd (fun c2 => ?_) (fun c2 => ?_)
    · walk_at "sx"
      refine x_mk1 fun d hd => qE (a + k) d _ (hbad rfl ?_) hd (Ex.new hd) upd_same
      rw [c2]
      rfl
    · walk_at "sx"
      refine q k nm hnm.symm hkz ⟨by omega, by omega, fun c hc => ?_, c2⟩ hsl hst hr2
      have h2 := hL c (by rw [← hnm] at hc; exact hc)
      simpa [isL] using h2
theorem ok_own (F : FunD K "own_at" "own_at" (defArgs sown_at) (defBody sown_at) (defScope sown_at) [] kws f fd) : FnG P w K mg base (L2.CX P w) 3 f fd ["text", "at"] (spOwn CB) := by
  refine okGX F scown_at (fun vs H Q E h => ?_) (fun cdv A outer s H0 vs Q E hG hr h => ?_)
  · obtain ⟨z, nm, a, op, bd, rfl, _⟩ := h
    rfl
  obtain ⟨z, nm, a, op, bd, rfl, ha, hz, hnm, hst, hrun, q, qE⟩ := h
  have hnw : noWord nm false = false := by
    unfold noWord
    rw [decide_eq_false hnm.no, decide_eq_false (fun e => by have := hnm.l1; rw [e] at this; exact absurd this (by decide))]
    rfl
  refine ⟨_, [some (.str z), some (.int a), none], (pss_cons (ps_if (pt_cmpR (op_neU (K := K) hr) (pe_slice (sl_U (K := K)) (pv 0) (po_some (pv 1)) (po_some (pe_op (op_addU (K := K)) (pv 1) pe_int))) pe_str (nomark _)) (pss_one (ps_ret (pv 1))) pss_nil)
  (pss_cons (ps_set (i := 2) scown_at.nd rfl (Or.inl rfl) (pe_fq hG Gsigns_on hr (by first | decide | omega) (by rfl) pass0 (pa_cons (pv 0) (pa_cons (pe_op (op_addU (K := K)) (pv 1) pe_int) (pa_cons (pe_gS (by rfl) C.FIGURES) (pa_cons (pe_gI (by rfl) C.MOST_SIGNS) pa_nil))))))
  (pss_cons (ps_if (PW.pt (pw_or (pt_cmpR (op_eqU (K := K) hr) (pv 2) (pe_op (op_addU (K := K)) (pv 1) pe_int) (nomark _)) (pw_or1 (pt_cmpR (op_eqU (K := K) hr) (pe_ix (ix_U (K := K)) (pv 0) (pe_op (op_addU (K := K)) (pv 1) pe_int) (fun _ _ => rfl)) pe_str (nomark _))))) (pss_one (ps_raise rfl takesE (pmk_own bs_ValueError TBadText iBadText tBadText FiBadText hr (by decide) bBadText pass0 (by rfl) gBadText (pa_cons (pe_op (op_addU (K := K)) (pv 1) pe_int) pa_nil)))) pss_nil)
  (pss_one (ps_ret (pv 2)))))), rfl, ?_⟩
  walk_at "sx"
  refine x_slX (by omega) ?_
  rw [cut_sign z a ha]
  walk_at "sx"
  rw [lits.1]
  refine x_ifn (fun c1 => ?_) (fun c1 => ?_)
  · walk_at "sx"
    refine q a none (Nat.le_refl _) ha (.inl ⟨rfl, rfl, fun r e => c1 ?_⟩) hrun
    unfold signAt
    have : (cd z)[a]? = some 58 := by
      have := congrArg (fun l => l[0]?) e
      simpa using this
    rw [this]
  · have hal : a < z.length := by
      rcases Nat.lt_or_ge a z.length with h | h
      · exact h
      · unfold signAt at c1
        rw [List.getElem?_eq_none (by rw [cd_len]; exact h)] at c1
        exact absurd (congrArg Str.length c1) (by decide)
    have hl : a < (cd z).length := by rw [cd_len]; exact hal
    have h58 : (cd z)[a] = 58 := by
      unfold signAt at c1
      rw [List.getElem?_eq_getElem hl] at c1
      exact sg_eq.mp c1
    have hd0 : (cd z).drop a = 58 :: (cd z).drop (a + 1) := by rw [drop_cons hl, h58]
    rw [hd0, run_colon hnw] at hrun
    walk_at "sx"
    refine ⟨z, _, a + 1, rfl, by omega, hz, fun k hk6 hkz hS hstop => ?_⟩
    have hlen : (((cd z).drop (a + 1)).take k).length = k := by rw [List.length_take, List.length_drop, cd_len]; omega
    have hD : ∀ c ∈ ((cd z).drop (a + 1)).take k, isD c = true := fun c hc => (dig_isD c).mp (hS c hc)
    have hsl : (st (((cd z).drop (a + 1)).take k)).length = k := hlen
    have hsd : stopD (st (((cd z).drop (a + 1)).take k)) ((cd z).drop (a + 1 + k)) := hstop.imp (fun h => hsl.trans h) fun h c r e => by
      cases e2 : isD c with
      | false => rfl
      | true => exact absurd ((dig_isD c).mpr e2) (h c r e)
    have hdd : (cd z).drop (a + 1) = ((cd z).drop (a + 1)).take k ++ (cd z).drop (a + 1 + k) := drop_split _ _ _
    walk_at "sx"
    refine x_ifd (fun c2 => ?_) (fun c2 => ?_)
    · have hk0 : k = 0 := by omega
      walk_at "sx"
      refine x_mk1 fun d hd => qE (a + 1) d _ ?_ hd (Ex.new hd) ?_
      · rw [← hrun]
        refine run_noFig hnw (fun c r e => .inl ?_) op (a + 1)
        rcases hsd with h | h
        · rw [hsl] at h; omega
        · exact h c r (by rw [hk0]; exact e)
      · exact upd_same
    · have hk1 : 1 ≤ k := by omega
      have hl1 : a + 1 < (cd z).length := by rw [cd_len]; omega
      walk_at "sx"
      refine x_ixS (c := (cd z)[a + 1]) (by rw [sizeLine_eq]; omega) (by have := atI_nat (xs := cd z) (List.getElem?_eq_getElem hl1); simpa using this) ?_
      walk_at "sx"
      have e0 : Str.ofString "0" = sg 48 := by decide +kernel
      rw [e0, dC]
      refine x_ifd (fun c3 => ?_) (fun c3 => ?_)
      · walk_at "sx"
        refine x_mk1 fun d hd => qE (a + 1) d _ ?_ hd (Ex.new hd) ?_
        · rw [← hrun]
          refine run_noFig hnw (fun c r e => .inr ?_) op (a + 1)
          rw [drop_cons hl1, c3] at e
          cases e
          rfl
        · exact upd_same
      · walk_at "sx"
        have hhead : (((cd z).drop (a + 1)).take k).head? ≠ some 48 := fun z0 => c3 (by
          rw [drop_cons hl1] at z0
          cases k with
          | zero => omega
          | succ k => simpa using z0)
        refine q (a + 1 + k) (some (st (((cd z).drop (a + 1)).take k))) (by omega) hkz (.inr ⟨_, rfl, by rw [hlen], by rw [← hdd]; exact hd0, hD, by omega, by omega, hhead, hsd⟩) ?_
        rw [← hrun]
        conv => rhs; rw [hdd]
        rw [run_digits _ _ _ _ _ _ hnw hD (by show 0 + _ ≤ 6; omega) (fun _ => hhead), nil_app, hlen]
end
theorem ok_closed (F : FunD K "closed" "closed" (defArgs sclosed) (defBody sclosed) (defScope sclosed) [] kws f fd) (B : BltX mg) : FnG P w K mg base CX0 (k + 1) f fd ["node"] (spClosed K) := by
  refine okG F scclosed (fun vs H Q E h => ?_) (fun cdv A outer s H0 vs Q E hG hr h => ?_)
  · obtain ⟨M, na, pa, n, o, us, ts, rfl, _⟩ := h
    rfl
  obtain ⟨M, na, pa, n, o, us, ts, rfl, hM, hna, hpa, hd, q⟩ := h
  have hw : W K H0 [] M H0 [] [.al us (datas ts)] := W.start0 hM (fun r z => by rw [List.mem_singleton.mp z]; exact hd)
  refine ⟨_, [some (.ref na), none, none, none], (pss_cons (ps_asg (pv 0) (pg_uL (K := K) (n := 3) rfl (pgs_cons (pg_name (i := 1) scclosed.nd rfl (Or.inl rfl)) (pgs_cons (pg_name (i := 2) scclosed.nd rfl (Or.inl rfl)) (pgs_cons (pg_name (i := 3) scclosed.nd rfl (Or.inl rfl)) pgs_nil)))))
  (pss_one (ps_ret (pe_tup (pa_cons (pv 1) (pa_cons (pv 2) (pa_cons (pe_callTy (call_tupleU (K := K)) (by rfl) B.tuple (by decide +kernel) (pa_cons (pv 3) pa_nil)) pa_nil))))))), rfl, ?_⟩
  walk_at "sx"
  refine x_gU3 (SqL.of hna) ?_
  walk_at "sx"
  refine w_tupleA hw hpa (hw.all 0 rfl) fun p H hp hw => ?_
  walk_at "sxd"
  exact q _ _ hw.ex (by simp only [Tr.data]; exact hw.rp 0 rfl)
end
end Law
namespace Law
open PySem PySem.Spec PyProof.Rows L2 Fw
abbrev sgoes_on : Stmt := topS 16
theorem scgoes_on : FnScope ["text", "at", "opened", "node", "sign"] ["text", "at", "opened", "node"] (defScope sgoes_on) := ⟨rfl, rfl, rfl, by decide +kernel, rfl, by decide +kernel, by decide +kernel⟩

abbrev stree_in : Stmt := topS 17
theorem sctree_in : FnScope ["text", "at", "opened", "last", "behind", "end", "node"] ["text"] (defScope stree_in) := ⟨rfl, rfl, rfl, by decide +kernel, rfl, by decide +kernel, by decide +kernel⟩

/-- where goes_on stands: the node nd is whole -/
structure Whole (z : Str) (a : Nat) (nd : Fra) (l : List Fra) : Prop where
  az : a ≤ z.length
  tx : (cd z).take a = pre l ++ cd nd.tree.text
  ok : TrOk nd.tree
  hi : nd.tree.high + l.length ≤ 31
  lu : nd.us.length = nd.ts.length
  ll : l.length ≤ 30
  st : OkSt l
  br : brk ((cd z).drop a) (cnt l) a = bad z
/-- where a node is awaited -/
structure Await (z : Str) (a : Nat) (l : List Fra) : Prop where
  az : a ≤ z.length
  tx : (cd z).take a = pre l
  ll : l.length ≤ 30
  st : OkSt l
  rn : run ((cd z).drop a) "" none false (cnt l) a = bad z
def cellsG (po : Addr) (nd : Fra) (l : List Fra) : List (Addr × HO) := (nd.na, .lst [.str nd.n, .int nd.o, .ref nd.pa]) :: (nd.pa, .lst nd.us) :: (po, opnd l) :: scells l
def cellsA (po : Addr) (l : List Fra) : List (Addr × HO) := (po, opnd l) :: scells l
def spGoes (K : PySem.W.Frag) (CB : Addr) : Sp := fun vs H Q E => ∃ (M A : List Addr) (z : Str) (a : Nat) (po : Addr) (nd : Fra) (l : List Fra), vs = [.str z, .int a, .ref po, .ref nd.na] ∧ z.length ≤ 2000 ∧ A = (cellsG po nd l).map (·.1) ∧ W K H A (A ++ M) H (cellsG po nd l) (sfacts (nd :: l)) ∧ Whole z a nd l ∧
  (∀ a' p l' H', a < a' → Await z a' l' → W K H A (A ++ M) H' ((p, .tup [.int (a' : Nat), .non]) :: cellsA po l') (sfacts l') → Q (.ref p) H') ∧
  (∀ (a' : Nat) p nd' H', Whole z a' nd' [] → W K H A (A ++ M) H' ((p, .tup [.int (a' : Nat), .ref nd'.na]) :: cellsG po nd' []) (sfacts [nd']) → Q (.ref p) H') ∧
  ∀ (k : Nat) d H', bad z = some k → H d = none → Ex A H H' → H' d = some (.xd [("at", .int k)]) → E (.ref CB) (some d) H'
theorem cnt_cons (f : Fra) (l : List Fra) : cnt (f :: l) = (1 + (f.ts.length : Int)) :: cnt l := rfl
theorem cnt_nil (l : List Fra) : cnt l = [] ↔ l = [] := by cases l <;> simp [cnt]
theorem op_last (f : Fra) (l : List Fra) : atI (((f :: l).map fun f => V.ref f.na).reverse) (-1) = some (.ref f.na) := by
  rw [List.map_cons, List.reverse_cons]
  unfold atI ixN
  simp
  rw [if_pos (by omega), show (-1 + ((l.length : Int) + 1)).toNat = l.length by omega]
  simp
def spTree (K : PySem.W.Frag) (CB : Addr) : Sp := fun vs H Q E => ∃ (M : List Addr) (z : Str), vs = [.str z] ∧ z.length ≤ 2000 ∧ Al M H ∧ (bad z = none → ∀ v t H', TrOk t → t.text = z → t.high ≤ 31 → Ex [] H H' → Rp K M H' v t.data → Q v H') ∧
  ∀ (k : Nat) d H', bad z = some k → H d = none → Ex [] H H' → H' d = some (.xd [("at", .int k)]) → E (.ref CB) (some d) H'
theorem take_more {l : List Nat} {a e : Nat} {m : List Nat} (h : l.drop a = m ++ l.drop e) (he : e = a + m.length) : l.take e = l.take a ++ m := by
  subst he
  have h1 := List.take_append_drop (a + m.length) l
  have h2 := List.take_append_drop a l
  rw [h, ← List.append_assoc] at h2
  have h3 : l.take (a + m.length) ++ l.drop (a + m.length) = (l.take a ++ m) ++ l.drop (a + m.length) := h1.trans h2.symm
  exact List.append_cancel_right h3
theorem cut_back (z : Str) (i : Nat) : cutS z (some ((i : Int) + 1)) (some (i : Int)) = Str.ofString "" := by
  have e : ((i : Int) + 1) = ((i + 1 : Nat) : Int) := by omega
  unfold cutS
  rw [e, HT.sIx_nat, HT.sIx_nat, show min i z.length - min (i + 1) z.length = 0 by omega, List.take_zero]
  rfl
theorem pcs_snoc (us : List Tr) (t : Tr) : pcs (us ++ [t]) = pcs us ++ cd t.text ++ [44] := by simp [pcs]
section
variable {P : Program} {w : World} {K : PySem.W.Frag} {mg : Str → Option Value} {base : Heap} {f : Addr} {fd : FuncData} {k : Nat} {kws : List (Str × V)}
section
variable {CB fI : Addr} {fdI : FuncData} (TBadText : Own K CB "ValueError.__new__" veT) (iBadText : PySem.W.findIn K (.ref CB) "__init__" = some (some (.ref fI))) (tBadText : PySem.W.typeIn K (.ref fI) = some (.type "function"))
  (FiBadText : FnOk P w K mg base CX0 1 fI fdI ["self", "at"] (spInit1 CB "at")) (bBadText : Binds K fdI ["self", "at"] []) (gBadText : mg "BadText" = some (.ref CB)) (C : Con mg) (B : BltX mg) (Gclosed : Fq P w K mg base CX0 1 "closed" ["node"] (spClosed K))
include TBadText iBadText tBadText FiBadText bBadText gBadText C B Gclosed
theorem ok_goes (F : FunD K "goes_on" "goes_on" (defArgs sgoes_on) (defBody sgoes_on) (defScope sgoes_on) [] kws f fd) : FnG P w K mg base (L2.CX P w) 3 f fd ["text", "at", "opened", "node"] (spGoes K CB) := by
  refine okGX F scgoes_on (fun vs H Q E h => ?_) (fun cdv A outer s H0 vs Q E hG hr h => ?_)
  · obtain ⟨M, A, z, a, po, nd, l, rfl, _⟩ := h
    rfl
  obtain ⟨M, As, z, a, po, nd, l, rfl, hz, hA, hw, hwh, q1, q2, qE⟩ := h
  refine ⟨_, [some (.str z), some (.int a), some (.ref po), some (.ref nd.na), none], (pss_cons (ps_while PassesOwn.leaving (pt_cmpR (op_gt) (pe_callB (call_lenU (K := K)) (by rfl) B.len (by decide +kernel) (pa_cons (pv 2) pa_nil)) pe_int (nomark _)) (pss_cons (ps_set (i := 4) scgoes_on.nd rfl (Or.inl rfl) (pe_slice (sl_U (K := K)) (pv 0) (po_some (pv 1)) (po_some (pe_op (op_addU (K := K)) (pv 1) pe_int))))
  (pss_cons (ps_expr (Fw.pe_m1 (K := K) PySem.F.plainAttrs_list PySem.F.slot_list_append PySem.F.type_list_append mt_append (pe_ix (ix_U (K := K)) (pe_ix (ix_U (K := K)) (pv 2) (pe_un un_neg pe_int) (fun _ _ => rfl)) pe_int (fun _ _ => rfl)) (pa_cons (pe_fq hG Gclosed hr (by first | decide | omega) (by rfl) pass0 (pa_cons (pv 3) pa_nil)) pa_nil)))
  (pss_cons (ps_if (PW.pt (pw_and (pt_cmpR (op_eqU (K := K) hr) (pv 4) pe_str (nomark _)) (pw_and1 (pt_cmpR (op_lt) (pe_callB (call_lenU (K := K)) (by rfl) B.len (by decide +kernel) (pa_cons (pe_ix (ix_U (K := K)) (pe_ix (ix_U (K := K)) (pv 2) (pe_un un_neg pe_int) (fun _ _ => rfl)) pe_int (fun _ _ => rfl)) pa_nil)) (pe_gI (by rfl) C.MOST_PARTS) (nomark _))))) (pss_one (ps_ret (pe_tup (pa_cons (pe_op (op_addU (K := K)) (pv 1) pe_int) (pa_cons pe_non pa_nil))))) pss_nil)
  (pss_cons (ps_if (pt_cmpR (op_neU (K := K) hr) (pv 4) pe_str (nomark _)) (pss_one (ps_raise rfl takesE (pmk_own bs_ValueError TBadText iBadText tBadText FiBadText hr (by decide) bBadText pass0 (by rfl) gBadText (pa_cons (pv 1) pa_nil)))) pss_nil)
  (pss_cons (ps_set (i := 3) scgoes_on.nd rfl (Or.inl rfl) (Fw.pe_m0 (K := K) PySem.F.plainAttrs_list PySem.F.slot_list_pop PySem.F.type_list_pop mt_pop (pv 2)))
  (pss_one (ps_aug (i := 1) scgoes_on.nd rfl (Or.inl rfl) pe_int ip_add))))))))
  (pss_one (ps_ret (pe_tup (pa_cons (pv 1) (pa_cons (pv 3) pa_nil)))))), rfl, ?_⟩
  refine x_seq (w_while (fun m σ H => ∃ (l : List Fra) (nd : Fra) (a' : Nat) (y4 : Option V), m = l.length ∧ a ≤ a' ∧ σ = [some (.str z), some (.int a'), some (.ref po), some (.ref nd.na), y4] ∧ Whole z a' nd l ∧ W K H0 As (As ++ M) H (cellsG po nd l) (sfacts (nd :: l))) l.length ⟨l, nd, a, none, rfl, Nat.le_refl _, rfl, hwh, hw⟩ ?_)
  clear hwh hw
  rintro m σ H ⟨l, nd, a', y4, rfl, haa, rfl, hwh, hw⟩
  cases l with
  | nil =>
    walk_at "sx"
    exact q2 a' _ nd _ hwh hw
  | cons g l =>
    walk_at "sx"
    refine x_ifP (by simp) (x_whB ?_)
    walk_at "sx"
    refine x_slX (by omega) ?_
    rw [cut_sign z a' hwh.az]
    walk_at "sx"
    refine x_ixL (v := .ref g.na) (SqL.of (hw.at 2 rfl)) (op_last g l) ?_
    walk_at "sx"
    refine ⟨_, nd.na, nd.pa, nd.n, nd.o, nd.us, nd.ts, rfl, hw.alloc', hw.at 0 rfl, hw.at 1 rfl, hw.all 0 rfl, fun p H e hd => ?_⟩
    replace hw := (hw.pure e).add hd
    have hok := hwh.st.1
    have hgl := hok.l1
    have hgu := hok.lu
    have hzz : g.us.length < sizeLine := sz_lt (by omega)
    walk_at "sx"
    obtain ⟨g', hg'⟩ : ∃ g' : Fra, g' = ⟨g.na, g.pa, g.n, g.o, g.us ++ [.ref p], g.ts ++ [nd.tree]⟩ := ⟨_, rfl⟩
    refine w_append (n := 4) hw rfl hzz fun H hw => ?_
    replace hw : W K H0 As (As ++ M) H (cellsG po nd (g' :: l)) (sfacts (nd :: g' :: l)) := by
      subst hg'
      refine (hw.addA (vs := g.us ++ [.ref p]) (ds := datas (g.ts ++ [nd.tree])) ?_).sub fun r hr => ?_
      · rw [datas_append]
        exact (hw.all 2 rfl).append (.cons (hw.rp 0 rfl) .nil)
      · rcases List.mem_cons.mp hr with rfl | hr
        · exact List.mem_cons_of_mem _ (List.mem_cons_of_mem _ (List.mem_cons_self ..))
        · rcases List.mem_cons.mp hr with rfl | hr
          · exact List.mem_cons_self ..
          · exact List.mem_cons_of_mem _ (List.mem_cons_of_mem _ (List.mem_cons_of_mem _ (List.mem_cons_of_mem _ hr)))
    have hna : g'.na = g.na := by rw [hg']
    have hpa : g'.pa = g.pa := by rw [hg']
    have hlu : g'.us.length = g.ts.length + 1 := by rw [hg']; simp [hgu]
    have hap := op_last g' l
    have hOk : g.ts.length ≤ 0 → OkF l.length g' := fun h0 => by
      rw [hg']
      refine ⟨hok.nm, hok.o0, hok.o6, hok.ts.append (.cons hwh.ok .nil), by show (g.ts ++ [nd.tree]).length ≤ 1; rw [List.length_append]; show _ + 1 ≤ 1; omega, ?_, by simp [hgu]⟩
      show highs (g.ts ++ [nd.tree]) + _ ≤ _
      rw [highs_append]
      have h1 := hok.hi
      have h2 := hwh.hi
      simp only [highs, List.length_cons] at h2 ⊢
      omega
    have raise : ∀ (k : Nat), bad z = some k → ∀ d, H d = none → E (.ref CB) (some d) (upd H d (.xd [("at", .int k)])) := fun k hb d hd =>
      qE k d _ hb (hw.fresh2 hd fun x hx => List.mem_append_left _ hx) (hw.ex.trans (Ex.new hd)) upd_same
    have hbr := hwh.br
    rcases Nat.lt_or_ge a' z.length with hlt | hge
    · have hl : a' < (cd z).length := by rw [cd_len]; exact hlt
      have e0 : signAt z a' = sg (cd z)[a'] := by unfold signAt; rw [List.getElem?_eq_getElem hl]
      have ht1 : (cd z).take (a' + 1) = pre (g :: l) ++ cd nd.tree.text ++ [(cd z)[a']] := by rw [take_snoc hl, hwh.tx]
      rw [drop_cons hl] at hbr
      rw [e0]
      generalize (cd z)[a'] = c at hbr ht1
      rw [brk, cnt_cons] at hbr
      walk_at "sx"
      rw [lits.2.2.1, dC]
      refine x_ifd (fun c1 => ?_) (fun c1 => ?_)
      · subst c1
        walk_at "sx"
        rw [hlu]
        refine x_ifd (fun c2 => ?_) (fun c2 => ?_)
        · have hg0 : g.ts = [] := List.eq_nil_of_length_eq_zero (by omega)
          have hu0 : g.us = [] := List.eq_nil_of_length_eq_zero (by rw [hgu, hg0]; rfl)
          rw [if_pos (by rw [hg0]; rfl)] at hbr
          walk_at "sx"
          refine q1 (a' + 1) _ (g' :: l) _ (by omega) ⟨hlt, ?_, hwh.ll, ⟨hOk (by rw [hg0]; decide), hwh.st.2⟩, ?_⟩ (hw.rotL.drop1.drop1.sub fun r hr => List.mem_cons_of_mem _ hr)
          · rw [ht1, hg']
            simp only [pre]
            rw [pcs_snoc]
            simp
          · rw [← hbr, hg', cnt_cons, hg0]
            rfl
        · rw [if_neg (by simp; omega), if_neg (by simp)] at hbr
          walk_at "sx"
          exact x_mk1 (raise a' hbr.symm)
      · rw [if_neg (by simp [c1])] at hbr
        walk_at "sx"
        rw [lits.2.2.2, dC]
        refine x_ifn (fun c2 => ?_) (fun c2 => ?_)
        · rw [if_neg (by simp [c2])] at hbr
          walk_at "sx"
          exact x_mk1 (raise a' hbr.symm)
        · subst c2
          rw [if_pos (by simp)] at hbr
          walk_at "sx"
          refine w_popL hw 2 rfl (y := .ref g'.na) (by simp [opnd]) fun H hw => ?_
          walk_at "sx"
          refine ⟨l.length, by simp, l, g', a' + 1, _, rfl, by omega, rfl, ⟨hlt, ?_, ?_, ?_, ?_, ?_, hwh.st.2, ?_⟩, ?_⟩
          · rw [ht1, hg']
            simp only [Fra.tree, pre]
            rw [text_snoc]
            simp [Fra.tree]
          · rw [hg']
            exact .mk hok.nm hok.o0 hok.o6 (by simp; omega) (hok.ts.append (.cons hwh.ok .nil))
          · rw [hg']
            simp only [Fra.tree, Tr.high]
            rw [highs_append]
            have h1 := hok.hi
            have h2 := hwh.hi
            simp only [Fra.tree, List.length_cons, highs] at h2 ⊢
            omega
          · rw [hg']
            simp [hgu]
          · have := hwh.ll
            simp at this
            omega
          · rw [← hbr, run_ended]
            rfl
          · have hw2 : W K H0 As (As ++ M) H ((nd.na, .lst [.str nd.n, .int nd.o, .ref nd.pa]) :: (nd.pa, .lst nd.us) :: (po, opnd l) :: (g'.na, .lst [.str g'.n, .int g'.o, .ref g'.pa]) :: (g'.pa, .lst g'.us) :: scells l) (sfacts (nd :: g' :: l)) := by
              have e9 : HO.lst (((g' :: l).map fun f => V.ref f.na).reverse.dropLast) = opnd l := by simp [opnd]
              rw [← e9]
              exact hw
            exact (hw2.drop1.drop1.rotL).sub fun r hr => List.mem_cons_of_mem _ hr
    · have e0 : signAt z a' = Str.ofString "" := by
        unfold signAt
        rw [List.getElem?_eq_none (by rw [cd_len]; exact hge)]
        rfl
      rw [e0]
      rw [List.drop_eq_nil_of_le (by rw [cd_len]; exact hge), brk, if_neg (by simp [cnt])] at hbr
      walk_at "sx"
      exact x_mk1 (raise a' hbr.symm)
theorem ok_tree (F : FunD K "tree_in" "tree_in" (defArgs stree_in) (defBody stree_in) (defScope stree_in) [] kws f fd) (Gname_at : Fq P w K mg base (L2.CX P w) 3 "name_at" ["text", "at"] (spName CB)) (Gown_at : Fq P w K mg base (L2.CX P w) 3 "own_at" ["text", "at"] (spOwn CB)) (Ggoes_on : Fq P w K mg base (L2.CX P w) 3 "goes_on" ["text", "at", "opened", "node"] (spGoes K CB)) :
    FnG P w K mg base (L2.CX P w) 4 f fd ["text"] (spTree K CB) := by
  refine okGX F sctree_in (fun vs H Q E h => ?_) (fun cdv A outer s H0 vs Q E hG hr h => ?_)
  · obtain ⟨M, z, rfl, _⟩ := h
    rfl
  obtain ⟨M, z, rfl, hz, hM, q, qE⟩ := h
  have hw : W K H0 [] M H0 [] [] := W.start0 hM (fun _ z => nomatch z)
  refine ⟨_, [some (.str z), none, none, none, none, none, none], (pss_cons (ps_par3 (i := 1) (j := 2) (l := 3) rfl sctree_in.nd rfl rfl rfl (by decide) (by decide) (by decide) rfl rfl rfl (pa_cons pe_int (pa_cons (pe_lst pa_nil) (pa_cons pe_non pa_nil))) (by rfl))
  (pss_cons (ps_while PassesOwn.leaving (pt_cmpR (op_isU) (pv 3) pe_non (nomark _)) (pss_cons (ps_set (i := 4) sctree_in.nd rfl (Or.inl rfl) (pe_fqS hG takesE Gname_at hr (by first | decide | omega) (by rfl) (pa_cons (pv 0) (pa_cons (pv 1) pa_nil))))
  (pss_cons (ps_set (i := 5) sctree_in.nd rfl (Or.inl rfl) (pe_fqS hG takesE Gown_at hr (by first | decide | omega) (by rfl) (pa_cons (pv 0) (pa_cons (pv 4) pa_nil))))
  (pss_cons (ps_set (i := 6) sctree_in.nd rfl (Or.inl rfl) (pe_lst (pa_cons (pe_slice (sl_U (K := K)) (pv 0) (po_some (pv 1)) (po_some (pv 4))) (pa_cons (pe_callTy call_int_str (by rfl) B.int' (by decide +kernel) (pa_cons (pe_orK (K := K) (pe_slice (sl_U (K := K)) (pv 0) (po_some (pe_op (op_addU (K := K)) (pv 4) pe_int)) (po_some (pv 5))) (pe_one pe_str)) pa_nil)) (pa_cons (pe_lst pa_nil) pa_nil)))))
  (pss_cons (ps_set (i := 1) sctree_in.nd rfl (Or.inl rfl) (pv 5))
  (pss_one (ps_if (PW.pt (pw_and (pt_cmpR (op_eqU (K := K) hr) (pe_slice (sl_U (K := K)) (pv 0) (po_some (pv 1)) (po_some (pe_op (op_addU (K := K)) (pv 1) pe_int))) pe_str (nomark _)) (pw_and1 (pt_cmpR (op_lt) (pe_callB (call_lenU (K := K)) (by rfl) B.len (by decide +kernel) (pa_cons (pv 2) pa_nil)) (pe_gI (by rfl) C.MOST_DEEP) (nomark _))))) (pss_cons (ps_expr (Fw.pe_m1 (K := K) PySem.F.plainAttrs_list PySem.F.slot_list_append PySem.F.type_list_append mt_append (pv 2) (pa_cons (pv 6) pa_nil)))
  (pss_one (ps_aug (i := 1) sctree_in.nd rfl (Or.inl rfl) pe_int ip_add))) (pss_one (ps_asg (pe_fqS hG takesE Ggoes_on hr (by first | decide | omega) (by rfl) (pa_cons (pv 0) (pa_cons (pv 1) (pa_cons (pv 2) (pa_cons (pv 6) pa_nil))))) (pg_T (K := K) (n := 2) rfl (pgs_cons (pg_name (i := 1) sctree_in.nd rfl (Or.inl rfl)) (pgs_cons (pg_name (i := 3) sctree_in.nd rfl (Or.inl rfl)) pgs_nil))))))))))))
  (pss_cons (ps_if (pt_cmpR (op_lt) (pv 1) (pe_callB (call_lenU (K := K)) (by rfl) B.len (by decide +kernel) (pa_cons (pv 0) pa_nil)) (nomark _)) (pss_one (ps_raise rfl takesE (pmk_own bs_ValueError TBadText iBadText tBadText FiBadText hr (by decide) bBadText pass0 (by rfl) gBadText (pa_cons (pv 1) pa_nil)))) pss_nil)
  (pss_one (ps_ret (pe_fq hG Gclosed hr (by first | decide | omega) (by rfl) pass0 (pa_cons (pv 3) pa_nil))))))), rfl, ?_⟩
  walk_at "sx"
  rename Addr => po
  refine x_seq (w_while (fun m σ H => ∃ (a : Nat) (y4 y5 y6 : Option V), (m = z.length - a + 1 ∧ ∃ l, σ = [some (.str z), some (.int a), some (.ref po), some .non, y4, y5, y6] ∧ Await z a l ∧ W K H0 [] M H (cellsA po l) (sfacts l)) ∨
    (m = 0 ∧ ∃ nd : Fra, σ = [some (.str z), some (.int a), some (.ref po), some (.ref nd.na), y4, y5, y6] ∧ Whole z a nd [] ∧ W K H0 [] M H (cellsG po nd []) (sfacts [nd]))) (z.length + 1) ⟨0, none, none, none, .inl ⟨rfl, [], rfl, ⟨by omega, rfl, by simp, trivial, rfl⟩, hw⟩⟩ ?_)
  clear hw
  rintro m σ H ⟨a, y4, y5, y6, ⟨rfl, l, rfl, haw, hw⟩ | ⟨rfl, nd, rfl, hwh, hw⟩⟩
  · walk_at "sx"
    refine x_whB ?_
    walk_at "sx"
    refine ⟨z, a, cnt l, bad z, rfl, haw.az, hz, haw.rn, fun k nm hnm hkz hok hkl hst hrun => ?_, fun k d H' hb hd e hx => qE k d H' hb (hw.fresh hd (fun z => nomatch z)) (hw.ex.trans e) hx⟩
    walk_at "sx"
    refine ⟨z, nm, a + k, cnt l, bad z, rfl, hkz, hz, hok, hst, hrun, fun en fig h1 h2 hfig hrun => ?_, fun k d H' hb hd e hx => qE k d H' hb (hw.fresh hd (fun z => nomatch z)) (hw.ex.trans e) hx⟩
    walk_at "sx"
    refine x_slX (by omega) ?_
    have hcut : cutS z (some (a : Int)) (some ((a + k : Nat) : Int)) = nm := str_ext (by
      show cd _ = _
      rw [cd_cut z a (a + k) haw.az hkz, Nat.add_sub_cancel_left, hnm])
    rw [hcut]
    have hname : (cd z).drop a = cd nm ++ (cd z).drop (a + k) := by
      rw [hnm]
      exact drop_split _ _ _
    have hfigT : (cd z).drop (a + k) = figT fig ++ (cd z).drop en ∧ en = a + k + (figT fig).length := by
      rcases hfig with ⟨rfl, rfl, _⟩ | ⟨l', rfl, he, hdr, _⟩
      · exact ⟨rfl, rfl⟩
      · refine ⟨by rw [hdr]; simp [figT], by rw [he]; simp [figT]; omega⟩
    have hnl : (cd nm).length = k := by rw [cd_len]; exact hkl
    have htake : (cd z).take en = pre l ++ cd nm ++ figT fig := by
      rw [take_more (m := cd nm ++ figT fig) (a := a) (by rw [List.append_assoc, ← hfigT.1]; exact hname) (by rw [List.length_append, hnl, hfigT.2]; omega), haw.tx, List.append_assoc]
    refine x_cons (x_via (C := fun Q' => ∀ o : Int, 0 ≤ o → o < 1000000 → ((fig = none ∧ o = 0) ∨ ∃ l, fig = some (st l) ∧ 0 < o ∧ cd (Str.ofString (toString o)) = l) → Q' (.int o) H) ?_ ?_)
    · intro Q' kk
      walk_at "sx"
      refine x_slX (by omega) ?_
      rcases hfig with ⟨rfl, rfl, _⟩ | ⟨l', rfl, he, hdr, hD, hl1, hl6, hh, hsd⟩
      · have e0 : cutS z (some (((a + k : Nat) : Int) + 1)) (some ((a + k : Nat) : Int)) = Str.ofString "" := cut_back z (a + k)
        rw [e0]
        refine x_truS (by decide) ?_
        walk_at "sx"
        refine ⟨_, 0, rfl, by decide +kernel, by decide, ?_⟩
        exact kk 0 (by decide) (by decide) (.inl ⟨rfl, rfl⟩)
      · have e0 : cutS z (some (((a + k : Nat) : Int) + 1)) (some (en : Int)) = st l' := str_ext (by
          show cd _ = _
          have e1 : ((a + k : Nat) : Int) + 1 = ((a + k + 1 : Nat) : Int) := by omega
          rw [e1, cd_cut z (a + k + 1) en (by omega) h2, he, Nat.add_sub_cancel_left]
          have e2 : (cd z).drop (a + k + 1) = l' ++ (cd z).drop en := by
            rw [← List.drop_drop, hdr]
            rfl
          rw [e2, List.take_left']
          rfl)
        rw [e0]
        obtain ⟨o, ho1, ho2, ho3, ho4⟩ := dig_text hD hl1 hl6 hh
        refine x_truS (by show l'.length ≤ _; omega) ?_
        rw [show decide ((st l').length ≠ 0) = true from decide_eq_true (by show l'.length ≠ 0; omega)]
        walk_at "sx"
        refine ⟨_, o, rfl, ho1, by show l'.length ≤ _; omega, ?_⟩
        exact kk o (by omega) ho3 (.inr ⟨l', rfl, ho2, ho4⟩)
    intro o ho0 ho6 hof
    have hhead : cd (headT nm o) = cd nm ++ figT fig := head_fig hof
    walk_at "sx"
    rename_i pp _ _ _
    obtain ⟨nd, hnd⟩ : ∃ nd : Fra, nd = ⟨p, pp, nm, o, [], []⟩ := ⟨_, rfl⟩
    have hna : nd.na = p := by rw [hnd]
    replace hw : W K H0 [] M H (cellsG po nd l) (sfacts (nd :: l)) := by
      subst hnd
      exact hw.addA (by simp only [datas]; exact .nil)
    have hnw : noWord nm false = false := by
      unfold noWord
      rw [decide_eq_false hok.no, decide_eq_false (fun e => by have := hok.l1; rw [e] at this; exact absurd this (by decide))]
      rfl
    obtain ⟨rw1, rw2⟩ := run_whole (w := nm) (fig := fig) (T := (cd z).drop en) hnw (by
        rcases hfig with ⟨rfl, _⟩ | ⟨l', rfl, _, _, _, hl1, _⟩
        · exact fun z => nomatch z
        · intro e
          have e1 := congrArg Str.length (Option.some.inj e)
          have e2 : l'.length = 0 := e1
          omega) (fun e => by
        rcases hfig with ⟨_, rfl, hno⟩ | ⟨l', e2, _⟩
        · exact ⟨hst, hno⟩
        · rw [e] at e2; cases e2) (fun f e => by
        rcases hfig with ⟨e2, _⟩ | ⟨l', e2, _, _, _, _, _, _, hsd⟩
        · rw [e2] at e; cases e
        · rw [e2] at e; cases e; exact hsd) (cnt l) en
    have hcl : (cnt l).length = l.length := by simp [cnt]
    rw [hcl] at rw1 rw2
    have hwhole : ((∀ r, (cd z).drop en = 40 :: r → ¬ l.length < 30)) → Whole z en nd l := fun hno => by
      rw [hnd]
      refine ⟨h2, ?_, .mk hok ho0 ho6 (by simp) .nil, ?_, rfl, haw.ll, haw.st, by rw [← rw2 hno]; exact hrun⟩
      · rw [htake]
        simp only [Fra.tree]
        rw [text_none, hhead, List.append_assoc]
      · simp only [Fra.tree, Tr.high, highs]
        have := haw.ll
        omega
    have goes : ((∀ r, (cd z).drop en = 40 :: r → ¬ l.length < 30)) → ∀ {Q : VK} {E' : XK}, (∀ c d H, E' c d H = E c d H) → (∀ (a' : Nat) p l' H', en < a' → Await z a' l' → W K H0 [] M H' ((p, .tup [.int (a' : Nat), .non]) :: cellsA po l') (sfacts l') → Q (.ref p) H') →
        (∀ (a' : Nat) p nd' H', Whole z a' nd' [] → W K H0 [] M H' ((p, .tup [.int (a' : Nat), .ref nd'.na]) :: cellsG po nd' []) (sfacts [nd']) → Q (.ref p) H') → spGoes K CB [.str z, .int en, .ref po, .ref p] H Q E' := fun hno {Q E'} hE k1 k2 => by
      refine ⟨M, _, z, en, po, nd, l, by rw [hna], hz, rfl, hw.handM, hwhole hno, fun a' p l' H' h3 h4 h5 => k1 a' p l' H' h3 h4 ?_, fun a' p nd' H' h3 h4 => k2 a' p nd' H' h3 ?_, fun k d H' hb hd e hx => ?_⟩
      · exact (hw.backM h5).sub fun r hr => List.mem_append_left _ hr
      · exact (hw.backM h4).sub fun r hr => List.mem_append_left _ hr
      · rw [hE]
        exact qE k d H' hb (hw.fresh hd (fun z => nomatch z)) (hw.exBack e) hx
    refine x_slX (by omega) ?_
    rw [cut_sign z en h2]
    have hkk := hok.l1
    by_cases hpush : (∃ r, (cd z).drop en = 40 :: r) ∧ l.length < 30
    · obtain ⟨⟨r, hr40⟩, hl30⟩ := hpush
      have hlt : en < z.length := by
        rcases Nat.lt_or_ge en z.length with h | h
        · exact h
        · rw [List.drop_eq_nil_of_le (by rw [cd_len]; exact h)] at hr40
          cases hr40
      have hl : en < (cd z).length := by rw [cd_len]; exact hlt
      have hc40 : (cd z)[en] = 40 := by
        rw [drop_cons hl] at hr40
        exact (List.cons.inj hr40).1
      have e0 : signAt z en = sg 40 := by unfold signAt; rw [List.getElem?_eq_getElem hl, hc40]
      rw [e0]
      have hzz : (l.map fun f => V.ref f.na).reverse.length < sizeLine := sz_lt (by simp; omega)
      walk_at "sx"
      refine x_ifP (by simp; omega) ?_
      walk_at "sx"
      refine ⟨z.length - (en + 1) + 1, by omega, en + 1, _, _, _, .inl ⟨rfl, nd :: l, rfl, ⟨hlt, ?_, by simp; omega, ⟨?_, haw.st⟩, ?_⟩, ?_⟩⟩
      · rw [take_snoc hl, hc40, htake, hnd]
        simp only [pre]
        rw [hhead]
        simp [pcs]
      · rw [hnd]
        exact ⟨hok, ho0, ho6, .nil, by simp, by simp [highs]; omega, rfl⟩
      · rw [← hrun, rw1 _ (by rw [drop_cons hl, hc40]) hl30, cnt_cons, hnd]
        rfl
      · have hw2 : W K H0 [] M H ((nd.na, .lst [.str nd.n, .int nd.o, .ref nd.pa]) :: (nd.pa, .lst nd.us) :: (po, opnd (nd :: l)) :: scells l) (sfacts (nd :: l)) := by
          have e9 : opnd (nd :: l) = HO.lst ((l.map fun f => V.ref f.na).reverse ++ [V.ref p]) := by simp [opnd, hna]
          rw [e9]
          exact hw
        exact hw2.rotR
    · have hno : ∀ r, (cd z).drop en = 40 :: r → ¬ l.length < 30 := fun r e hl => hpush ⟨⟨r, e⟩, hl⟩
      walk_at "sx"
      refine x_ifd (fun c1 => ?_) (fun c1 => ?_)
      · have hlt : en < z.length := by
          rcases Nat.lt_or_ge en z.length with h | h
          · exact h
          · unfold signAt at c1
            rw [List.getElem?_eq_none (by rw [cd_len]; exact h)] at c1
            exact absurd (congrArg Str.length c1) (by decide)
        have hl : en < (cd z).length := by rw [cd_len]; exact hlt
        have hc40 : (cd z)[en] = 40 := by
          unfold signAt at c1
          rw [List.getElem?_eq_getElem hl, lits.2.1] at c1
          exact sg_eq.mp c1
        have hl30 := hno _ (by rw [drop_cons hl, hc40])
        walk_at "sx"
        refine x_ifN (by simp; omega) ?_
        walk_at "sx"
        refine goes hno (fun _ _ _ => rfl) (fun a' p l' H h3 h4 hw => ?_) (fun a' p nd' H h3 hw => ?_)
        · walk_at "sx"
          exact ⟨z.length - a' + 1, by omega, a', _, _, _, .inl ⟨rfl, l', rfl, h4, hw.drop1⟩⟩
        · walk_at "sx"
          exact ⟨0, by omega, a', _, _, _, .inr ⟨rfl, nd', rfl, h3, hw.drop1⟩⟩
      · walk_at "sx"
        refine goes hno (fun _ _ _ => rfl) (fun a' p l' H h3 h4 hw => ?_) (fun a' p nd' H h3 hw => ?_)
        · walk_at "sx"
          exact ⟨z.length - a' + 1, by omega, a', _, _, _, .inl ⟨rfl, l', rfl, h4, hw.drop1⟩⟩
        · walk_at "sx"
          exact ⟨0, by omega, a', _, _, _, .inr ⟨rfl, nd', rfl, h3, hw.drop1⟩⟩
  · walk_at "sxp"
    have hbr := hwh.br
    refine x_ifd (fun c1 => ?_) (fun c1 => ?_)
    · have hl : a < (cd z).length := by rw [cd_len]; omega
      rw [drop_cons hl, brk, if_neg (by simp [cnt]), if_neg (by simp [cnt])] at hbr
      walk_at "sx"
      exact x_mk1 fun d hd => qE a d _ hbr.symm (hw.fresh hd (fun z => nomatch z)) (hw.ex.trans (Ex.new hd)) upd_same
    · have hal : a = z.length := by have := hwh.az; omega
      rw [List.drop_eq_nil_of_le (by rw [cd_len]; omega), brk, if_pos (by simp [cnt])] at hbr
      walk_at "sx"
      refine ⟨_, nd.na, nd.pa, nd.n, nd.o, nd.us, nd.ts, rfl, hw.alloc', hw.at 0 rfl, hw.at 1 rfl, hw.all 0 rfl, fun p H e hd => ?_⟩
      refine q hbr.symm _ nd.tree _ hwh.ok (str_ext ?_) (by have := hwh.hi; simpa using this) (hw.ex.trans e) (hd.less fun x hx => List.mem_append_right _ hx)
      have := hwh.tx
      rw [hal, List.take_of_length_le (by rw [cd_len]; exact Nat.le_refl _)] at this
      rw [show z.cps.toList = cd z from rfl, this]
      rfl
end
end
end Law
namespace Law
open PySem PySem.Spec PyProof.Rows L2 Fw
abbrev shead_text : Stmt := topS 9
theorem schead_text : FnScope ["making", "own"] ["making", "own"] (defScope shead_text) := ⟨rfl, rfl, rfl, by decide +kernel, rfl, by decide +kernel, by decide +kernel⟩

abbrev sparts_within : Stmt := topS 10
theorem scparts_within : FnScope ["parts", "found", "part"] ["parts"] (defScope sparts_within) := ⟨rfl, rfl, rfl, by decide +kernel, rfl, by decide +kernel, by decide +kernel⟩

abbrev stree_text : Stmt := topS 11
theorem sctree_text : FnScope ["tree", "found", "waiting", "one", "making", "own", "parts"] ["tree"] (defScope stree_text) := ⟨rfl, rfl, rfl, by decide +kernel, rfl, by decide +kernel, by decide +kernel⟩

/-! ### f'..' -/
section
variable {σ : L2.St} {H : Hp} {Q : VK} {te : TE}
theorem x_js {t : TE} {ts : List TE} {acc : Str} {F : Str → Hp → Prop} (q : t σ H fun x H1 => ∃ y : Str, x = .str y ∧ (acc ++ y).length ≤ sizeLine ∧ tJs ts (acc ++ y) σ H1 F) : tJs (t :: ts) acc σ H F := q
theorem x_js0 {acc : Str} {F : Str → Hp → Prop} (q : F acc H) : tJs [] acc σ H F := q
theorem x_fmt (q : te σ H fun x H1 => (∃ y : Str, x = .str y ∧ y.length ≤ sizeLine ∧ Q (.str y) H1) ∨ ∃ i : Int, x = .int i ∧ i.natAbs.log2 < 1920 ∧ Q (.str (toString i)) H1) : tFmt te σ H Q := q
end
/-! ### what waits to be written -/
inductive Itm where
  | s (x : Str)
  | t (t : Tr)
def Itm.d : Itm → PyData
  | .s x => .str x
  | .t u => u.data
def Itm.cd : Itm → List Nat
  | .s x => Fw.cd x
  | .t u => Fw.cd u.text
def Itm.wt : Itm → Nat
  | .s _ => 1
  | .t u => 4 * u.size
def Itm.ok : Itm → Prop
  | .s x => x.length ≤ 10
  | .t u => TrOk u
def within (ps : List Tr) : List Itm := [.s "("] ++ ((ps.flatMap fun p => [Itm.t p, .s ","]).dropLast) ++ [.s ")"]
def withD (ps : List Tr) : List PyData := [PyData.str "("] ++ (ps.flatMap fun p => [p.data, PyData.str ","])
theorem within_d (ps : List Tr) (h : ps ≠ []) : (within ps).map Itm.d = (withD ps).dropLast ++ [PyData.str ")"] := by
  unfold within withD
  rw [List.map_append, List.map_append]
  congr 1
  have hne : (ps.flatMap fun p => [p.data, PyData.str (Str.ofString ",")]) ≠ [] := by
    cases ps with
    | nil => exact absurd rfl h
    | cons p ps => simp
  rw [List.dropLast_append_of_ne_nil hne, List.map_dropLast, List.map_flatMap]
  rfl
theorem within_cd {n : Str} {o : Int} {ps : List Tr} (h : ps.length ≤ 2) (h0 : ps ≠ []) : cd n ++ figL o ++ (within ps).flatMap Itm.cd = cd (Tr.mk n o ps).text := by
  have e1 : cd (Str.ofString "(") = [40] := by decide +kernel
  have e2 : cd (Str.ofString ",") = [44] := by decide +kernel
  have e3 : cd (Str.ofString ")") = [41] := by decide +kernel
  match ps, h, h0 with
  | [], _, h0 => exact absurd rfl h0
  | [a], _, _ => rw [text1]; simp [within, Itm.cd, e1, e2, e3]
  | [a, b], _, _ => rw [text2]; simp [within, Itm.cd, e1, e2, e3]
theorem within_wt {ps : List Tr} (h : ps.length ≤ 2) (h0 : ps ≠ []) : ((within ps).map Itm.wt).sum < 4 * (1 + sizes ps) := by
  match ps, h, h0 with
  | [], _, h0 => exact absurd rfl h0
  | [a], _, _ => simp [within, Itm.wt, sizes]; omega
  | [a, b], _, _ => simp [within, Itm.wt, sizes]; omega
theorem within_ok {ps : List Tr} (h : ps.length ≤ 2) (hp : TrsOk ps) : ∀ x ∈ within ps, x.ok := by
  have e1 : (Str.ofString "(").length ≤ 10 := by decide +kernel
  have e2 : (Str.ofString ",").length ≤ 10 := by decide +kernel
  have e3 : (Str.ofString ")").length ≤ 10 := by decide +kernel
  intro x hx
  unfold within at hx
  rcases List.mem_append.mp hx with hx | hx
  · rcases List.mem_append.mp hx with hx | hx
    · rw [List.mem_singleton.mp hx]; exact e1
    · obtain ⟨p, hp', hx⟩ := List.mem_flatMap.mp ((List.dropLast_sublist _).subset hx)
      simp only [List.mem_cons, List.not_mem_nil, or_false] at hx
      rcases hx with rfl | rfl
      · exact hp.mem p hp'
      · exact e2
  · rw [List.mem_singleton.mp hx]; exact e3
theorem within_len {ps : List Tr} (h : ps.length ≤ 2) : (within ps).length ≤ 6 := by
  match ps, h with
  | [], _ => decide
  | [a], _ => simp [within]
  | [a, b], _ => simp [within]
def spHead : Sp := fun vs H Q _ => ∃ (n : Str) (o : Int), vs = [.str n, .int o] ∧ n.length ≤ 10 ∧ 0 ≤ o ∧ o < 1000000 ∧ ∀ H', Ex [] H H' → Q (.str (headT n o)) H'
def spWithin (K : PySem.W.Frag) : Sp := fun vs H Q _ => ∃ (M : List Addr) (v : V) (ps : List Tr), vs = [v] ∧ Al M H ∧ Rp K M H v (.tuple (datas ps)) ∧ ps.length ≤ 2 ∧ ps ≠ [] ∧ ∀ q H', Ex [] H H' → Rp K M H' (.ref q) (.list ((within ps).map Itm.d)) → Q (.ref q) H'
def spText (K : PySem.W.Frag) : Sp := fun vs H Q _ => ∃ (M : List Addr) (v : V) (t : Tr), vs = [v] ∧ Al M H ∧ Rp K M H v t.data ∧ TrOk t ∧ t.size ≤ 200 ∧ ∀ H', Ex [] H H' → Q (.str t.text) H'
theorem cutD_last {ds : List PyData} : Fw.cutD ds none (some (-1)) = ds.dropLast := by
  unfold Fw.cutD
  rw [HT.sIx_none, List.drop_zero, Nat.sub_zero]
  have e : HT.sIx ds.length ds.length (some (-1)) = ds.length - 1 := by
    show (if (-1 : Int) < 0 then ((-1 : Int) + (ds.length : Int)).toNat else min (-1 : Int).toNat ds.length) = _
    rw [if_pos (by decide)]
    omega
  rw [e, List.dropLast_eq_take]
section
variable {P : Program} {w : World} {K : PySem.W.Frag} {mg : Str → Option Value} {base : Heap} {f : Addr} {fd : FuncData} {k : Nat} {kws : List (Str × V)}
theorem ok_head (F : FunD K "head_text" "head_text" (defArgs shead_text) (defBody shead_text) (defScope shead_text) [] kws f fd) : FnG P w K mg base CX0 1 f fd ["making", "own"] spHead := by
  refine okG F schead_text (fun vs H Q E h => ?_) (fun cdv A outer s H0 vs Q E hG hr h => ?_)
  · obtain ⟨n, o, rfl, _⟩ := h
    rfl
  obtain ⟨n, o, rfl, hn, h0, h6, q⟩ := h
  have hq := q H0 (fun _ _ _ z => z)
  have hl := num_len h0 h6
  refine ⟨_, [some (.str n), some (.int o)], (pss_one (ps_ret (pe_ifExp (pt_cmpR (op_gt) (pv 1) pe_int (nomark _)) (pe_joined (PJ.cons (pe_fmt (pv 0)) (PJ.cons pe_str (PJ.cons (pe_fmt (pv 1)) PJ.nil)))) (pv 0)))), rfl, ?_⟩
  walk_at "sxe"
  refine x_ifd (fun c1 => ?_) (fun c1 => ?_)
  · refine x_js (x_fmt (x_var rfl (.inl ⟨n, rfl, by rw [sizeLine_eq]; omega, n, rfl, ?_, x_js (x_c ⟨_, rfl, ?_, x_js (x_fmt (x_var rfl (.inr ⟨o, rfl, log_of (by omega), _, rfl, ?_, x_js0 ?_⟩)))⟩)⟩)))
    · rw [strLen_append, sizeLine_eq]; show 0 + _ ≤ _; omega
    · rw [strLen_append, strLen_append, sizeLine_eq]; show 0 + _ + 1 ≤ _; omega
    · rw [strLen_append, strLen_append, strLen_append, sizeLine_eq]; show 0 + _ + 1 + (Str.ofString (toString o)).length ≤ _; omega
    · have e : Str.empty ++ n ++ Str.ofString ":" ++ Str.ofString (toString o) = headT n o := cd_inj (by
        unfold headT
        rw [decide_eq_true c1, if_pos rfl, mul1, cd_app, cd_app, cd_app, cd_app, cd_app]
        show [] ++ cd n ++ _ ++ _ = _
        simp)
      rw [e]
      exact hq
  · walk_at "sxe"
    have e : headT n o = n := by
      unfold headT
      rw [decide_eq_false c1, if_neg (by decide), mul0]
      exact app_nil n
    rw [e] at hq
    exact hq
theorem ok_within (F : FunD K "parts_within" "parts_within" (defArgs sparts_within) (defBody sparts_within) (defScope sparts_within) [] kws f fd) : FnG P w K mg base CX0 1 f fd ["parts"] (spWithin K) := by
  refine okG F scparts_within (fun vs H Q E h => ?_) (fun cdv A outer s H0 vs Q E hG hr h => ?_)
  · obtain ⟨M, v, ps, rfl, _⟩ := h
    rfl
  obtain ⟨M, v, ps, rfl, hM, hv, hl, h0, q⟩ := h
  have hw : W K H0 [] M H0 [] [.rp v (.tuple (datas ps))] := W.start0 hM (fun r z => by rw [List.mem_singleton.mp z]; exact hv)
  obtain ⟨pt, _, rfl, _, _⟩ := Rp.tupI hv
  obtain ⟨xs, hxs, hw⟩ := hw.openT (hw.rp 0 rfl)
  have hxl : xs.length = ps.length := by rw [hxs.length, datas_length]
  replace hw := hw.addA hxs
  refine ⟨_, [some (.ref pt), none, none], (pss_cons (ps_set (i := 1) scparts_within.nd rfl (Or.inl rfl) (pe_lst (pa_cons pe_str pa_nil)))
  (pss_cons (ps_for PassesOwn.never rfl (pi_U (K := K) (pv 0)) (pg_name (i := 2) scparts_within.nd rfl (Or.inl rfl)) (pss_one (ps_expr (Fw.pe_m1 (K := K) PySem.F.plainAttrs_list PySem.F.slot_list_extend PySem.F.type_list_extend mt_extend (pv 1) (pa_cons (pe_lst (pa_cons (pv 2) (pa_cons pe_str pa_nil))) pa_nil)))))
  (pss_one (ps_ret (pe_op (op_addU (K := K)) (pe_slice (sl_U (K := K)) (pv 1) po_none (po_some (pe_un un_neg pe_int))) (pe_lst (pa_cons pe_str pa_nil))))))), rfl, ?_⟩
  walk_at "sxq"
  rename Addr => pf
  refine w_for (walk_tup (xs := xs)) (fun i σ H' => ∃ (us : List V) (y2 : Option V), σ = [some (.ref pt), some (.ref pf), y2] ∧ W K H0 [] M H' [(pf, .lst us)] [.al us (withD (ps.take i)), .al xs (datas ps), .tp pt xs]) ?_ ?_ ?_ ?_
  · exact ⟨[.str "("], _, rfl, (hw.pick [0, 1] rfl).addA (.cons (.str _) .nil)⟩
  · rintro i σ H _ ⟨us, y2, rfl, hw⟩
    exact hw.tp 2 rfl
  · rintro i x σ _ H hi ⟨us, y2, rfl, hw⟩ ⟨rfl, hx⟩
    obtain ⟨d, hd, hrp⟩ := RpAll.item (hw.all 1 rfl) hx
    obtain ⟨t, ht, rfl⟩ := datas_get hd
    have hul : us.length ≤ 10 := by
      rw [(hw.all 0 rfl).length]
      unfold withD
      simp only [List.length_append, List.length_flatMap, List.length_cons, List.length_nil]
      have : ((ps.take i).map fun _ => 2).sum ≤ 4 := by
        match ps, hl with
        | [], _ => simp
        | [a], _ => cases i <;> simp
        | [a, b], _ =>
          match i with
          | 0 => simp
          | 1 => simp
          | i + 2 => simp
      simp at this ⊢
      omega
    replace hw := hw.add hrp
    walk_at "sxq"
    refine w_extend (n := 1) hw rfl (hw.at 0 rfl) (by simp; omega) fun H hw => ?_
    simp only [List.set_cons_zero, List.set_cons_succ] at hw
    walk_at "sxq"
    refine ⟨us ++ [x, .str ","], _, rfl, ?_⟩
    replace hw := (hw.drop1.addA (DdAll.append (hw.drop1.all 1 rfl) (.cons (hw.drop1.rp 0 rfl) (.cons (.str (Str.ofString ",")) .nil))))
    rw [show withD (ps.take (i + 1)) = withD (ps.take i) ++ [t.data, PyData.str ","] by
      unfold withD
      rw [List.take_add_one, ht, List.flatMap_append, ← List.append_assoc]
      simp]
    exact hw.pick [0, 3, 4] rfl
  · rintro σ H ⟨us, y2, rfl, hw⟩
    rw [List.take_of_length_le (by omega)] at hw
    replace hw := hw.freeze0 (hw.all 0 rfl)
    walk_at "sxe"
    refine w_slLD hw (hw.rp 0 rfl) fun p1 H hp1 hw => ?_
    rw [cutD_last] at hw
    walk_at "sxe"
    refine w_catD hw (hw.rp 1 rfl) (hw.rp 0 rfl) (by
      have := within_len hl
      have e := congrArg List.length (within_d ps h0)
      rw [List.length_map, List.length_append] at e
      rw [sizeLine_eq, ← e]
      omega) fun p2 H hp2 hw => ?_
    walk_at "sxe"
    refine q p2 H hw.ex ?_
    rw [within_d ps h0]
    exact (hw.rp 0 rfl).less fun x hx => List.mem_append_right _ hx
theorem cd_join : ∀ fs : List Str, cd (Txt.join "" fs) = fs.flatMap cd := by
  intro fs
  rw [show Txt.join "" fs = Str.join "" fs from PySem.StrLaws.glued_eq_join "" fs]
  induction fs with
  | nil => rfl
  | cons y r ih =>
    cases r with
    | nil => show cd y = _; simp
    | cons z r =>
      have e2 : Str.join "" (y :: z :: r) = y ++ "" ++ Str.join "" (z :: r) := rfl
      rw [e2, cd_app, cd_app, ih]
      show cd y ++ [] ++ _ = _
      simp
theorem sum_le : ∀ fs : List Str, (∀ x ∈ fs, x.length ≤ 20) → (fs.map (·.length)).sum ≤ 20 * fs.length
  | [], _ => Nat.le_refl _
  | x :: fs, h => by
    have := sum_le fs fun y hy => h y (List.mem_cons_of_mem _ hy)
    have := h x (List.mem_cons_self ..)
    simp only [List.map_cons, List.sum_cons, List.length_cons]
    omega
theorem headT_len {n : Str} {o : Int} (hn : n.length ≤ 10) (h0 : 0 ≤ o) (h6 : o < 1000000) : (headT n o).length ≤ 20 := by
  have hl := num_len h0 h6
  unfold headT
  rw [strLen_append]
  split
  · rw [mul1, strLen_append]; show _ + (1 + _) ≤ _; omega
  · rw [mul0]; show _ + 0 ≤ _; omega
theorem ok_text (F : FunD K "tree_text" "tree_text" (defArgs stree_text) (defBody stree_text) (defScope stree_text) [] kws f fd) (B : BltX mg) (Ghead_text : Fq P w K mg base CX0 1 "head_text" ["making", "own"] spHead) (Gparts_within : Fq P w K mg base CX0 1 "parts_within" ["parts"] (spWithin K)) : FnG P w K mg base CX0 2 f fd ["tree"] (spText K) := by
  refine okG F sctree_text (fun vs H Q E h => ?_) (fun cdv A outer s H0 vs Q E hG hr h => ?_)
  · obtain ⟨M, v, t, rfl, _⟩ := h
    rfl
  obtain ⟨M, v, t, rfl, hM, hv, ht, hts, q⟩ := h
  have hw : W K H0 [] M H0 [] [.rp v t.data] := W.start0 hM (fun r z => by rw [List.mem_singleton.mp z]; exact hv)
  refine ⟨_, [some v, none, none, none, none, none, none], (pss_cons (ps_par (i := 1) (j := 2) rfl sctree_text.nd rfl rfl (by decide) rfl rfl (pa_cons (pe_lst pa_nil) (pa_cons (pe_lst (pa_cons (pv 0) pa_nil)) pa_nil)) (by rfl))
  (pss_cons (ps_while PassesOwn.never (pt_cmpR (op_gt) (pe_callB (call_lenU (K := K)) (by rfl) B.len (by decide +kernel) (pa_cons (pv 2) pa_nil)) pe_int (nomark _)) (pss_cons (ps_set (i := 3) sctree_text.nd rfl (Or.inl rfl) (Fw.pe_m0 (K := K) PySem.F.plainAttrs_list PySem.F.slot_list_pop PySem.F.type_list_pop mt_pop (pv 2)))
  (pss_one (ps_if (pt_val (pe_callB (call_isiU (K := K)) (by rfl) B.isinstance (by decide +kernel) (pa_cons (pv 3) (pa_cons (pe_bltn (v := .ty "str") (by rfl) B.str (by decide +kernel) rfl) pa_nil)))) (pss_one (ps_expr (Fw.pe_m1 (K := K) PySem.F.plainAttrs_list PySem.F.slot_list_append PySem.F.type_list_append mt_append (pv 1) (pa_cons (pv 3) pa_nil)))) (pss_cons (ps_asg (pv 3) (pg_T (K := K) (n := 3) rfl (pgs_cons (pg_name (i := 4) sctree_text.nd rfl (Or.inl rfl)) (pgs_cons (pg_name (i := 5) sctree_text.nd rfl (Or.inl rfl)) (pgs_cons (pg_name (i := 6) sctree_text.nd rfl (Or.inl rfl)) pgs_nil)))))
  (pss_cons (ps_expr (Fw.pe_m1 (K := K) PySem.F.plainAttrs_list PySem.F.slot_list_append PySem.F.type_list_append mt_append (pv 1) (pa_cons (pe_fq hG Ghead_text hr (by first | decide | omega) (by rfl) pass0 (pa_cons (pv 4) (pa_cons (pv 5) pa_nil))) pa_nil)))
  (pss_one (ps_if (pt_cmpR (op_gt) (pe_callB (call_lenU (K := K)) (by rfl) B.len (by decide +kernel) (pa_cons (pv 6) pa_nil)) pe_int (nomark _)) (pss_one (ps_expr (Fw.pe_m1 (K := K) PySem.F.plainAttrs_list PySem.F.slot_list_extend PySem.F.type_list_extend mt_extend (pv 2) (pa_cons (pe_revU (K := K) (pe_fq hG Gparts_within hr (by first | decide | omega) (by rfl) pass0 (pa_cons (pv 6) pa_nil))) pa_nil)))) pss_nil))))))))
  (pss_one (ps_ret (Fw.pe_m1 (K := K) PySem.F.plainAttrs_str PySem.F.slot_str_join PySem.F.type_str_join mt_join pe_str (pa_cons (pv 1) pa_nil)))))), rfl, ?_⟩
  walk_at "sxq"
  rename_i pf _ _ _
  rename Addr => pw
  refine w_while (fun m σ H' => ∃ (its : List Itm) (fs : List Str) (wv : List V) (y3 y4 y5 y6 : Option V), σ = [some v, some (.ref pf), some (.ref pw), y3, y4, y5, y6] ∧ (its.map Itm.wt).sum = m ∧ (∀ x ∈ its, x.ok) ∧ fs.flatMap cd ++ its.reverse.flatMap Itm.cd = cd t.text ∧ (∀ x ∈ fs, x.length ≤ 20) ∧ fs.length + m ≤ 4 * t.size ∧
    W K H0 [] M H' [(pw, .lst wv), (pf, .lst (fs.map V.str))] [.al wv (its.map Itm.d)]) (4 * t.size) ?_ ?_
  · exact ⟨[.t t], [], [v], _, _, _, _, rfl, by simp [Itm.wt], fun x hx => by rw [List.mem_singleton.mp hx]; exact ht, by simp [Itm.cd], (fun _ z => nomatch z), by simp, (hw.pick [] rfl).addA (.cons (hw.rp 0 rfl) .nil)⟩
  · rintro m σ H ⟨its, fs, wv, y3, y4, y5, y6, rfl, hm, hok, hcd, hfs, hfm, hw⟩
    have hwl : wv.length = its.length := by rw [(hw.all 0 rfl).length, List.length_map]
    have hzf : (fs.map V.str).length < sizeLine := sz_lt (by rw [List.length_map]; omega)
    walk_at "sxq"
    refine x_ifd (fun c1 => ?_) (fun c1 => ?_)
    · rcases List.eq_nil_or_concat its with rfl | ⟨its, x, rfl⟩
      · rw [hwl] at c1
        exact absurd c1 (by simp)
      rw [List.concat_eq_append] at hm hok hcd hwl
      have hal := hw.all 0 rfl
      rw [List.concat_eq_append, List.map_append] at hal
      obtain ⟨wv, pv, rfl, ha1, ha2⟩ := RpAll.snoc_inv hal
      replace hw := (hw.addA ha1).add ha2
      rw [List.map_append, List.sum_append] at hm
      rw [List.reverse_append, List.flatMap_append] at hcd
      have hitl : its.length ≤ 1000 := by
        have key : ∀ l : List Itm, l.length ≤ (l.map Itm.wt).sum := by
          intro l
          induction l with
          | nil => simp
          | cons a l ih =>
            have : 1 ≤ a.wt := by
              cases a with
              | s _ => exact Nat.le_refl _
              | t t => have := size_pos t; simp only [Itm.wt]; omega
            simp only [List.length_cons, List.map_cons, List.sum_cons]
            omega
        have := key its
        omega
      have hwvl : wv.length = its.length := by rw [ha1.length, List.length_map]
      have hok1 : ∀ y ∈ its, y.ok := fun y hy => hok y (List.mem_append_left _ hy)
      have hx := hok x (List.mem_append_right _ (List.mem_singleton.mpr rfl))
      refine x_whB ?_
      walk_at "sxq"
      refine w_pop (n := 0) hw rfl fun H hw => ?_
      simp only [List.set_cons_zero] at hw
      cases x with
      | s x =>
        cases ha2
        walk_at "sxq"
        refine ⟨(its.map Itm.wt).sum, by simp [Itm.wt] at hm; omega, its, fs ++ [x], wv, _, _, _, _, rfl, rfl, hok1, ?_, fun y hy => ?_, ?_, ?_⟩
        · rw [← hcd, List.flatMap_append, List.append_assoc]
          simp [Itm.cd]
        · rcases List.mem_append.mp hy with hy | hy
          · exact hfs y hy
          · rw [List.mem_singleton.mp hy]; have : x.length ≤ 10 := hx; omega
        · rw [List.length_append]; simp [Itm.wt] at hm ⊢; omega
        · rw [List.map_append]
          exact hw.pick [1] rfl
      | t t1 =>
        obtain ⟨n, o, ps⟩ := t1
        obtain ⟨h1, h2, h3, h4, h5⟩ := (show TrOk (.mk n o ps) from hx).parts
        obtain ⟨ta, pt, rfl, hw⟩ := hw.tree 0 rfl
        have hn10 : n.length ≤ 10 := by have := h1.l6; omega
        have hwt : (its.map Itm.wt).sum + 4 * (1 + sizes ps) = m := by rw [← hm]; simp [Itm.wt, Tr.size]
        have hcd2 : fs.flatMap cd ++ (cd (Tr.mk n o ps).text ++ its.reverse.flatMap Itm.cd) = cd t.text := by rw [← hcd]; simp [Itm.cd]
        walk_at "sxq"
        refine x_isiQ (hw.tp 0 rfl) (b := false) (by decide +kernel) ?_
        walk_at "sxq"
        refine ⟨n, o, rfl, hn10, h2, h3, fun H e => ?_⟩
        replace hw := hw.pure e
        walk_at "sxq"
        obtain ⟨xs, hxs, hw⟩ := hw.openT (hw.rp 1 rfl)
        have hxl : xs.length = ps.length := by rw [hxs.length, datas_length]
        refine x_lenT (hw.tp 0 rfl) ?_
        walk_at "sxq"
        have hfs2 : ∀ y ∈ fs ++ [headT n o], y.length ≤ 20 := fun y hy => by
          rcases List.mem_append.mp hy with hy | hy
          · exact hfs y hy
          · rw [List.mem_singleton.mp hy]; exact headT_len hn10 h2 h3
        refine x_ifd (fun c3 => ?_) (fun c3 => ?_)
        · have hps : ps ≠ [] := fun z => by rw [z] at hxl; rw [hxl] at c3; exact absurd c3 (by decide)
          walk_at "sxq"
          refine ⟨_, .ref pt, ps, rfl, hw.alloc', hw.rp 2 rfl, h4, hps, fun pq H e hq => ?_⟩
          replace hw := (hw.pure e).add hq
          obtain ⟨zs, hzs, hw⟩ := hw.open (hw.rp 0 rfl)
          replace hw := hw.addA hzs
          have hzl : zs.length ≤ 6 := by rw [hzs.length, List.length_map]; exact within_len h4
          walk_at "sxq"
          refine w_extend (n := 1) hw rfl (hw.at 0 rfl) (by rw [List.length_reverse]; omega) fun H hw => ?_
          simp only [List.set_cons_zero, List.set_cons_succ] at hw
          replace hw := hw.drop1
          have hlt := within_wt h4 hps
          walk_at "sxq"
          replace hw := hw.addA (DdAll.append (hw.all 7 rfl) (DdAll.reverse (hw.all 0 rfl)))
          refine ⟨(its.map Itm.wt).sum + ((within ps).map Itm.wt).sum, by omega, its ++ (within ps).reverse, fs ++ [headT n o], wv ++ zs.reverse, _, _, _, _, rfl, ?_, fun y hy => ?_, ?_, hfs2, ?_, ?_⟩
          · rw [List.map_append, List.sum_append, List.map_reverse, List.sum_reverse]
          · rcases List.mem_append.mp hy with hy | hy
            · exact hok1 y hy
            · exact within_ok h4 h5 y (List.mem_reverse.mp hy)
          · rw [← hcd2, List.reverse_append, List.reverse_reverse, List.flatMap_append, List.flatMap_append, ← within_cd h4 hps, ← head_cd]
            simp [List.append_assoc]
          · rw [List.length_append]; show _ + 1 + _ ≤ _; omega
          · rw [List.map_append, List.map_append, List.map_reverse]
            exact hw.pick [0] rfl
        · have hps : ps = [] := List.eq_nil_of_length_eq_zero (by omega)
          subst hps
          walk_at "sxq"
          refine ⟨(its.map Itm.wt).sum, by omega, its, fs ++ [headT n o], wv, _, _, _, _, rfl, rfl, hok1, ?_, hfs2, by rw [List.length_append]; show _ + 1 + _ ≤ _; omega, ?_⟩
          · rw [← hcd2, text_none, List.flatMap_append, List.append_assoc]
            simp
          · rw [List.map_append]
            exact hw.pick [4] rfl
    · have hi0 : its = [] := List.eq_nil_of_length_eq_zero (by omega)
      subst hi0
      walk_at "sxq"
      have hsum := sum_le fs hfs
      refine ⟨_, pf, fs, rfl, rfl, .inl (SqL.of (hw.at 1 rfl)), ?_, ?_⟩
      · have e0 : (Str.ofString "").length = 0 := rfl
        rw [e0]
        omega
      have e : Txt.join "" fs = t.text := cd_inj (by rw [cd_join, ← hcd]; simp)
      rw [e]
      walk_at "sxq"
      exact q _ hw.ex
end
end Law
namespace Law
open PySem PySem.Spec PyProof.Rows L2 Fw
abbrev s_law_right : Stmt := topS 36
theorem sc_law_right : FnScope ["_law_box", "_law_names", "_law_g", "_law_some", "_law_deep", "_law_wide", "_law_turn", "_law_tree", "_law_due", "_law_again", "_law_told", "_law_found", "_law_kept", "_law_texts", "_law_k"] ["_law_box"] (defScope s_law_right) := ⟨rfl, rfl, rfl, by decide +kernel, rfl, by decide +kernel, by decide +kernel⟩

abbrev slaw : Stmt := topS 37
theorem sclaw : FnScope ["_law_script", "_law_cells", "_law_k"] ["_law_script"] (defScope slaw) := ⟨rfl, rfl, rfl, by decide +kernel, rfl, by decide +kernel, by decide +kernel⟩

structure Sm (t : Tr) : Prop where
  ok : TrOk t
  sz : t.size ≤ 130
  hi : t.high ≤ 31
  tx : t.text.length ≤ 2000
theorem Sm.of {t : Tr} (h : TrOk t) (hs : t.size ≤ 61) (hh : t.high ≤ 31) : Sm t := ⟨h, by omega, hh, by have := text_len h; omega⟩
def spRight : Sp := fun vs H Q _ => ∃ (b : Addr) (a s c : Int), vs = [.ref b] ∧ H b = some (box a s c) ∧ Bx a s c ∧ c ≤ 1000 ∧ ∀ o H', Ex [b] H H' → H' b = some o → Q (.bl true) H'
def spLaw (K : PySem.W.Frag) : Sp := fun vs H Q _ => ∃ (a : Addr) (ns : List Int), vs = [.ref a] ∧ SqL K H a (ns.map V.int) ∧ ns.length ≤ 63 ∧ ∀ H', Q (.bl true) H'
theorem pl_mono {n m : Nat} {d : PyData} (h : pl n d = true) (hm : n ≤ m) : pl m d = true := by
  induction hm with
  | refl => exact h
  | step _ ih => exact pl_up ih
mutual
theorem pl_tree : ∀ {t : Tr}, TrOk t → pl (2 * t.high) t.data = true
  | .mk n o ps, h => by
    obtain ⟨h1, h2, h3, h4, h5⟩ := h.parts
    have ih := pl_trees h5 (highs ps) (Nat.le_refl _)
    simp only [Tr.data, Tr.high]
    rw [show 2 * (1 + highs ps) = (2 * highs ps + 1) + 1 by omega]
    simp only [pl, List.all_cons, List.all_nil, List.length_cons, List.length_nil, flatD, Bool.and_true, Bool.true_and, Bool.and_eq_true, decide_eq_true_eq, List.all_eq_true]
    refine ⟨by omega, by rw [datas_length]; omega, fun d hd => ?_⟩
    rw [datas_map] at hd
    obtain ⟨u, hu, rfl⟩ := List.mem_map.mp hd
    exact ih u hu
theorem pl_trees : ∀ {ts : List Tr}, TrsOk ts → ∀ n, highs ts ≤ n → ∀ u ∈ ts, pl (2 * n) u.data = true
  | [], _, _, _, _, hu => nomatch hu
  | t :: ts, h, n, hn, u, hu => by
    cases h with
    | cons a b =>
      simp only [highs] at hn
      rcases List.mem_cons.mp hu with e | hu
      · rw [e]; exact pl_mono (pl_tree a) (by omega)
      · exact pl_trees b n (by omega) u hu
end
mutual
theorem tree_plain : ∀ {t : Tr}, TrOk t → Fw.plain t.data = true ∧ bulk t.data + 2 ≤ 138 * t.size
  | .mk n o ps, h => by
    obtain ⟨hn, h0, h6, _, hps⟩ := h.parts
    obtain ⟨a, b⟩ := trees_plain hps
    have hl := hn.l6
    simp only [Tr.data, Fw.plain, plains, bulk, bulks, a, Bool.and_true, Bool.and_eq_true, decide_eq_true_eq, Tr.size]
    refine ⟨⟨?_, by omega⟩, by omega⟩
    simp only [List.all_eq_true, decide_eq_true_eq]
    intro c hc
    have := hn.small c hc
    omega
theorem trees_plain : ∀ {ts : List Tr}, TrsOk ts → plains (datas ts) = true ∧ bulks (datas ts) ≤ 138 * sizes ts
  | [], _ => ⟨rfl, Nat.le_refl _⟩
  | t :: ts, .cons h hs => by
    obtain ⟨a, b⟩ := tree_plain h
    obtain ⟨c, d⟩ := trees_plain hs
    have := size_pos t
    simp only [datas, plains, bulks, a, c, Bool.and_self, sizes]
    exact ⟨trivial, by omega⟩
end
theorem one_plain {t : Tr} (h : Sm t) : Fw.plain t.data = true ∧ t.data.depth ≤ 150 ∧ bulk t.data ≤ 10000000 := by
  obtain ⟨a, b⟩ := tree_plain h.ok
  obtain ⟨_, e⟩ := data_lay h.ok
  have := h.hi
  have := h.sz
  exact ⟨a, by omega, by omega⟩
theorem tree_shaped {t : Tr} (h : TrOk t) (hh : t.high ≤ 31) : SeqAt.shaped t.data = true := by
  obtain ⟨a, b⟩ := data_lay h
  unfold SeqAt.shaped
  rw [a, Bool.true_and]
  exact decide_eq_true (by omega)
mutual
theorem eqv_tree : ∀ (t t' : Tr), PyData.eqv t.data t'.data = true ↔ t = t'
  | .mk n o ps, .mk n' o' ps' => by
    have ih := eqv_trees ps ps'
    simp only [Tr.data, PyData.eqv, PyData.eqvAll, Bool.and_eq_true, beq_iff_eq, Bool.and_true, Tr.mk.injEq, ih]
theorem eqv_trees : ∀ (ts ts' : List Tr), PyData.eqvAll (datas ts) (datas ts') = true ↔ ts = ts'
  | [], [] => by simp [datas, PyData.eqvAll]
  | [], _ :: _ => by simp [datas, PyData.eqvAll]
  | _ :: _, [] => by simp [datas, PyData.eqvAll]
  | t :: ts, t' :: ts' => by
    have h1 := eqv_tree t t'
    have h2 := eqv_trees ts ts'
    simp only [datas, PyData.eqvAll, Bool.and_eq_true, List.cons.injEq, h1, h2]
end
theorem eq_both {t t' : Tr} (h : TrOk t) (h' : TrOk t') : (decide (decide (t.text = t'.text) = PyData.eqv t.data t'.data)) = true := by
  refine decide_eq_true ?_
  by_cases e : t.text = t'.text
  · rw [decide_eq_true e, (eqv_tree t t').mpr (text_inj h h' e)]
  · rw [decide_eq_false e]
    cases hb : PyData.eqv t.data t'.data with
    | false => rfl
    | true => exact absurd (by rw [(eqv_tree t t').mp hb]) e
section
variable {K : PySem.W.Frag} {H0 H : Hp} {Ms M0 : List Addr} {L : List (Addr × HO)} {R : List Fa} {b g p2 : Addr} {a s c : Int} {v u x : V} {d : PyData} {Q : VK} {E : XK} {t y : Tr}
theorem x_treeOf {kvs : List (Key × V)} {ms : List MRow} {names : List Str} {mo : Int} (hw : W K H0 Ms M0 H L R) (i j1 j2 : Nat) (hL : L[i]? = some (b, box a s c)) (h1 : R[j1]? = some (.kn g (.dK kvs))) (hk : mkK kvs p2) (h2 : R[j2]? = some (.rp (.ref p2) (.list (ms.map MRow.d)))) (hml : ms.length ≤ 8) (hms : ∀ r ∈ ms, NameOk r.1 ∧ r.2.2.length ≤ 2) (hnm : ∀ r ∈ ms, r.2.1 ∈ names) (h4 : names.length ≤ 4) (m1 : 1 ≤ mo) (m2 : mo ≤ 40) (bx : Bx a s c) (hc : c + 2000 < 2 ^ 40)
    (q : ∀ v d a' c' H', (d = .none ∨ ∃ t, TrOk t ∧ t.size ≤ 50 ∧ t.high ≤ 28 ∧ d = t.data) → Bx a' s c' → c' ≤ c + 2000 → W K H0 Ms M0 H' (L.set i (b, box a' s c')) (.rp v d :: R) → Q v H') : spTreeOf K [.ref b, .ref g, .int mo] H Q E :=
  ⟨av L M0, b, g, p2, kvs, ms, names, mo, a, s, c, rfl, hw.alloc', List.mem_append_left _ (List.mem_map.mpr ⟨_, List.mem_of_getElem? hL, rfl⟩), hw.knA j1 h1, hk, hw.rp j2 h2, hml, hms, hnm, h4, m1, m2, hw.at i hL, bx, hc, fun a' c' H' k1 k2 k3 k4 => q .non .none a' c' H' (.inl rfl) k1 k2 (hw.callD i hL k3 k4 .non), fun v t a' c' H' k1 k2 k3 k4 k5 k6 k7 k8 => q v t.data a' c' H' (.inr ⟨t, k1, k2, k3, rfl⟩) k4 k5 (hw.callD i hL k6 k7 k8)⟩
theorem x_same (hw : W K H0 Ms M0 H L R) (h1 : Dd K H v d) (h2 : Dd K H u d) (hp : pl 130 d = true) (q : ∀ H', W K H0 Ms M0 H' L R → Q (.bl true) H') : spSame K 130 [v, u] H Q E := ⟨v, u, d, rfl, h1, h2, hp, fun H' e => q H' (hw.pure e)⟩
theorem x_text (hw : W K H0 Ms M0 H L R) (h1 : Rp K (av L M0) H v t.data) (ht : Sm t) (q : ∀ H', W K H0 Ms M0 H' L R → Q (.str t.text) H') : spText K [v] H Q E := ⟨av L M0, v, t, rfl, hw.alloc', h1, ht.ok, by have := ht.sz; omega, fun H' e => q H' (hw.pure e)⟩
theorem x_in {CB : Addr} (hw : W K H0 Ms M0 H L R) (ht : Sm t) (q : ∀ v H', W K H0 Ms M0 H' L (.rp v t.data :: R) → Q v H') : spTree K CB [.str t.text] H Q E :=
  ⟨av L M0, t.text, rfl, ht.tx, hw.alloc', fun _ v t' H' k1 k2 k3 k4 k5 => q v H' ((hw.pure k4).add (by rw [← text_inj k1 ht.ok k2]; exact k5)), fun k d H' h => by rw [bad_none ht.ok ht.hi] at h; cases h⟩
theorem x_spelled {n : Nat} (hw : W K H0 Ms M0 H L R) (h1 : Rp K (av L M0) H v t.data) (ht : Sm t) (hn : 31 ≤ n) (q : ∀ H', W K H0 Ms M0 H' L R → Q (.str t.text) H') : spSpelled K n [v] H Q E := ⟨v, t, rfl, h1.dd, ht.ok, by have := ht.hi; omega, by have := ht.sz; omega, fun H' e => q H' (hw.pure e)⟩
end
theorem at_prev {α : Type} {xs : List α} {j : Nat} {x : α} (h : xs[if j = 0 then xs.length - 1 else j - 1]? = some x) : atI xs (0 + (j : Int) - 1) = some x := by
  cases j with
  | zero =>
    rw [if_pos rfl] at h
    have hl := (List.getElem?_eq_some_iff.mp h).1
    unfold atI ixN
    rw [if_neg (by omega), if_pos (by omega)]
    show xs[((0 + ((0 : Nat) : Int) - 1) + (xs.length : Int)).toNat]? = some x
    rw [show ((0 + ((0 : Nat) : Int) - 1) + (xs.length : Int)).toNat = xs.length - 1 by omega]
    exact h
  | succ j =>
    rw [if_neg (by omega), Nat.add_sub_cancel] at h
    rw [show 0 + ((j + 1 : Nat) : Int) - 1 = (j : Int) by omega]
    exact atI_nat h
theorem nm_a : NameOk "a" := ⟨by decide +kernel, by decide +kernel, by decide +kernel, by decide +kernel⟩
theorem nm_b : NameOk "b" := ⟨by decide +kernel, by decide +kernel, by decide +kernel, by decide +kernel⟩
theorem nm_owna : NameOk "owna" := ⟨by decide +kernel, by decide +kernel, by decide +kernel, by decide +kernel⟩
section
variable {P : Program} {w : World} {K : PySem.W.Frag} {mg : Str → Option Value} {base : Heap} {f : Addr} {fd : FuncData} {k : Nat} {kws : List (Str × V)}
theorem ok_right (F : FunD K "_law_right" "_law_right" (defArgs s_law_right) (defBody s_law_right) (defScope s_law_right) [] kws f fd) (B : BltX mg) {CB : Addr} (G_law_take : Fq P w K mg base CX0 1 "_law_take" ["_law_box", "_law_many"] spTake) (G_law_named : Fq P w K mg base CX0 2 "_law_named" ["_law_box", "_law_many"] spNamed) (G_law_wild : Fq P w K mg base CX0 33 "_law_wild" ["_law_box", "_law_names", "_law_room", "_law_deep"] (spWild K 30)) (G_law_any : Fq P w K mg base CX0 5 "_law_any" ["_law_box"] (spAny K P w)) (G_law_tree_of : Fq P w K mg base CX0 32 "_law_tree_of" ["_law_box", "_law_g", "_law_most"] (spTreeOf K))
    (G_law_spelled : Fq P w K mg base CX0 32 "_law_spelled" ["_law_tree"] (spSpelled K 31)) (G_law_same : Fq P w K mg base CX0 131 "_law_same" ["_law_found", "_law_due"] (spSame K 130)) (Gtree_in : Fq P w K mg base (L2.CX P w) 4 "tree_in" ["text"] (spTree K CB)) (Gtree_text : Fq P w K mg base CX0 2 "tree_text" ["tree"] (spText K)) : FnG P w K mg base CX0 132 f fd ["_law_box"] spRight := by
  refine okG F sc_law_right (fun vs H Q E h => ?_) (fun cdv A outer s H0 vs Q E hG hr h => ?_)
  · obtain ⟨b, a, s, c, rfl, _⟩ := h
    rfl
  obtain ⟨b, a, s, c, rfl, hb, bx, hc, q⟩ := h
  have hw : W K H0 [b] [] H0 [(b, box a s c)] [] := W.start1 hb (fun _ z => nomatch z) (fun _ z => nomatch z)
  refine ⟨_, [some (.ref b), none, none, none, none, none, none, none, none, none, none, none, none, none, none], (pss_cons (ps_asg (pe_tup (pa_cons (pe_fq hG G_law_named hr (by first | decide | omega) (by rfl) pass0 (pa_cons (pv 0) (pa_cons pe_int pa_nil))) (pa_cons (pe_fq hG G_law_any hr (by first | decide | omega) (by rfl) pass0 (pa_cons (pv 0) pa_nil)) pa_nil))) (pg_T (K := K) (n := 2) rfl (pgs_cons (pg_name (i := 1) sc_law_right.nd rfl (Or.inr rfl)) (pgs_cons (pg_name (i := 2) sc_law_right.nd rfl (Or.inl rfl)) pgs_nil))))
  (pss_cons (ps_set (i := 3) sc_law_right.nd rfl (Or.inr rfl) (pe_lst (pa_cons (pe_tup (pa_cons pe_str (pa_cons pe_int (pa_cons (pe_tup pa_nil) pa_nil)))) (pa_cons (pe_tup (pa_cons pe_str (pa_cons pe_int (pa_cons (pe_tup pa_nil) pa_nil)))) pa_nil))))
  (pss_cons (ps_set (i := 3) sc_law_right.nd rfl (Or.inr rfl) (pe_op (op_addU (K := K)) (pv 3) (pe_lc (own := [("_law_turn", 6)]) rfl sc_law_right.nd (pi_range1 (by rfl) B.range (pa_cons pe_int pa_nil)) (blkOk_by (own := [("_law_turn", 6)]) (N := ["_law_box", "_law_names", "_law_g", "_law_some", "_law_deep", "_law_wide", "_law_turn", "_law_tree", "_law_due", "_law_again", "_law_told", "_law_found", "_law_kept", "_law_texts", "_law_k"]) (sc := defScope s_law_right) (by decide +kernel)) (fun _ _ _ _ _ => (pg_name (i := 6) sc_law_right.nd rfl (Or.inl rfl))) (fun _ _ _ _ _ => pts_nil) (fun _ _ _ _ _ => (pe_fq hG G_law_wild hr (by first | decide | omega) (by rfl) pass0 (pa_cons (pv 0) (pa_cons (pv 1) (pa_cons (pe_op (op_addU (K := K)) pe_int (pe_fq hG G_law_take hr (by first | decide | omega) (by rfl) pass0 (pa_cons (pv 0) (pa_cons pe_int pa_nil)))) (pa_cons pe_int pa_nil)))))))))
  (pss_cons (ps_set (i := 3) sc_law_right.nd rfl (Or.inr rfl) (pe_op (op_addU (K := K)) (pv 3) (pe_lc (own := [("_law_tree", 7)]) rfl sc_law_right.nd (pi_U (K := K) (pe_lst (pa_cons (pe_fq hG G_law_tree_of hr (by first | decide | omega) (by rfl) pass0 (pa_cons (pv 0) (pa_cons (pv 2) (pa_cons pe_int pa_nil)))) (pa_cons (pe_fq hG G_law_tree_of hr (by first | decide | omega) (by rfl) pass0 (pa_cons (pv 0) (pa_cons (pv 2) (pa_cons pe_int pa_nil)))) pa_nil)))) (blkOk_by (own := [("_law_tree", 7)]) (N := ["_law_box", "_law_names", "_law_g", "_law_some", "_law_deep", "_law_wide", "_law_turn", "_law_tree", "_law_due", "_law_again", "_law_told", "_law_found", "_law_kept", "_law_texts", "_law_k"]) (sc := defScope s_law_right) (by decide +kernel)) (fun _ _ _ _ _ => (pg_name (i := 7) sc_law_right.nd rfl (Or.inl rfl))) (fun _ _ _ _ _ => (pts_one (pt_cmpR (op_isNotU) (pv 7) pe_non (nomark _)))) (fun _ _ _ _ _ => (pv 7)))))
  (pss_cons (ps_par (i := 4) (j := 5) rfl sc_law_right.nd rfl rfl (by decide) rfl rfl (pa_cons (pe_tup (pa_cons (pe_ix (ix_U (K := K)) (pv 1) pe_int (fun _ _ => rfl)) (pa_cons pe_int (pa_cons (pe_tup pa_nil) pa_nil)))) (pa_cons (pe_tup (pa_cons pe_str (pa_cons pe_int (pa_cons (pe_tup pa_nil) pa_nil)))) pa_nil)) (by rfl))
  (pss_cons (ps_for PassesOwn.never rfl (pi_range1 (by rfl) B.range (pa_cons pe_int pa_nil)) (pg_name (i := 6) sc_law_right.nd rfl (Or.inl rfl)) (pss_one (ps_set (i := 4) sc_law_right.nd rfl (Or.inl rfl) (pe_tup (pa_cons (pe_ix (ix_U (K := K)) (pv 1) (pe_op op_mod (pv 6) pe_int) (fun _ _ => rfl)) (pa_cons (pe_op (op_mulU (K := K)) (pv 6) pe_int) (pa_cons (pe_ifExp (pt_cmpR (op_gt) (pe_op op_mod (pv 6) pe_int) pe_int (nomark _)) (pe_tup (pa_cons (pv 4) pa_nil)) (pe_tup (pa_cons (pv 4) (pa_cons (pe_tup (pa_cons (pe_ix (ix_U (K := K)) (pv 1) pe_int (fun _ _ => rfl)) (pa_cons pe_int (pa_cons (pe_tup pa_nil) pa_nil)))) pa_nil)))) pa_nil)))))))
  (pss_cons (ps_for PassesOwn.never rfl (pi_range1 (by rfl) B.range (pa_cons pe_int pa_nil)) (pg_name (i := 6) sc_law_right.nd rfl (Or.inl rfl)) (pss_one (ps_set (i := 5) sc_law_right.nd rfl (Or.inl rfl) (pe_tup (pa_cons pe_str (pa_cons (pe_op op_mod (pv 6) pe_int) (pa_cons (pe_tup (pa_cons (pv 5) (pa_cons (pv 5) pa_nil))) pa_nil)))))))
  (pss_cons (ps_for PassesOwn.never rfl (pi_U (K := K) (pe_op (op_addU (K := K)) (pv 3) (pe_lst (pa_cons (pv 4) (pa_cons (pv 5) pa_nil))))) (pg_name (i := 7) sc_law_right.nd rfl (Or.inl rfl)) (pss_cons (ps_set (i := 8) sc_law_right.nd rfl (Or.inl rfl) (pe_fq hG G_law_spelled hr (by first | decide | omega) (by rfl) pass0 (pa_cons (pv 7) pa_nil)))
  (pss_one (ps_for PassesOwn.never rfl (pi_range1 (by rfl) B.range (pa_cons pe_int pa_nil)) (pg_name (i := 9) sc_law_right.nd rfl (Or.inl rfl)) (pss_cons (ps_set (i := 10) sc_law_right.nd rfl (Or.inl rfl) (pe_fq hG Gtree_in hr (by first | decide | omega) (by rfl) passL (pa_cons (pv 8) pa_nil)))
  (pss_cons (ps_if (pt_not (pt_val (pe_fq hG G_law_same hr (by first | decide | omega) (by rfl) pass0 (pa_cons (pv 10) (pa_cons (pv 7) pa_nil))))) (pss_one (ps_ret pe_bl)) pss_nil)
  (pss_cons (ps_par (i := 11) (j := 12) rfl sc_law_right.nd rfl rfl (by decide) rfl rfl (pa_cons (pe_fq hG Gtree_text hr (by first | decide | omega) (by rfl) pass0 (pa_cons (pv 10) pa_nil)) (pa_cons (pe_callB (call_reprU (K := K) hG hr) (by rfl) B.repr (by decide +kernel) (pa_cons (pv 10) pa_nil)) pa_nil)) (by rfl))
  (pss_one (ps_if (PW.pt (pw_or (pt_not (pt_val (pe_callB (call_isiU (K := K)) (by rfl) B.isinstance (by decide +kernel) (pa_cons (pv 11) (pa_cons (pe_bltn (v := .ty "str") (by rfl) B.str (by decide +kernel) rfl) pa_nil))))) (pw_or (pt_cmpR (op_neU (K := K) hr) (pv 11) (pv 8) (nomark _)) (pw_or1 (pt_cmpR (op_neU (K := K) hr) (pe_callB (call_reprU (K := K) hG hr) (by rfl) B.repr (by decide +kernel) (pa_cons (pv 10) pa_nil)) (pv 12) (nomark _)))))) (pss_one (ps_ret pe_bl)) pss_nil)))))))))
  (pss_cons (ps_set (i := 13) sc_law_right.nd rfl (Or.inr rfl) (pe_lc (own := [("_law_tree", 7)]) rfl sc_law_right.nd (pi_U (K := K) (pv 3)) (blkOk_by (own := [("_law_tree", 7)]) (N := ["_law_box", "_law_names", "_law_g", "_law_some", "_law_deep", "_law_wide", "_law_turn", "_law_tree", "_law_due", "_law_again", "_law_told", "_law_found", "_law_kept", "_law_texts", "_law_k"]) (sc := defScope s_law_right) (by decide +kernel)) (fun _ _ _ _ _ => (pg_name (i := 7) sc_law_right.nd rfl (Or.inl rfl))) (fun _ _ _ _ _ => pts_nil) (fun _ _ _ _ _ => (pe_fq hG Gtree_text hr (by first | decide | omega) (by rfl) pass0 (pa_cons (pv 7) pa_nil)))))
  (pss_one (ps_ret (pe_callB (call_allU (K := K) rfl) (by rfl) B.all (by decide +kernel) (pa_cons (pe_lc (own := [("_law_k", 14)]) rfl sc_law_right.nd (pi_range1 (by rfl) B.range (pa_cons (pe_callB (call_lenU (K := K)) (by rfl) B.len (by decide +kernel) (pa_cons (pv 3) pa_nil)) pa_nil)) (blkOk_by (own := [("_law_k", 14)]) (N := ["_law_box", "_law_names", "_law_g", "_law_some", "_law_deep", "_law_wide", "_law_turn", "_law_tree", "_law_due", "_law_again", "_law_told", "_law_found", "_law_kept", "_law_texts", "_law_k"]) (sc := defScope s_law_right) (by decide +kernel)) (fun _ _ _ _ _ => (pg_name (i := 14) sc_law_right.nd rfl (Or.inl rfl))) (fun _ _ _ _ _ => pts_nil) (fun _ _ _ _ _ => (pe_cmpR (op_eqU (K := K) hr) (pe_cmpR (op_eqU (K := K) hr) (pe_ix (ix_U (K := K)) (pv 13) (pv 14) (fun _ _ => rfl)) (pe_ix (ix_U (K := K)) (pv 13) (pe_op op_sub (pv 14) pe_int) (fun _ _ => rfl)) (nomark _)) (pe_cmpR (op_eqU (K := K) hr) (pe_ix (ix_U (K := K)) (pv 3) (pv 14) (fun _ _ => rfl)) (pe_ix (ix_U (K := K)) (pv 3) (pe_op op_sub (pv 14) pe_int) (fun _ _ => rfl)) (nomark _)) (nomark _)))) pa_nil))))))))))))), rfl, ?_⟩
  walk_at "sxq"
  refine x_named hw 0 rfl (n := 6) rfl (by decide) bx (by omega) fun ns pn a0 c0 H hnl hns hnd bx hc0 hw => ?_
  simp only [List.set_cons_zero] at hw
  walk_at "sxq"
  refine x_any (P := P) (w := w) hw 0 rfl bx (by omega) fun g G gx a1 c1 H hG' _ bx hc1 hw => ?_
  simp only [List.set_cons_zero] at hw
  obtain ⟨xs, hxs, hw⟩ := hw.open (hw.rp 11 rfl)
  obtain rfl := DdAll.strs_inv hxs
  obtain ⟨gk, hgk⟩ : ∃ gk, gk = ([(.inr "cap", .int G.cap), (.inr "sorts", .ref gx.p1), (.inr "makings", .ref gx.p2), (.inr "rules", .ref gx.p3), (.inr "of", .ref gx.o), (.inr "by", .ref gx.o2), (.inr "has", .ref gx.o3)] : List (Key × V)) := ⟨_, rfl⟩
  have hmk : mkK gk gx.p2 := by rw [hgk]; rfl
  replace hw : W K H0 [b] [] H [(b, box a1 s c1)] [.kn pn (.lst (ns.map V.str)), .kn g (.dK gk), .rp (.ref gx.p2) (.list (G.makings.map MRow.d))] := by rw [hgk]; exact hw.pick [0, 1, 3] rfl
  have hms : ∀ r ∈ G.makings, NameOk r.1 ∧ r.2.2.length ≤ 2 := fun r hr => ⟨hG'.mnm r hr, hG'.mplen r hr⟩
  have hn4 : (G.sorts.map (·.1)).length ≤ 4 := by rw [List.length_map]; exact hG'.len
  walk_at "sxe"
  refine w_tupC hw (szl rfl) fun ptt H hptt hw => ?_
  refine x_gTup (SqT.of (hw.at 0 rfl)) rfl (x_gCons (x_gName (x_gCons (x_gName (x_gNil ?_)))))
  replace hw := hw.drop1
  walk_at "sxe"
  rename Addr => pz0
  obtain ⟨ts0, hts0e⟩ : ∃ ts0, ts0 = [Tr.mk "a" 0 [], Tr.mk "owna" 999999 []] := ⟨_, rfl⟩
  replace hw : W K H0 [b] [] H [(b, box a1 s c1)] [.rp (.ref pz0) (.list (ts0.map Tr.data)), .kn pn (.lst (ns.map V.str)), .kn g (.dK gk), .rp (.ref gx.p2) (.list (G.makings.map MRow.d))] := by
    rw [hts0e, show [Tr.mk (Str.ofString "a") 0 [], Tr.mk (Str.ofString "owna") 999999 []].map Tr.data = [PyData.tuple [.str "a", .int 0, .tuple []], PyData.tuple [.str "owna", .int 999999, .tuple []]] by simp only [List.map_cons, List.map_nil, Tr.data, datas]]
    exact hw.pick [0, 5, 6, 7] rfl
  have hts0 : ∀ t ∈ ts0, Sm t := fun z hz => by
    rw [hts0e] at hz
    simp only [List.mem_cons, List.not_mem_nil, or_false] at hz
    rcases hz with rfl | rfl
    · exact Sm.of (.mk nm_a (by decide) (by decide) (by decide) .nil) (by simp [Tr.size, sizes]) (by simp [Tr.high, highs])
    · exact Sm.of (.mk nm_owna (by decide) (by decide) (by decide) .nil) (by simp [Tr.size, sizes]) (by simp [Tr.high, highs])
  have htl0 : ts0.length = 2 := by rw [hts0e]; rfl
  clear hts0e
  refine w_lcK hw walk_range (fun D i H' => ∃ (ts : List Tr) (us : List V) (a2 c2 : Int), us.length = i ∧ (∀ t ∈ ts, Sm t) ∧ ts.length = i ∧ Bx a2 s c2 ∧ c2 ≤ c1 + 500 * i ∧ W K H0 [b] [] H' [(D, .lst us), (b, box a2 s c2)] [.al us (ts.map Tr.data), .rp (.ref pz0) (.list (ts0.map Tr.data)), .kn pn (.lst (ns.map V.str)), .kn g (.dK gk), .rp (.ref gx.p2) (.list (G.makings.map MRow.d))]) ?_ ?_ ?_ ?_
  · intro D H _ hw
    exact ⟨[], [], _, _, rfl, (fun _ z => nomatch z), rfl, bx, by omega, hw.alNil⟩
  · intros
    trivial
  · rintro D i x _ H hi ⟨ts, us, a2, c2, hul, hts, htl, bx, hc2, hw⟩ ⟨rfl, rfl⟩
    have hi6 : i < 6 := hi
    have hzz : us.length < sizeLine := sz_lt (by omega)
    walk_at "sxq"
    refine x_wild (m := 30) (n := 30) hw 1 2 rfl rfl rfl (by omega) (by omega) hns (by omega) (by omega) bx (by omega) fun v t a3 c3 H ht hsz hhi bx hc3 hw => ?_
    simp only [List.set_cons_zero, List.set_cons_succ] at hw
    replace hw := hw.more
    walk_at "sxq"
    refine ⟨ts ++ [t], us ++ [v], _, _, by simp [hul], fun z hz => ?_, by simp [htl], bx, by omega, by rw [List.map_append]; exact hw⟩
    rcases List.mem_append.mp hz with hz | hz
    · exact hts z hz
    · rw [List.mem_singleton.mp hz]; exact Sm.of ht (by omega) (by omega)
  rintro D H ⟨ts, us, a2, c2, hul, hts, htl, bx, hc2, hw⟩
  replace hw := hw.freeze1 0 rfl (hw.all 0 rfl)
  replace htl : ts.length = 6 := htl
  walk_at "sxe"
  refine w_catD hw (hw.rp 2 rfl) (hw.rp 0 rfl) (by rw [sizeLine_eq, List.length_map, List.length_map]; omega) fun ps H hps hw => ?_
  rw [← List.map_append] at hw
  obtain ⟨ts1, hts1e⟩ : ∃ ts1, ts1 = ts0 ++ ts := ⟨_, rfl⟩
  rw [← hts1e] at hw
  replace hw : W K H0 [b] [] H [(b, box a2 s c2)] [.rp (.ref ps) (.list (ts1.map Tr.data)), .kn pn (.lst (ns.map V.str)), .kn g (.dK gk), .rp (.ref gx.p2) (.list (G.makings.map MRow.d))] := hw.pick [0, 4, 5, 6] rfl
  have hts1 : ∀ t ∈ ts1, Sm t := fun z hz => by
    rw [hts1e] at hz
    rcases List.mem_append.mp hz with hz | hz
    · exact hts0 z hz
    · exact hts z hz
  have htl1 : ts1.length = 8 := by rw [hts1e, List.length_append, htl, htl0]
  clear hts htl hts1e hul hts0 htl0
  walk_at "sxe"
  refine x_treeOf (p2 := gx.p2) (ms := G.makings) (names := G.sorts.map (·.1)) hw 0 2 3 rfl rfl hmk rfl hG'.mlen hms hG'.mkind hn4 (by decide) (by decide) bx (by omega) fun w1 d1 a3 c3 H hd1 bx hc3 hw => ?_
  simp only [List.set_cons_zero] at hw
  walk_at "sxe"
  refine x_treeOf (p2 := gx.p2) (ms := G.makings) (names := G.sorts.map (·.1)) hw 0 3 4 rfl rfl hmk rfl hG'.mlen hms hG'.mkind hn4 (by decide) (by decide) bx (by omega) fun w2 d2 a4 c4 H hd2 bx hc4 hw => ?_
  simp only [List.set_cons_zero] at hw
  walk_at "sxq"
  rename Addr => pl2
  refine w_lcK hw (walk_list (xs := [w1, w2])) (fun D i H' => ∃ (ts : List Tr) (us : List V), (∀ t ∈ ts, Sm t) ∧ ts.length ≤ i ∧ us.length = ts.length ∧ W K H0 [b] [] H' [(D, .lst us), (pl2, .lst [w1, w2]), (b, box a4 s c4)] [.al us (ts.map Tr.data), .rp w2 d2, .rp w1 d1, .rp (.ref ps) (.list (ts1.map Tr.data)), .kn pn (.lst (ns.map V.str)), .kn g (.dK gk), .rp (.ref gx.p2) (.list (G.makings.map MRow.d))]) ?_ ?_ ?_ ?_
  · intro D H _ hw
    exact ⟨[], [], (fun _ z => nomatch z), Nat.le_refl _, rfl, hw.alNil⟩
  · rintro D i H _ ⟨ts, us, _, _, _, hw⟩
    exact SqL.of (hw.at 1 rfl)
  · rintro D i x _ H hi ⟨ts, us, hts, htl, hul, hw⟩ ⟨rfl, hx⟩
    have hi2 : i < 2 := hi
    have hzz : us.length < sizeLine := sz_lt (by omega)
    obtain ⟨d, hd, hxd⟩ : ∃ d, (d = .none ∨ ∃ t, TrOk t ∧ t.size ≤ 50 ∧ t.high ≤ 28 ∧ d = t.data) ∧ Rp K (av [(D, HO.lst us), (pl2, .lst [w1, w2]), (b, box a4 s c4)] []) H x d := by
      have : i = 0 ∨ i = 1 := by omega
      rcases this with rfl | rfl
      · obtain rfl := Option.some.inj hx
        exact ⟨d1, hd1, hw.rp 2 rfl⟩
      · obtain rfl := Option.some.inj hx
        exact ⟨d2, hd2, hw.rp 1 rfl⟩
    replace hw := hw.add hxd
    rcases hd with rfl | ⟨t, ht, hs, hh, rfl⟩
    · cases hxd
      walk_at "sxq"
      exact ⟨ts, us, hts, by omega, hul, hw.tl⟩
    · obtain ⟨ta, rfl⟩ : ∃ ta : Addr, x = .ref ta := by
        obtain ⟨n, o, qs⟩ := t
        obtain ⟨ta, _, e, _⟩ := hw.tree 0 rfl
        exact ⟨ta, e⟩
      walk_at "sxq"
      refine ⟨ts ++ [t], us ++ [.ref ta], fun z hz => ?_, by simp; omega, by simp [hul], by rw [List.map_append]; exact (hw.alSnoc (hw.all 1 rfl) (hw.rp 0 rfl)).rm2⟩
      rcases List.mem_append.mp hz with hz | hz
      · exact hts z hz
      · rw [List.mem_singleton.mp hz]; exact Sm.of ht (by omega) (by omega)
  rintro D H ⟨ts, us, hts, htl, hul, hw⟩
  replace htl : ts.length ≤ 2 := htl
  replace hw := hw.freeze1 1 rfl (hw.all 0 rfl)
  replace hw := hw.drop1
  walk_at "sxe"
  refine w_catD hw (hw.rp 4 rfl) (hw.rp 0 rfl) (by rw [sizeLine_eq, List.length_map, List.length_map]; omega) fun pz H hpz hw => ?_
  rw [← List.map_append] at hw
  obtain ⟨ts2, hts2e⟩ : ∃ ts2, ts2 = ts1 ++ ts := ⟨_, rfl⟩
  rw [← hts2e] at hw
  have hts2 : ∀ t ∈ ts2, Sm t := fun z hz => by
    rw [hts2e] at hz
    rcases List.mem_append.mp hz with hz | hz
    · exact hts1 z hz
    · exact hts z hz
  have htl2 : 1 ≤ ts2.length ∧ ts2.length ≤ 10 := by rw [hts2e, List.length_append]; omega
  replace hw : W K H0 [b] [] H [(b, box a4 s c4)] [.rp (.ref pz) (.list (ts2.map Tr.data)), .kn pn (.lst (ns.map V.str))] := hw.pick [0, 6] rfl
  clear hts1 hts hts2e htl1 htl hul
  walk_at "sxe"
  refine x_ixAny (SqL.of (hw.kn 1 rfl)) (by decide) (by rw [List.length_map, hnl]; decide) fun v hv => ?_
  obtain ⟨n0, hn0, rfl⟩ := List.mem_map.mp hv
  walk_at "sxe"
  rename_i _ _ _ _ pdp _ _ _ _ _ _ _
  rename Addr => pwd
  replace hw : W K H0 [b] [] H [(b, box a4 s c4)] [.rp (.ref pdp) (Tr.mk n0 7 []).data, .rp (.ref pwd) (Tr.mk "a" 0 []).data, .rp (.ref pz) (.list (ts2.map Tr.data)), .kn pn (.lst (ns.map V.str))] := by
    simp only [Tr.data, datas]
    exact hw.pick [2, 0, 4, 5] rfl
  refine w_for walk_range (fun i σ H' => ∃ (vd : V) (dt : Tr) (y6 : Option V), σ = [some (.ref b), some (.ref pn), some (.ref g), some (.ref pz), some vd, some (.ref pwd), y6, none, none, none, none, none, none, none, none] ∧ TrOk dt ∧ dt.size ≤ 1 + 2 * i ∧ dt.high ≤ 1 + i ∧ W K H0 [b] [] H' [(b, box a4 s c4)] [.rp vd dt.data, .rp (.ref pwd) (Tr.mk "a" 0 []).data, .rp (.ref pz) (.list (ts2.map Tr.data)), .kn pn (.lst (ns.map V.str))]) ?_ ?_ ?_ ?_
  · exact ⟨_, _, _, rfl, .mk (hns n0 hn0) (by decide) (by decide) (by decide) .nil, by simp [Tr.size, sizes], by simp [Tr.high, highs], hw⟩
  · intros
    trivial
  · rintro i x σ _ H hi ⟨vd, dt, y6, rfl, hdt, hds, hdh, hw⟩ ⟨rfl, rfl⟩
    have hi30 : i < 30 := hi
    walk_at "sxe"
    refine x_ixAny (SqL.of (hw.kn 3 rfl)) (Int.emod_nonneg _ (by decide)) (by rw [List.length_map, hnl]; have := Int.emod_lt_of_pos (0 + (i : Int)) (show (0 : Int) < 6 by decide); omega) fun v hv => ?_
    obtain ⟨n2, hn2, rfl⟩ := List.mem_map.mp hv
    refine x_cons (x_op (x_var rfl (x_c (x_mulI (.inl ⟨by omega, by omega⟩) (x_cons (x_via (C := fun Q' => ∀ (pp : Addr) (qs : List Tr) H', TrsOk qs → qs.length ≤ 2 → sizes qs ≤ dt.size + 1 → highs qs ≤ dt.high → W K H0 [b] [] H' [(b, box a4 s c4)] [.rp (.ref pp) (.tuple (datas qs)), .rp vd dt.data, .rp (.ref pwd) (Tr.mk "a" 0 []).data, .rp (.ref pz) (.list (ts2.map Tr.data)), .kn pn (.lst (ns.map V.str))] → Q' (.ref pp) H') (fun Q' k => ?_) ?_))))))
    · have hdp : 1 ≤ dt.high := by cases dt; simp only [Tr.high]; omega
      walk_at "sxe"
      refine x_ifd (fun c5 => ?_) (fun c5 => ?_)
      · walk_at "sxe"
        refine k p [dt] _ (.cons hdt .nil) (by simp) (by simp only [sizes]; omega) (by simp only [highs]; omega) ?_
        simp only [datas]
        exact hw
      · walk_at "sxe"
        refine x_ixAny (SqL.of (hw.kn 3 rfl)) (by decide) (by rw [List.length_map, hnl]; decide) fun v hv => ?_
        obtain ⟨n3, hn3, rfl⟩ := List.mem_map.mp hv
        walk_at "sxe"
        refine k p [dt, .mk n3 0 []] _ (.cons hdt (.cons (.mk (hns n3 hn3) (by decide) (by decide) (by decide) .nil) .nil)) (by simp) (by simp only [sizes, Tr.size]; omega) (by simp only [highs, Tr.high]; omega) ?_
        rw [show datas [dt, Tr.mk n3 0 []] = [dt.data, .tuple [.str n3, .int 0, .tuple []]] by simp only [datas, Tr.data]]
        exact hw.pick [0, 3, 4, 5, 6] rfl
    intro pp qs H hqs hql hqz hqh hw
    walk_at "sxe"
    refine ⟨_, .mk n2 ((0 + i) * 33333) qs, _, rfl, .mk (hns n2 hn2) (by omega) (by omega) hql hqs, by simp only [Tr.size]; omega, by simp only [Tr.high]; omega, ?_⟩
    rw [show (Tr.mk n2 ((0 + (i : Int)) * 33333) qs).data = .tuple [.str n2, .int ((0 + i) * 33333), .tuple (datas qs)] by simp only [Tr.data]]
    exact hw.pick [0, 3, 4, 5] rfl
  rintro σ H ⟨vd, dt, y6, rfl, hdt, hds, hdh, hw⟩
  have hdS : Sm dt := Sm.of hdt hds hdh
  clear hds hdh
  walk_at "sxe"
  refine w_for walk_range (fun i σ H' => ∃ (vw : V) (wt : Tr) (y6 : Option V), σ = [some (.ref b), some (.ref pn), some (.ref g), some (.ref pz), some vd, some vw, y6, none, none, none, none, none, none, none, none] ∧ TrOk wt ∧ wt.size + 1 ≤ 2 * 2 ^ i ∧ wt.high ≤ 1 + i ∧ wt.text.length + 6 ≤ 7 * 2 ^ i ∧ W K H0 [b] [] H' [(b, box a4 s c4)] [.rp vw wt.data, .rp vd dt.data, .rp (.ref pz) (.list (ts2.map Tr.data))]) ?_ ?_ ?_ ?_
  · exact ⟨_, _, _, rfl, .mk nm_a (by decide) (by decide) (by decide) .nil, by simp [Tr.size, sizes], by simp [Tr.high, highs], by rw [← cd_len, text0]; decide +kernel, hw.pick [1, 0, 2] rfl⟩
  · intros
    trivial
  · rintro i x σ _ H hi ⟨vw, wt, y6, rfl, hwt, hws, hwh, hwx, hw⟩ ⟨rfl, rfl⟩
    have hi6 : i < 6 := hi
    have hm0 : 0 ≤ (0 + (i : Int)) % 2 := Int.emod_nonneg _ (by decide)
    have hm1 : (0 + (i : Int)) % 2 < 2 := Int.emod_lt_of_pos _ (by decide)
    walk_at "sxe"
    obtain ⟨o, ho⟩ : ∃ o, (0 + (i : Int)) % 2 = o := ⟨_, rfl⟩
    rw [ho] at hw hm0 hm1
    refine ⟨_, .mk "b" o [wt, wt], _, rfl, .mk nm_b hm0 (by omega) (by simp) (.cons hwt (.cons hwt .nil)), ?_, ?_, ?_, ?_⟩
    · simp only [Tr.size, sizes]; rw [Nat.pow_succ]; omega
    · simp only [Tr.high, highs]; omega
    · have e1 : (cd (Str.ofString "b")).length = 1 := by decide +kernel
      have e2 : (figL o).length ≤ 2 := by
        have : o = 0 ∨ o = 1 := by omega
        rcases this with rfl | rfl <;> decide +kernel
      have e3 := cd_len wt.text
      rw [← cd_len, text2]
      simp only [List.length_append, List.length_cons, List.length_nil]
      rw [Nat.pow_succ]
      omega
    · rw [show (Tr.mk (Str.ofString "b") o [wt, wt]).data = .tuple [.str "b", .int o, .tuple [wt.data, wt.data]] by simp only [Tr.data, datas]]
      exact hw.pick [0, 3, 4] rfl
  rintro σ H ⟨vw, wt, y6, rfl, hwt, hws, hwh, hwx, hw⟩
  have hwS : Sm wt := ⟨hwt, by have : wt.size + 1 ≤ 2 * 2 ^ 6 := hws; omega, by have : wt.high ≤ 1 + 6 := hwh; omega, by have : wt.text.length + 6 ≤ 7 * 2 ^ 6 := hwx; omega⟩
  clear hws hwh hwx
  walk_at "sxe"
  refine w_catD hw (hw.rp 3 rfl) (hw.rp 0 rfl) (by rw [sizeLine_eq, List.length_map]; show _ + 2 ≤ _; omega) fun pall H hpall hw => ?_
  obtain ⟨ts3, hts3e⟩ : ∃ ts3, ts3 = ts2 ++ [dt, wt] := ⟨_, rfl⟩
  replace hw : W K H0 [b] [] H [(b, box a4 s c4)] [.rp (.ref pall) (.list (ts3.map Tr.data)), .rp (.ref pz) (.list (ts2.map Tr.data))] := by
    rw [hts3e, List.map_append]
    exact hw.pick [0, 4] rfl
  have hts3 : ∀ t ∈ ts3, Sm t := fun z hz => by
    rw [hts3e] at hz
    rcases List.mem_append.mp hz with hz | hz
    · exact hts2 z hz
    · simp only [List.mem_cons, List.not_mem_nil, or_false] at hz
      rcases hz with rfl | rfl
      · exact hdS
      · exact hwS
  obtain ⟨es, hes, hw⟩ := hw.open (hw.rp 0 rfl)
  replace hw := hw.addA hes
  walk_at "sxe"
  refine w_for (walk_list (xs := es)) (fun i σ H' => ∃ (y7 y8 y9 y10 y11 y12 : Option V), σ = [some (.ref b), some (.ref pn), some (.ref g), some (.ref pz), some vd, some vw, y6, y7, y8, y9, y10, y11, y12, none, none] ∧ W K H0 [b] [] H' [(b, box a4 s c4)] [.al es (ts3.map Tr.data), .kn pall (.lst es), .rp (.ref pz) (.list (ts2.map Tr.data))]) ?_ ?_ ?_ ?_
  · exact ⟨_, _, _, _, _, _, rfl, hw.pick [0, 1, 3] rfl⟩
  · rintro i σ H _ ⟨y7, y8, y9, y10, y11, y12, rfl, hw⟩
    exact SqL.of (hw.kn 1 rfl)
  · rintro i x σ _ H hi ⟨y7, y8, y9, y10, y11, y12, rfl, hw⟩ ⟨rfl, hx⟩
    obtain ⟨d, hd, hrp⟩ := RpAll.item (hw.all 0 rfl) hx
    obtain ⟨t, ht, rfl⟩ := List.mem_map.mp (List.mem_of_getElem? hd)
    have htS := hts3 t ht
    obtain ⟨pl1, dp1, bk1⟩ := one_plain htS
    obtain ⟨sh, hsh⟩ : ∃ sh, t.data.shown = sh := ⟨_, rfl⟩
    replace hw := hw.add hrp
    walk_at "sxe"
    refine x_spelled hw (hw.rp 0 rfl) htS (Nat.le_refl _) fun H hw => ?_
    walk_at "sxe"
    refine w_for walk_range (fun j σ H' => ∃ (y9 y10 y11 y12 : Option V), σ = [some (.ref b), some (.ref pn), some (.ref g), some (.ref pz), some vd, some vw, y6, some x, some (.str t.text), y9, y10, y11, y12, none, none] ∧ W K H0 [b] [] H' [(b, box a4 s c4)] [.rp x t.data, .al es (ts3.map Tr.data), .kn pall (.lst es), .rp (.ref pz) (.list (ts2.map Tr.data))]) ?_ ?_ ?_ ?_
    · exact ⟨_, _, _, _, rfl, hw⟩
    · intros
      trivial
    · rintro j z σ _ H hj ⟨y9, y10, y11, y12, rfl, hw⟩ ⟨rfl, rfl⟩
      walk_at "sxe"
      refine x_in hw htS fun v H hw => ?_
      walk_at "sxe"
      refine x_same hw (hw.rp 0 rfl).dd (hw.rp 1 rfl).dd (pl_mono (pl_tree htS.ok) (by have := htS.hi; omega)) fun H hw => ?_
      walk_at "sxe"
      refine x_text hw (hw.rp 0 rfl) htS fun H hw => ?_
      walk_at "sxe"
      refine x_repr (hw.rp 0 rfl).dd pl1 dp1 bk1 ?_
      rw [hsh]
      walk_at "sxe"
      refine x_repr (hw.rp 0 rfl).dd pl1 dp1 bk1 ?_
      rw [hsh]
      walk_at "sxe"
      exact ⟨_, _, _, _, rfl, hw.tl⟩
    · rintro σ H ⟨y9, y10, y11, y12, rfl, hw⟩
      walk_at "sxe"
      exact ⟨_, _, _, _, _, _, rfl, hw.tl⟩
  rintro σ H ⟨y7, y8, y9, y10, y11, y12, rfl, hw⟩
  obtain ⟨zs, hzs, hw⟩ := hw.open (hw.rp 2 rfl)
  have hzl : zs.length = ts2.length := by rw [hzs.length, List.length_map]
  replace hw := hw.addA hzs
  replace hw : W K H0 [b] [] H [(b, box a4 s c4)] [.al zs (ts2.map Tr.data), .kn pz (.lst zs)] := hw.pick [0, 1] rfl
  walk_at "sxe"
  refine w_lcK hw (walk_list (xs := zs)) (fun D i H' => W K H0 [b] [] H' [(D, .lst ((ts2.take i).map fun t => V.str t.text)), (b, box a4 s c4)] [.al zs (ts2.map Tr.data), .kn pz (.lst zs)]) ?_ ?_ ?_ ?_
  · intro D H _ hw
    exact hw
  · rintro D i H _ hw
    exact SqL.of (hw.kn 1 rfl)
  · rintro D i x _ H hi hw ⟨rfl, hx⟩
    obtain ⟨d, hd, hrp⟩ := RpAll.item (hw.all 0 rfl) hx
    rw [List.getElem?_map] at hd
    obtain ⟨t, ht, rfl⟩ := Option.map_eq_some_iff.mp hd
    have hzz : ((ts2.take i).map fun t => V.str t.text).length < sizeLine := sz_lt (by rw [List.length_map, List.length_take]; omega)
    replace hw := hw.add hrp
    walk_at "sxe"
    refine x_text hw (hw.rp 0 rfl) (hts2 t (List.mem_of_getElem? ht)) fun H hw => ?_
    walk_at "sxe"
    rw [List.take_add_one, ht, List.map_append]
    exact hw.tl
  intro D H hw
  rw [hzl, List.take_length] at hw
  walk_at "sxe"
  refine w_lcK hw walk_range (fun E1 j H' => W K H0 [b] [] H' [(E1, .lst (List.replicate j (.bl true))), (D, .lst (ts2.map fun t => V.str t.text)), (b, box a4 s c4)] [.al zs (ts2.map Tr.data), .kn pz (.lst zs)]) ?_ ?_ ?_ ?_
  · intro E1 H _ hw
    exact hw
  · intros
    trivial
  · rintro E1 j x _ H hj hw ⟨rfl, rfl⟩
    replace hj : j < ts2.length := by omega
    have hm : (if j = 0 then ts2.length - 1 else j - 1) < ts2.length := by split <;> omega
    obtain ⟨t, ht⟩ : ∃ t, ts2[j]? = some t := ⟨_, List.getElem?_eq_getElem hj⟩
    obtain ⟨t', ht'⟩ : ∃ t', ts2[if j = 0 then ts2.length - 1 else j - 1]? = some t' := ⟨_, List.getElem?_eq_getElem hm⟩
    have hS := hts2 t (List.mem_of_getElem? ht)
    have hS' := hts2 t' (List.mem_of_getElem? ht')
    obtain ⟨z1, hz1⟩ : ∃ z, zs[j]? = some z := ⟨_, List.getElem?_eq_getElem (by omega)⟩
    obtain ⟨z2, hz2⟩ : ∃ z, zs[if j = 0 then zs.length - 1 else j - 1]? = some z := ⟨_, List.getElem?_eq_getElem (by rw [hzl]; exact hm)⟩
    have hA : atI (ts2.map fun t => V.str t.text) (0 + (j : Int)) = some (.str t.text) := by rw [Int.zero_add]; exact atI_nat (by rw [List.getElem?_map, ht]; rfl)
    have hB : atI (ts2.map fun t => V.str t.text) (0 + (j : Int) - 1) = some (.str t'.text) := at_prev (by rw [List.length_map, List.getElem?_map, ht']; rfl)
    have hC : atI zs (0 + (j : Int)) = some z1 := by rw [Int.zero_add]; exact atI_nat hz1
    have hD : atI zs (0 + (j : Int) - 1) = some z2 := at_prev hz2
    obtain ⟨d1, hd1, hr1⟩ := RpAll.item (hw.all 0 rfl) hz1
    obtain ⟨d2, hd2, hr2⟩ := RpAll.item (hw.all 0 rfl) hz2
    rw [List.getElem?_map, ht] at hd1
    rw [hzl, List.getElem?_map, ht'] at hd2
    cases hd1
    cases hd2
    replace hw := (hw.add hr1).add hr2
    have hzz : (List.replicate j (V.bl true)).length < sizeLine := sz_lt (by simp; omega)
    walk_at "sxe"
    refine x_eqD (hw.rp 1 rfl).dp (hw.rp 0 rfl).dp (tree_shaped hS.ok hS.hi) (tree_shaped hS'.ok hS'.hi) ?_
    refine x_eqB ?_
    rw [eq_both hS.ok hS'.ok]
    walk_at "sxe"
    rw [List.replicate_succ']
    exact hw.tl.tl
  intro E1 H hw
  walk_at "sxe"
  refine x_allT (hw.at 0 rfl) ?_
  walk_at "sxe"
  exact q _ _ hw.ex (hw.at 2 rfl)
theorem ok_law (F : FunD K "law" "law" (defArgs slaw) (defBody slaw) (defScope slaw) [] kws f fd) (B : BltX mg) (G_law_folded : Fq P w K mg base CX0 1 "_law_folded" ["_law_script", "_law_size"] (spFolded K)) (G_law_dip : Fq P w K mg base CX0 1 "_law_dip" ["_law_script", "_law_k"] (spDip K)) (G_law_right : Fq P w K mg base CX0 132 "_law_right" ["_law_box"] spRight) : FnG P w K mg base CX0 133 f fd ["_law_script"] (spLaw K) := by
  refine okG F sclaw (fun vs H Q E h => ?_) (fun cdv A outer s H0 vs Q E hG hr h => ?_)
  · obtain ⟨a, ns, rfl, _⟩ := h
    rfl
  obtain ⟨a, ns, rfl, hb, hn, q⟩ := h
  have hw : W K H0 [] [] H0 [] [] := W.start0 (fun _ z => nomatch z) (fun _ z => nomatch z)
  refine ⟨_, [some (.ref a), none, none], (pss_cons (ps_set (i := 1) sclaw.nd rfl (Or.inr rfl) (pe_fq hG G_law_folded hr (by first | decide | omega) (by rfl) pass0 (pa_cons (pv 0) (pa_cons pe_int pa_nil))))
  (pss_one (ps_ret (pe_callB (call_allU (K := K) rfl) (by rfl) B.all (by decide +kernel) (pa_cons (pe_lc (own := [("_law_k", 2)]) rfl sclaw.nd (pi_range1 (by rfl) B.range (pa_cons (pe_callB (call_maxU (K := K) rfl) (by rfl) B.max (by decide +kernel) (pa_cons pe_int (pa_cons (pe_callB (call_lenU (K := K)) (by rfl) B.len (by decide +kernel) (pa_cons (pv 1) pa_nil)) pa_nil))) pa_nil)) (blkOk_by (own := [("_law_k", 2)]) (N := ["_law_script", "_law_cells", "_law_k"]) (sc := defScope slaw) (by decide +kernel)) (fun _ _ _ _ _ => (pg_name (i := 2) sclaw.nd rfl (Or.inl rfl))) (fun _ _ _ _ _ => pts_nil) (fun _ _ _ _ _ => (pe_fq hG G_law_right hr (by first | decide | omega) (by rfl) pass0 (pa_cons (pe_fq hG G_law_dip hr (by first | decide | omega) (by rfl) pass0 (pa_cons (pv 1) (pa_cons (pv 2) pa_nil))) pa_nil)))) pa_nil))))), rfl, ?_⟩
  walk_at "sx"
  refine ⟨a, ns, 3, rfl, hb, by decide, by decide, by omega, fun ms pc H hm hpc e hc => ?_⟩
  replace hw := hw.pure e
  replace hw := hw.addF (r := .kn pc (.lst (ms.map V.int))) (by rw [av, List.map_nil, List.nil_append]; show Fw.del H [] pc = _; rw [del_nil]; exact hc)
  have hm3 : ms.length ≤ 3 := by omega
  walk_at "sx"
  refine w_lcK hw walk_range (fun D i H' => W K H0 [] [] H' [(D, .lst (List.replicate i (.bl true)))] [.kn pc (.lst (ms.map V.int))]) ?_ ?_ ?_ ?_
  · intro D H _ hw
    exact hw
  · intros
    trivial
  · rintro D i x _ H hi hw ⟨rfl, rfl⟩
    rw [List.length_map] at hi
    have hi9 : i < 5 := by omega
    have hzz : (List.replicate i (V.bl true)).length < sizeLine := sz_lt (by simp; omega)
    walk_at "sx"
    refine ⟨[], pc, ms, _, rfl, (fun _ z => nomatch z), .lst (by rw [del_nil]; exact hw.kn 0 rfl) (DdAll.ints ms), by omega, by omega, fun x y pb H bx hpb e hb => ?_⟩
    replace hw := hw.adopt e hpb hb
    walk_at "sx"
    refine ⟨pb, x, y, 0, rfl, hw.at 0 rfl, bx, by omega, fun o H e ho => ?_⟩
    replace hw := (hw.call 0 rfl e ho).drop1
    walk_at "sx"
    rw [List.replicate_succ']
    exact hw
  intro D H hw
  walk_at "sx"
  refine x_allT (hw.at 0 rfl) ?_
  exact q _
end
end Law
namespace Law
open PySem PySem.Spec PyProof.Rows L2 Fw L2H HotX
theorem facts {P : Program} {w : World} {K : PySem.W.Frag} {h : Heap} {mg : Str → Option Value} {f : Addr} (X : K.In h) (G : h.Ns mainGlobals mg) (hfa : mg ("law" : Str) = some (.ref f)) (c : He.SaysX fa fn ts [] exB w h K) :
    ∃ fd : FuncData, (∀ (s : Shared) (v : Value), BindsTo s fd ⟨[v], []⟩ [("_law_script", v)]) ∧ ∀ base : Heap, K.In base → base.Ns mainGlobals mg → FnG P w K mg base CX0 133 f fd ["_law_script"] (spLaw K) := by
  obtain ⟨fdhead_text, Fhead_text⟩ := c.t.d.def_ 0 (d := mkD "head_text" shead_text []) rfl
  replace Fhead_text : FunD K "head_text" "head_text" (defArgs shead_text) (defBody shead_text) (defScope shead_text) [] [] (He.ga K "head_text") fdhead_text := Fhead_text
  have ghead_text := He.glo_ok X G (c.t.d.fact 0 (f := .glo "head_text") rfl)
  obtain ⟨fdparts_within, Fparts_within⟩ := c.t.d.def_ 1 (d := mkD "parts_within" sparts_within []) rfl
  replace Fparts_within : FunD K "parts_within" "parts_within" (defArgs sparts_within) (defBody sparts_within) (defScope sparts_within) [] [] (He.ga K "parts_within") fdparts_within := Fparts_within
  have gparts_within := He.glo_ok X G (c.t.d.fact 1 (f := .glo "parts_within") rfl)
  obtain ⟨fdtree_text, Ftree_text⟩ := c.t.d.def_ 2 (d := mkD "tree_text" stree_text []) rfl
  replace Ftree_text : FunD K "tree_text" "tree_text" (defArgs stree_text) (defBody stree_text) (defScope stree_text) [] [] (He.ga K "tree_text") fdtree_text := Ftree_text
  have gtree_text := He.glo_ok X G (c.t.d.fact 2 (f := .glo "tree_text") rfl)
  obtain ⟨fdsigns_on, Fsigns_on⟩ := c.t.d.def_ 3 (d := mkD "signs_on" ssigns_on []) rfl
  replace Fsigns_on : FunD K "signs_on" "signs_on" (defArgs ssigns_on) (defBody ssigns_on) (defScope ssigns_on) [] [] (He.ga K "signs_on") fdsigns_on := Fsigns_on
  have gsigns_on := He.glo_ok X G (c.t.d.fact 3 (f := .glo "signs_on") rfl)
  obtain ⟨fdname_at, Fname_at⟩ := c.t.d.def_ 4 (d := mkD "name_at" sname_at []) rfl
  replace Fname_at : FunD K "name_at" "name_at" (defArgs sname_at) (defBody sname_at) (defScope sname_at) [] [] (He.ga K "name_at") fdname_at := Fname_at
  have gname_at := He.glo_ok X G (c.t.d.fact 4 (f := .glo "name_at") rfl)
  obtain ⟨fdown_at, Fown_at⟩ := c.t.d.def_ 5 (d := mkD "own_at" sown_at []) rfl
  replace Fown_at : FunD K "own_at" "own_at" (defArgs sown_at) (defBody sown_at) (defScope sown_at) [] [] (He.ga K "own_at") fdown_at := Fown_at
  have gown_at := He.glo_ok X G (c.t.d.fact 5 (f := .glo "own_at") rfl)
  obtain ⟨fdclosed, Fclosed⟩ := c.t.d.def_ 6 (d := mkD "closed" sclosed []) rfl
  replace Fclosed : FunD K "closed" "closed" (defArgs sclosed) (defBody sclosed) (defScope sclosed) [] [] (He.ga K "closed") fdclosed := Fclosed
  have gclosed := He.glo_ok X G (c.t.d.fact 6 (f := .glo "closed") rfl)
  obtain ⟨fdgoes_on, Fgoes_on⟩ := c.t.d.def_ 7 (d := mkD "goes_on" sgoes_on []) rfl
  replace Fgoes_on : FunD K "goes_on" "goes_on" (defArgs sgoes_on) (defBody sgoes_on) (defScope sgoes_on) [] [] (He.ga K "goes_on") fdgoes_on := Fgoes_on
  have ggoes_on := He.glo_ok X G (c.t.d.fact 7 (f := .glo "goes_on") rfl)
  obtain ⟨fdtree_in, Ftree_in⟩ := c.t.d.def_ 8 (d := mkD "tree_in" stree_in []) rfl
  replace Ftree_in : FunD K "tree_in" "tree_in" (defArgs stree_in) (defBody stree_in) (defScope stree_in) [] [] (He.ga K "tree_in") fdtree_in := Ftree_in
  have gtree_in := He.glo_ok X G (c.t.d.fact 8 (f := .glo "tree_in") rfl)
  obtain ⟨fd_law_dip, F_law_dip⟩ := c.t.d.def_ 9 (d := mkD "_law_dip" s_law_dip []) rfl
  replace F_law_dip : FunD K "_law_dip" "_law_dip" (defArgs s_law_dip) (defBody s_law_dip) (defScope s_law_dip) [] [] (He.ga K "_law_dip") fd_law_dip := F_law_dip
  have g_law_dip := He.glo_ok X G (c.t.d.fact 9 (f := .glo "_law_dip") rfl)
  obtain ⟨fd_law_take, F_law_take⟩ := c.t.d.def_ 10 (d := mkD "_law_take" s_law_take []) rfl
  replace F_law_take : FunD K "_law_take" "_law_take" (defArgs s_law_take) (defBody s_law_take) (defScope s_law_take) [] [] (He.ga K "_law_take") fd_law_take := F_law_take
  have g_law_take := He.glo_ok X G (c.t.d.fact 10 (f := .glo "_law_take") rfl)
  obtain ⟨fd_law_folded, F_law_folded⟩ := c.t.d.def_ 11 (d := mkD "_law_folded" s_law_folded []) rfl
  replace F_law_folded : FunD K "_law_folded" "_law_folded" (defArgs s_law_folded) (defBody s_law_folded) (defScope s_law_folded) [] [] (He.ga K "_law_folded") fd_law_folded := F_law_folded
  have g_law_folded := He.glo_ok X G (c.t.d.fact 11 (f := .glo "_law_folded") rfl)
  obtain ⟨fd_law_one_of, F_law_one_of⟩ := c.t.d.def_ 12 (d := mkD "_law_one_of" s_law_one_of []) rfl
  replace F_law_one_of : FunD K "_law_one_of" "_law_one_of" (defArgs s_law_one_of) (defBody s_law_one_of) (defScope s_law_one_of) [] [] (He.ga K "_law_one_of") fd_law_one_of := F_law_one_of
  have g_law_one_of := He.glo_ok X G (c.t.d.fact 12 (f := .glo "_law_one_of") rfl)
  obtain ⟨fd_law_strewn, F_law_strewn⟩ := c.t.d.def_ 13 (d := mkD "_law_strewn" s_law_strewn []) rfl
  replace F_law_strewn : FunD K "_law_strewn" "_law_strewn" (defArgs s_law_strewn) (defBody s_law_strewn) (defScope s_law_strewn) [] [] (He.ga K "_law_strewn") fd_law_strewn := F_law_strewn
  have g_law_strewn := He.glo_ok X G (c.t.d.fact 13 (f := .glo "_law_strewn") rfl)
  obtain ⟨fd_law_named, F_law_named⟩ := c.t.d.def_ 14 (d := mkD "_law_named" s_law_named []) rfl
  replace F_law_named : FunD K "_law_named" "_law_named" (defArgs s_law_named) (defBody s_law_named) (defScope s_law_named) [] [] (He.ga K "_law_named") fd_law_named := F_law_named
  have g_law_named := He.glo_ok X G (c.t.d.fact 14 (f := .glo "_law_named") rfl)
  obtain ⟨fd_law_number, F_law_number⟩ := c.t.d.def_ 15 (d := mkD "_law_number" s_law_number []) rfl
  replace F_law_number : FunD K "_law_number" "_law_number" (defArgs s_law_number) (defBody s_law_number) (defScope s_law_number) [] [] (He.ga K "_law_number") fd_law_number := F_law_number
  have g_law_number := He.glo_ok X G (c.t.d.fact 15 (f := .glo "_law_number") rfl)
  obtain ⟨fd_law_sort_rows, F_law_sort_rows⟩ := c.t.d.def_ 16 (d := mkD "_law_sort_rows" s_law_sort_rows []) rfl
  replace F_law_sort_rows : FunD K "_law_sort_rows" "_law_sort_rows" (defArgs s_law_sort_rows) (defBody s_law_sort_rows) (defScope s_law_sort_rows) [] [] (He.ga K "_law_sort_rows") fd_law_sort_rows := F_law_sort_rows
  have g_law_sort_rows := He.glo_ok X G (c.t.d.fact 16 (f := .glo "_law_sort_rows") rfl)
  obtain ⟨fd_law_rules_for, F_law_rules_for⟩ := c.t.d.def_ 17 (d := mkD "_law_rules_for" s_law_rules_for []) rfl
  replace F_law_rules_for : FunD K "_law_rules_for" "_law_rules_for" (defArgs s_law_rules_for) (defBody s_law_rules_for) (defScope s_law_rules_for) [] [] (He.ga K "_law_rules_for") fd_law_rules_for := F_law_rules_for
  have g_law_rules_for := He.glo_ok X G (c.t.d.fact 17 (f := .glo "_law_rules_for") rfl)
  obtain ⟨fd_law_drawn, F_law_drawn⟩ := c.t.d.def_ 18 (d := mkD "_law_drawn" s_law_drawn []) rfl
  replace F_law_drawn : FunD K "_law_drawn" "_law_drawn" (defArgs s_law_drawn) (defBody s_law_drawn) (defScope s_law_drawn) [] [] (He.ga K "_law_drawn") fd_law_drawn := F_law_drawn
  have g_law_drawn := He.glo_ok X G (c.t.d.fact 18 (f := .glo "_law_drawn") rfl)
  obtain ⟨fd_law_any, F_law_any⟩ := c.t.d.def_ 19 (d := mkD "_law_any" s_law_any []) rfl
  replace F_law_any : FunD K "_law_any" "_law_any" (defArgs s_law_any) (defBody s_law_any) (defScope s_law_any) [] [] (He.ga K "_law_any") fd_law_any := F_law_any
  have g_law_any := He.glo_ok X G (c.t.d.fact 19 (f := .glo "_law_any") rfl)
  obtain ⟨fd_law_sizes, F_law_sizes⟩ := c.t.d.def_ 20 (d := mkD "_law_sizes" s_law_sizes []) rfl
  replace F_law_sizes : FunD K "_law_sizes" "_law_sizes" (defArgs s_law_sizes) (defBody s_law_sizes) (defScope s_law_sizes) [] [] (He.ga K "_law_sizes") fd_law_sizes := F_law_sizes
  have g_law_sizes := He.glo_ok X G (c.t.d.fact 20 (f := .glo "_law_sizes") rfl)
  obtain ⟨fd_law_grown, F_law_grown⟩ := c.t.d.def_ 21 (d := mkD "_law_grown" s_law_grown []) rfl
  replace F_law_grown : FunD K "_law_grown" "_law_grown" (defArgs s_law_grown) (defBody s_law_grown) (defScope s_law_grown) [] [] (He.ga K "_law_grown") fd_law_grown := F_law_grown
  have g_law_grown := He.glo_ok X G (c.t.d.fact 21 (f := .glo "_law_grown") rfl)
  obtain ⟨fd_law_tree_of, F_law_tree_of⟩ := c.t.d.def_ 22 (d := mkD "_law_tree_of" s_law_tree_of []) rfl
  replace F_law_tree_of : FunD K "_law_tree_of" "_law_tree_of" (defArgs s_law_tree_of) (defBody s_law_tree_of) (defScope s_law_tree_of) [] [] (He.ga K "_law_tree_of") fd_law_tree_of := F_law_tree_of
  have g_law_tree_of := He.glo_ok X G (c.t.d.fact 22 (f := .glo "_law_tree_of") rfl)
  obtain ⟨fd_law_same, F_law_same⟩ := c.t.d.def_ 23 (d := mkD "_law_same" s_law_same []) rfl
  replace F_law_same : FunD K "_law_same" "_law_same" (defArgs s_law_same) (defBody s_law_same) (defScope s_law_same) [] [] (He.ga K "_law_same") fd_law_same := F_law_same
  have g_law_same := He.glo_ok X G (c.t.d.fact 23 (f := .glo "_law_same") rfl)
  obtain ⟨fd_law_wild, F_law_wild⟩ := c.t.d.def_ 24 (d := mkD "_law_wild" s_law_wild []) rfl
  replace F_law_wild : FunD K "_law_wild" "_law_wild" (defArgs s_law_wild) (defBody s_law_wild) (defScope s_law_wild) [] [] (He.ga K "_law_wild") fd_law_wild := F_law_wild
  have g_law_wild := He.glo_ok X G (c.t.d.fact 24 (f := .glo "_law_wild") rfl)
  obtain ⟨fd_law_spelled, F_law_spelled⟩ := c.t.d.def_ 25 (d := mkD "_law_spelled" s_law_spelled []) rfl
  replace F_law_spelled : FunD K "_law_spelled" "_law_spelled" (defArgs s_law_spelled) (defBody s_law_spelled) (defScope s_law_spelled) [] [] (He.ga K "_law_spelled") fd_law_spelled := F_law_spelled
  have g_law_spelled := He.glo_ok X G (c.t.d.fact 25 (f := .glo "_law_spelled") rfl)
  obtain ⟨fd_law_right, F_law_right⟩ := c.t.d.def_ 26 (d := mkD "_law_right" s_law_right []) rfl
  replace F_law_right : FunD K "_law_right" "_law_right" (defArgs s_law_right) (defBody s_law_right) (defScope s_law_right) [] [] (He.ga K "_law_right") fd_law_right := F_law_right
  have g_law_right := He.glo_ok X G (c.t.d.fact 26 (f := .glo "_law_right") rfl)
  obtain ⟨fdlaw, Flaw⟩ := c.t.d.def_ 27 (d := mkD "law" slaw []) rfl
  replace Flaw : FunD K "law" "law" (defArgs slaw) (defBody slaw) (defScope slaw) [] [] (He.ga K "law") fdlaw := Flaw
  have glaw := He.glo_ok X G (c.t.d.fact 27 (f := .glo "law") rfl)
  have gBadText := He.glo_ok X G (c.t.d.fact 28 (f := .glo "BadText") rfl)
  have mlen := He.free_ok X G (c.t.d.fact 29 (f := .free "len") rfl)
  have mabs := He.free_ok X G (c.t.d.fact 30 (f := .free "abs") rfl)
  have mint := He.free_ok X G (c.t.d.fact 31 (f := .free "int") rfl)
  have mlist := He.free_ok X G (c.t.d.fact 32 (f := .free "list") rfl)
  have mrange := He.free_ok X G (c.t.d.fact 33 (f := .free "range") rfl)
  have menumerate := He.free_ok X G (c.t.d.fact 34 (f := .free "enumerate") rfl)
  have mmin := He.free_ok X G (c.t.d.fact 35 (f := .free "min") rfl)
  have mtuple := He.free_ok X G (c.t.d.fact 36 (f := .free "tuple") rfl)
  have mdict := He.free_ok X G (c.t.d.fact 37 (f := .free "dict") rfl)
  have mall := He.free_ok X G (c.t.d.fact 38 (f := .free "all") rfl)
  have msum := He.free_ok X G (c.t.d.fact 39 (f := .free "sum") rfl)
  have mmax := He.free_ok X G (c.t.d.fact 40 (f := .free "max") rfl)
  have msorted := He.free_ok X G (c.t.d.fact 41 (f := .free "sorted") rfl)
  have misinstance := He.free_ok X G (c.t.d.fact 42 (f := .free "isinstance") rfl)
  have mstr := He.free_ok X G (c.t.d.fact 43 (f := .free "str") rfl)
  have mbool := He.free_ok X G (c.t.d.fact 44 (f := .free "bool") rfl)
  have mzip := He.free_ok X G (c.t.d.fact 45 (f := .free "zip") rfl)
  have mrepr := He.free_ok X G (c.t.d.fact 46 (f := .free "repr") rfl)
  have mreversed := He.free_ok X G (c.t.d.fact 47 (f := .free "reversed") rfl)
  have mValueError := He.free_ok X G (c.t.d.fact 48 (f := .free "ValueError") rfl)
  have iMOST_SIGNS := He.int_ok X G (c.t.d.fact 49 (f := .int "MOST_SIGNS" 6) rfl)
  have iMOST_PARTS := He.int_ok X G (c.t.d.fact 50 (f := .int "MOST_PARTS" 2) rfl)
  have iMOST_DEEP := He.int_ok X G (c.t.d.fact 51 (f := .int "MOST_DEEP" 30) rfl)
  have iSMALL := He.str_ok X G (c.t.d.fact 52 (f := .str "SMALL" "abcdefghijklmnopqrstuvwxyz") rfl)
  have iFIGURES := He.str_ok X G (c.t.d.fact 53 (f := .str "FIGURES" "0123456789") rfl)
  have iNO_NAME := He.str_ok X G (c.t.d.fact 54 (f := .str "NO_NAME" "own") rfl)
  have hmore := c.more
  unfold exB at hmore
  simp only [Bool.and_eq_true, decide_eq_true_eq] at hmore
  obtain ⟨⟨⟨hOwn, hn1⟩, hi1⟩, hi2⟩ := hmore
  obtain ⟨fdI, FI⟩ := c.t.d.def_ 28 (d := ⟨("BadText", some "__init__"), "__init__", "BadText.__init__", defArgs sBadText_init, defBody sBadText_init, defScope sBadText_init, [], []⟩) rfl
  replace FI : FunD K "__init__" "BadText.__init__" (defArgs sBadText_init) (defBody sBadText_init) (defScope sBadText_init) [] [] (He.ma K (He.ga K "BadText") "__init__") fdI := FI
  have TN := own_of hOwn
  cases hfa.symm.trans glaw
  have b := FunD.bindsA (ps := ["_law_script"]) Flaw fun _ _ _ _ _ _ us hl => match us, hl with | [_], _ => rfl
  have B : BltX mg := { len := mlen, abs := mabs, int' := mint, list := mlist, range := mrange, enumerate := menumerate, min := mmin, tuple := mtuple, dict := mdict, all := mall, sum := msum, max := mmax, sorted := msorted, isinstance := misinstance, str := mstr, bool := mbool, zip := mzip, repr := mrepr, reversed := mreversed }
  have CN : Con mg := ⟨iSMALL, iFIGURES, iMOST_SIGNS, iMOST_PARTS, iMOST_DEEP, iNO_NAME⟩
  refine ⟨fdlaw, fun s v => b s [v] rfl, fun base _ _ => ?_⟩
  have okI : FnOk P w K mg base CX0 1 (He.ma K (He.ga K "BadText") "__init__") fdI ["self", "at"] (spInit1 (He.ga K "BadText") "at") := ok_BadText (Fw.ofD FI) mValueError TN hn1
  have bI : Binds K fdI ["self", "at"] [] := FI.bindsN (fun _ _ _ _ _ _ us hl => match us, hl with | [_, _], _ => rfl)
  have Gtake : Fq P w K mg base CX0 1 "_law_take" ["_law_box", "_law_many"] spTake := mkFq F_law_take g_law_take (fun _ _ _ _ _ _ us hl => match us, hl with | [_, _], _ => rfl) (.of (ok_take (Fw.ofD F_law_take) B.toBlt))
  have Gdip : Fq P w K mg base CX0 1 "_law_dip" ["_law_script", "_law_k"] (spDip K) := mkFq F_law_dip g_law_dip (fun _ _ _ _ _ _ us hl => match us, hl with | [_, _], _ => rfl) (.of (ok_dip (Fw.ofD F_law_dip) B.toBlt))
  have Gfolded : Fq P w K mg base CX0 1 "_law_folded" ["_law_script", "_law_size"] (spFolded K) := mkFq F_law_folded g_law_folded (fun _ _ _ _ _ _ us hl => match us, hl with | [_, _], _ => rfl) (.of (ok_folded (Fw.ofD F_law_folded) B.toBlt))
  have Gone : Fq P w K mg base CX0 2 "_law_one_of" ["_law_box", "_law_some"] (spOneOf K) := mkFq F_law_one_of g_law_one_of (fun _ _ _ _ _ _ us hl => match us, hl with | [_, _], _ => rfl) (ok_one_of F_law_one_of B.toBltT Gtake)
  have Gnum : Fq P w K mg base CX0 2 "_law_number" ["_law_box"] spNumber := mkFq F_law_number g_law_number (fun _ _ _ _ _ _ us hl => match us, hl with | [_], _ => rfl) (ok_number F_law_number Gtake)
  have Gnamed : Fq P w K mg base CX0 2 "_law_named" ["_law_box", "_law_many"] spNamed := mkFq F_law_named g_law_named (fun _ _ _ _ _ _ us hl => match us, hl with | [_, _], _ => rfl) (ok_named F_law_named B.toBltT Gtake)
  have Gstrewn : Fq P w K mg base CX0 2 "_law_strewn" ["_law_box", "_law_some"] (spStrewn K) := mkFq F_law_strewn g_law_strewn (fun _ _ _ _ _ _ us hl => match us, hl with | [_, _], _ => rfl) (ok_strewn F_law_strewn B.toBltT Gtake)
  have Grows : Fq P w K mg base CX0 3 "_law_sort_rows" ["_law_box", "_law_many"] (spSortRows K) := mkFq F_law_sort_rows g_law_sort_rows (fun _ _ _ _ _ _ us hl => match us, hl with | [_, _], _ => rfl) (ok_sort_rows F_law_sort_rows B.toBltT Gtake Gnamed Gstrewn)
  have Grules : Fq P w K mg base CX0 3 "_law_rules_for" ["_law_box", "_law_g", "_law_row", "_law_phases", "_law_wild_here"] (spRules K) := mkFq F_law_rules_for g_law_rules_for (fun _ _ _ _ _ _ us hl => match us, hl with | [_, _, _, _, _], _ => rfl) (ok_rules_for F_law_rules_for B.toBltT Gtake Gnamed Gstrewn Gone Gnum)
  have Gdrawn : Fq P w K mg base CX0 4 "_law_drawn" ["_law_box", "_law_roof", "_law_wild_here"] (spDrawn K P w) := mkFq F_law_drawn g_law_drawn (fun _ _ _ _ _ _ us hl => match us, hl with | [_, _, _], _ => rfl) (ok_drawn F_law_drawn B.toBltD Gtake Gnamed Gstrewn Gone Grows Grules)
  have Gany : Fq P w K mg base CX0 5 "_law_any" ["_law_box"] (spAny K P w) := mkFq F_law_any g_law_any (fun _ _ _ _ _ _ us hl => match us, hl with | [_], _ => rfl) (ok_any F_law_any B.toBltD Gtake Gdrawn)
  have Gsizes : Fq P w K mg base CX0 1 "_law_sizes" ["_law_g"] (spSizes K) := mkFq F_law_sizes g_law_sizes (fun _ _ _ _ _ _ us hl => match us, hl with | [_], _ => rfl) (ok_sizes F_law_sizes B.toBltD)
  have Ggrown : Fq P w K mg base CX0 31 "_law_grown" ["_law_box", "_law_g", "_law_sizes_here", "_law_kind", "_law_room", "_law_deep"] (spGro K 28) := mkFq F_law_grown g_law_grown (fun _ _ _ _ _ _ us hl => match us, hl with | [_, _, _, _, _, _], _ => rfl) (grown_fn F_law_grown B.toBltD g_law_grown Gtake Gone Gnum 28)
  have Gtreeof : Fq P w K mg base CX0 32 "_law_tree_of" ["_law_box", "_law_g", "_law_most"] (spTreeOf K) := mkFq F_law_tree_of g_law_tree_of (fun _ _ _ _ _ _ us hl => match us, hl with | [_, _, _], _ => rfl) (ok_tree_of F_law_tree_of B.toBltD Gtake Gone Gsizes Ggrown)
  have Gsame : Fq P w K mg base CX0 131 "_law_same" ["_law_found", "_law_due"] (spSame K 130) := mkFq F_law_same g_law_same (fun _ _ _ _ _ _ us hl => match us, hl with | [_, _], _ => rfl) (same_fn F_law_same B g_law_same 130 (by decide))
  have Gwild : Fq P w K mg base CX0 33 "_law_wild" ["_law_box", "_law_names", "_law_room", "_law_deep"] (spWild K 30) := mkFq F_law_wild g_law_wild (fun _ _ _ _ _ _ us hl => match us, hl with | [_, _, _, _], _ => rfl) (wild_fn F_law_wild B.toBltT g_law_wild Gtake Gone Gnum 30)
  have Gspelled : Fq P w K mg base CX0 32 "_law_spelled" ["_law_tree"] (spSpelled K 31) := mkFq F_law_spelled g_law_spelled (fun _ _ _ _ _ _ us hl => match us, hl with | [_], _ => rfl) (spelled_fn F_law_spelled B g_law_spelled 31 (by decide))
  have Ghead : Fq P w K mg base CX0 1 "head_text" ["making", "own"] spHead := mkFq Fhead_text ghead_text (fun _ _ _ _ _ _ us hl => match us, hl with | [_, _], _ => rfl) (ok_head Fhead_text)
  have Gwithin : Fq P w K mg base CX0 1 "parts_within" ["parts"] (spWithin K) := mkFq Fparts_within gparts_within (fun _ _ _ _ _ _ us hl => match us, hl with | [_], _ => rfl) (ok_within Fparts_within)
  have Gtext : Fq P w K mg base CX0 2 "tree_text" ["tree"] (spText K) := mkFq Ftree_text gtree_text (fun _ _ _ _ _ _ us hl => match us, hl with | [_], _ => rfl) (ok_text Ftree_text B Ghead Gwithin)
  have Gsigns : Fq P w K mg base CX0 1 "signs_on" ["text", "at", "signs", "most"] spSigns := mkFq Fsigns_on gsigns_on (fun _ _ _ _ _ _ us hl => match us, hl with | [_, _, _, _], _ => rfl) (ok_signs Fsigns_on B)
  have Gname : Fq P w K mg base (L2.CX P w) 3 "name_at" ["text", "at"] (spName (He.ga K "BadText")) := mkFq Fname_at gname_at (fun _ _ _ _ _ _ us hl => match us, hl with | [_, _], _ => rfl) (ok_name TN hi1 hi2 okI bI gBadText CN Gsigns Fname_at)
  have Gown : Fq P w K mg base (L2.CX P w) 3 "own_at" ["text", "at"] (spOwn (He.ga K "BadText")) := mkFq Fown_at gown_at (fun _ _ _ _ _ _ us hl => match us, hl with | [_, _], _ => rfl) (ok_own TN hi1 hi2 okI bI gBadText CN Gsigns Fown_at)
  have Gclosed : Fq P w K mg base CX0 1 "closed" ["node"] (spClosed K) := mkFq Fclosed gclosed (fun _ _ _ _ _ _ us hl => match us, hl with | [_], _ => rfl) (ok_closed Fclosed B)
  have Ggoes : Fq P w K mg base (L2.CX P w) 3 "goes_on" ["text", "at", "opened", "node"] (spGoes K (He.ga K "BadText")) := mkFq Fgoes_on ggoes_on (fun _ _ _ _ _ _ us hl => match us, hl with | [_, _, _, _], _ => rfl) (ok_goes TN hi1 hi2 okI bI gBadText CN B Gclosed Fgoes_on)
  have Gtree : Fq P w K mg base (L2.CX P w) 4 "tree_in" ["text"] (spTree K (He.ga K "BadText")) := mkFq Ftree_in gtree_in (fun _ _ _ _ _ _ us hl => match us, hl with | [_], _ => rfl) (ok_tree TN hi1 hi2 okI bI gBadText CN B Gclosed Ftree_in Gname Gown Ggoes)
  have Gright : Fq P w K mg base CX0 132 "_law_right" ["_law_box"] spRight := mkFq F_law_right g_law_right (fun _ _ _ _ _ _ us hl => match us, hl with | [_], _ => rfl) (ok_right F_law_right B Gtake Gnamed Gwild Gany Gtreeof Gspelled Gsame Gtree Gtext)
  exact ok_law Flaw B Gfolded Gdip Gright
end Law
open PySem PySem.W PySem.Calls PyProof.Rows
set_option maxRecDepth 100000 in
set_option maxHeartbeats 0 in
theorem PySem.Challenge.cw_threereckons_k18_trees_written_and_read_holds : PySem.Challenge.rw_threereckons_k18_trees_written_and_read.Holds := by
  w_on; o_law
  refine HandSHeadRun.head_any (r := OpenLaw.row PySem.Challenge.rw_threereckons_k18_trees_written_and_read) (q := view (OpenLaw.row PySem.Challenge.rw_threereckons_k18_trees_written_and_read).prog [37]) (H := Law.hk) (ob := Law.ob) (M := 8000) (loose := Law.loose) (d := HandSHeadRun.topDef (OpenLaw.row PySem.Challenge.rw_threereckons_k18_trees_written_and_read).prog 37) (kwd := []) Law.ob_eq
    (by kernel_rfl) (fun s => by kernel_rfl) Law.topRun (by kernel_rfl) (by kernel_rfl) (by kernel_rfl) (by rfl) (by first | assumption | decide +kernel) (by decide +kernel) ⟨rfl, rfl, rfl, rfl, rfl, by decide +kernel⟩ ?hw ?hc
  case hw => w_witness2
  case hc =>
    refine Fw.walk_ofG (l := PySem.Challenge.rw_threereckons_k18_trees_written_and_read) (n := 63) (k := 133) (x := "_law_script") rfl (by decide) (by kernel_rfl) ⟨rfl, by decide, by decide⟩ ?F
    intro w mg fa h Y G hmg0
    obtain ⟨K, KX, c⟩ := Y
    have hmg : mg ("law" : PySem.Str) = some (.ref fa) := by
      have e : (HandSHeadRun.topDef (OpenLaw.row PySem.Challenge.rw_threereckons_k18_trees_written_and_read).prog 37).name = ("law" : PySem.Str) := by kernel_rfl
      rw [← e]
      exact hmg0
    obtain ⟨fd, hb, hF⟩ := Law.facts (P := (PySem.Challenge.rw_threereckons_k18_trees_written_and_read).prog) (w := w) KX G hmg c
    exact ⟨K, fd, Law.spLaw K, KX, hb, fun H a ns hl _ hS => ⟨a, ns, rfl, hS, hl, fun _ => rfl⟩, hF⟩
