import PyProof.Rows.All
import Wide.All
import OpenK.AllK
import Wide.FinOn
import HandS.ForMost
import HandS.Wide
import HandS.IsInst
import HandS.More
import HandS.Style
import HandS.Deep
import HandS.TupAny
import KE.GoesEnum
import PyProof.EqAt
import PyProof.EqKinds
import PyProof.NeKinds
import HandS.Evl
import HandS.Walk
import HandS.Nested
import HandS.ExcInit
import HandS.ExcField
import KE.KExcSuper
import HandS.MakeKwOnly
import HandS.ExcIs
import HandS.Words
import HandS.HeadHook2
import HandS.HeadHook1
import HandS.Defaults
import HandS.HeadWalk
import HandS.ExcOwn
import HandS.ExcValue
import HandS.DeepEq
import HandS.Zip
import KE.KStateDown
import HandS.Head0
import HandS.Head1
import HandS.Head2
import HandS.HeadEnd
import PySem.Challenge.RW_seenmarks_k01_errors_made
set_option Elab.async false
set_option linter.all false
set_option maxRecDepth 100000
set_option maxHeartbeats 4000000
/-! What may change and what stays: a draw state, managed objects, facts that stand. -/
namespace G
open PySem L2
/-- s: the state of the draws, c: its cells, ns: what they hold, M: other objects that may be changed from outside -/
structure Amb where
  s : Addr
  c : Addr
  ns : List Int
  M : List Addr
/-- every object stays -/
def Ext (H H' : Hp) : Prop := ∀ a o, H a = some o → H' a = some o
theorem Ext.refl {H : Hp} : Ext H H := fun _ _ h => h
theorem Ext.trans {H H1 H2 : Hp} (a : Ext H H1) (b : Ext H1 H2) : Ext H H2 := fun x o h => b x o (a x o h)
theorem Ext.new {H : Hp} {p : Addr} {o : HO} (h : H p = none) : Ext H (upd H p o) := fun a u e => by
  rw [upd_ne (ne_of_none e h)]
  exact e
theorem Ext.mut {H H' : Hp} {p : Addr} {o : HO} (e : Ext H H') (h : H p = none) : Ext H (upd H' p o) := fun a u ha => by
  rw [upd_ne (ne_of_none ha h)]
  exact e a u ha
theorem Ext.back {H H' : Hp} {p : Addr} (e : Ext H H') (h : H' p = none) : H p = none := by
  cases h1 : H p with
  | none => rfl
  | some o =>
    rw [e p o h1] at h
    cases h
/-- the draw state is one -/
def DS (A : Amb) (H : Hp) : Prop := H A.c = some (.lst (A.ns.map V.int)) ∧ ∃ (n l : Int) (b : Bool), H A.s = some (.lst [.ref A.c, .int n, .int l, .bl b])
/-- what an evaluation may do: draw, and make new objects -/
structure R (A : Amb) (H H' : Hp) : Prop where
  keep : ∀ a o, a ≠ A.s → H a = some o → H' a = some o
  ds : DS A H'
/-- what others may do besides: change the managed objects -/
def S (A : Amb) (H H' : Hp) : Prop := ∀ a o, a ≠ A.s → a ∉ A.M → H a = some o → H' a = some o
/-- φ stands, whatever others do -/
def Stb (A : Amb) (φ : Hp → Prop) (H : Hp) : Prop := ∀ H', S A H H' → φ H'
structure I (A : Amb) (H : Hp) : Prop where
  ds : DS A H
  al : ∀ a ∈ A.M, H a ≠ none
  sM : A.s ∉ A.M
  cM : A.c ∉ A.M
  cs : A.c ≠ A.s
  nl : A.ns.length ≤ 1000
variable {A : Amb} {H H1 H2 H' : Hp} {φ ψ : Hp → Prop} {a l p : Addr} {o : HO}
theorem S.refl : S A H H := fun _ _ _ _ h => h
theorem S.trans (x : S A H H1) (y : S A H1 H2) : S A H H2 := fun a o h1 h2 h => y a o h1 h2 (x a o h1 h2 h)
theorem R.toS (r : R A H H') : S A H H' := fun a o h1 _ h => r.keep a o h1 h
theorem Ext.toS (e : Ext H H') : S A H H' := fun a o _ _ h => e a o h
theorem DS.ext (d : DS A H) (e : Ext H H') : DS A H' := by
  obtain ⟨h1, n, l, b, h2⟩ := d
  exact ⟨e _ _ h1, n, l, b, e _ _ h2⟩
theorem R.refl (i : I A H) : R A H H := ⟨fun _ _ _ h => h, i.ds⟩
theorem R.trans (x : R A H H1) (y : R A H1 H2) : R A H H2 := ⟨fun a o h1 h => y.keep a o h1 (x.keep a o h1 h), y.ds⟩
theorem R.ext (i : I A H) (e : Ext H H') : R A H H' := ⟨fun a o _ h => e a o h, i.ds.ext e⟩
theorem I.ne (i : I A H) (h : H p = none) : p ≠ A.s := fun z => by
  obtain ⟨_, n, l, b, h2⟩ := i.ds
  rw [z, h2] at h
  cases h
theorem I.nc (i : I A H) (h : H p = none) : p ≠ A.c := fun z => by
  obtain ⟨h2, _⟩ := i.ds
  rw [z, h2] at h
  cases h
theorem I.nM (i : I A H) (h : H p = none) : p ∉ A.M := fun z => i.al p z h
theorem I.run (i : I A H) (r : R A H H') : I A H' := by
  refine ⟨r.ds, fun a ha h => ?_, i.sM, i.cM, i.cs, i.nl⟩
  have h1 := i.al a ha
  cases e : H a with
  | none => exact h1 e
  | some o =>
    rw [r.keep a o (fun z => i.sM (by rw [← z]; exact ha)) e] at h
    cases h
theorem Stb.mono (f : Stb A φ H) (x : S A H H') : Stb A φ H' := fun H2 y => f H2 (x.trans y)
theorem Stb.run (f : Stb A φ H) (r : R A H H') : Stb A φ H' := f.mono r.toS
theorem Stb.now (f : Stb A φ H) : φ H := f H S.refl
theorem Stb.imp (f : Stb A φ H) (h : ∀ H, φ H → ψ H) : Stb A ψ H := fun H2 y => h H2 (f H2 y)
theorem Stb.and (f : Stb A φ H) (g : Stb A ψ H) : Stb A (fun H => φ H ∧ ψ H) H := fun H2 y => ⟨f H2 y, g H2 y⟩
theorem Stb.con {q : Prop} (h : q) : Stb A (fun _ => q) H := fun _ _ => h
theorem Stb.at (h : H a = some o) (h1 : a ≠ A.s) (h2 : a ∉ A.M) : Stb A (fun H => H a = some o) H := fun H2 y => y a o h1 h2 h
theorem Stb.new (i : I A H) (h : H p = none) : Stb A (fun H => H p = some o) (upd H p o) := .at upd_same (i.ne h) (i.nM h)
/-- a further managed object -/
def Amb.add (A : Amb) (l : Addr) : Amb := { A with M := l :: A.M }
theorem I.add (i : I A H) (hl : H l = none) (e : Ext H H1) (h1 : H1 l ≠ none) : I (A.add l) H1 := by
  refine ⟨i.ds.ext e, fun a ha => ?_, fun z => ?_, fun z => ?_, i.cs, i.nl⟩
  · rcases List.mem_cons.mp ha with z | z
    · rw [z]
      exact h1
    · intro q
      exact i.al a z (e.back q)
  · rcases List.mem_cons.mp z with z | z
    · exact i.ne hl z.symm
    · exact i.sM z
  · rcases List.mem_cons.mp z with z | z
    · exact i.nc hl z.symm
    · exact i.cM z
theorem Stb.add (f : Stb A φ H) (hl : H l = none) (e : Ext H H1) : Stb (A.add l) φ H1 := fun H2 y => f H2 fun a o h1 h2 h =>
  y a o h1 (fun z => by
    rcases List.mem_cons.mp z with z | z
    · rw [z, hl] at h
      cases h
    · exact h2 z) (e a o h)
theorem Stb.del (f : Stb (A.add l) φ H) : Stb A φ H := fun H2 y => f H2 fun a o h1 h2 h => y a o h1 (fun z => h2 (List.mem_cons_of_mem _ z)) h
theorem I.del (i : I (A.add l) H) : I A H := ⟨i.ds, fun a ha => i.al a (List.mem_cons_of_mem _ ha), fun z => i.sM (List.mem_cons_of_mem _ z), fun z => i.cM (List.mem_cons_of_mem _ z), i.cs, i.nl⟩
theorem S.mut (hl : l ∈ A.M) : S A H (upd H l o) := fun a u _ h2 h => by
  rw [upd_ne (fun z => h2 (by rw [z]; exact hl))]
  exact h
theorem I.mut (i : I A H) (hl : l ∈ A.M) : I A (upd H l o) := by
  have h1 : A.s ≠ l := fun z => i.sM (by rw [z]; exact hl)
  have h2 : A.c ≠ l := fun z => i.cM (by rw [z]; exact hl)
  obtain ⟨q1, n, k, b, q2⟩ := i.ds
  refine ⟨⟨by rw [upd_ne h2]; exact q1, n, k, b, by rw [upd_ne h1]; exact q2⟩, fun a ha z => ?_, i.sM, i.cM, i.cs, i.nl⟩
  by_cases e : a = l
  · rw [e, upd_same] at z
    cases z
  · rw [upd_ne e] at z
    exact i.al a ha z
end G
/-! Names for the answers of rules; a def with its bindings as one fact. -/
namespace G
open PySem L2
abbrev rAdd : R2 := rI0 fun i j => .int (i + j)
abbrev rSub : R2 := rI0 fun i j => .int (i - j)
abbrev rMul : R2 := rI CMul fun i j => .int (i * j)
abbrev rDivW : R2 := rI CDivW fun i j => .int (i / j)
abbrev rMod : R2 := rI (fun _ j => 0 < j) fun i j => .int (i % j)
abbrev rPow : R2 := rI CPow fun i j => .int (i ^ j.toNat)
abbrev rLt : R2 := rI0 fun i j => .bl (decide (i < j))
abbrev rLe : R2 := rI0 fun i j => .bl (decide (i ≤ j))
abbrev rGt : R2 := rI0 fun i j => .bl (decide (j < i))
abbrev rGe : R2 := rI0 fun i j => .bl (decide (j ≤ i))
abbrev rNeg : V → Hp → VK → Prop := rU fun i => .int (-i)
def rLtS : R2 := fun x y H Q => ∃ i j, x = .str i ∧ y = .str j ∧ Q (.bl (decide (i.cps.toList < j.cps.toList))) H
def rCatS : R2 := fun x y H Q => ∃ i j, x = .str i ∧ y = .str j ∧ i.length + j.length ≤ sizeLine ∧ Q (.str (i ++ j)) H
def rInC : R2 := fun x y H Q => ∃ (c : Nat) (z : Str), x = .str ⟨#[c]⟩ ∧ y = .str z ∧ Q (.bl (decide (c ∈ z.cps.toList))) H
def rIsNon : R2 := fun x y H Q => y = .non ∧ Q (.bl (decide (x = .non))) H
def rNotNon : R2 := fun x y H Q => y = .non ∧ Q (.bl (!decide (x = .non))) H
def rLenS (K : PySem.W.Frag) : List V → Hp → VK → Prop := fun xs H Q => ∃ p ys, xs = [.ref p] ∧ (SqL K H p ys ∨ SqT K H p ys) ∧ Q (.int ys.length) H
def rLenZ : List V → Hp → VK → Prop := fun xs H Q => ∃ z, xs = [.str z] ∧ z.length ≤ sizeLine ∧ Q (.int z.length) H
def rListS (K : PySem.W.Frag) : List V → Hp → VK → Prop := fun xs H Q => ∃ p ys, xs = [.ref p] ∧ (SqL K H p ys ∨ SqT K H p ys) ∧ ∀ l, H l = none → Q (.ref l) (upd H l (.lst ys))
def rTupS (K : PySem.W.Frag) : List V → Hp → VK → Prop := fun xs H Q => ∃ p ys, xs = [.ref p] ∧ ((SqL K H p ys ∧ ∀ l, H l = none → Q (.ref l) (upd H l (.tup ys))) ∨ (SqT K H p ys ∧ Q (.ref p) H))
def rInt1 : List V → Hp → VK → Prop := fun xs H Q => (∃ i, xs = [.int i] ∧ Q (.int i) H) ∨ ∃ k, xs = [.bl k] ∧ Q (.int (if k then 1 else 0)) H
def rInsert : V → List V → Hp → VK → Prop := fun x vs H Q => ∃ (l : Addr) (xs : List V) (i : Int) (y : V), x = .ref l ∧ vs = [.int i, y] ∧ H l = some (.lst xs) ∧ xs.length < sizeLine ∧ 0 ≤ i ∧ i < 2 ^ 63 ∧ Q .non (upd H l (.lst (xs.take i.toNat ++ y :: xs.drop i.toNat)))
section
variable {X : Cx}
theorem op_ltS : OpR X (compareOp .Lt) rLtS := op_lt_str
theorem op_catS : OpR X (binaryOp .Add) rCatS := op_add_str
theorem op_inC : OpR X (compareOp .In) rInC := op_in_sign
theorem op_isNon : OpR X (compareOp .Is) rIsNon := op_isN
theorem op_notNon : OpR X (compareOp .IsNot) rNotNon := op_notN
theorem cb_len : CallR X (.builtin "len") (rLenS X.K) := call_len_seq
theorem cb_lenZ : CallR X (.builtin "len") rLenZ := call_len_str
theorem cb_list : CallR X (.type "list") (rListS X.K) := call_list_of
theorem cb_tuple : CallR X (.type "tuple") (rTupS X.K) := call_tuple_of
theorem cb_int : CallR X (.type "int") rInt1 := call_int1
end
/-- a def that keeps sp, with its bindings -/
structure FOk (P : Program) (w : World) (K : PySem.W.Frag) (mg : Str → Option Value) (base : Heap) (CX : CXT) (k : Nat) (f : Addr) (ps : List Str) (dvs : List V) (sp : Sp) : Prop where
  ex : ∃ fd ds, FnOk P w K mg base CX k f fd ps sp ∧ Vals dvs ds ∧ Binds K fd ps ds
  kp : PySem.W.keepIn K (.ref f) = true
section
variable {X : Cx} {CX : CXT} {k : Nat} {f C : Addr} {ps : List Str} {sp : Sp} {dvs : List V} {E : XK} {x m : Str} {p pos apos : Pos} {e o : Expr} {es : List Expr} {ta : TE} {t : TA}
theorem FOk.mono {P : Program} {w : World} {K : PySem.W.Frag} {mg : Str → Option Value} {base : Heap} {j : Nat} (fo : FOk P w K mg base CX j f ps dvs sp) (h : j ≤ k) : FOk P w K mg base CX k f ps dvs sp := by
  obtain ⟨⟨fd, ds, F, h1, h2⟩, h3⟩ := fo
  exact ⟨⟨fd, ds, F.mono h, h1, h2⟩, h3⟩
theorem FOk.imp {P : Program} {w : World} {K : PySem.W.Frag} {mg : Str → Option Value} {base : Heap} {sp' : Sp} (fo : FOk P w K mg base CX k f ps dvs sp) (h : ∀ vs H Q E, sp' vs H Q E → sp vs H Q E) : FOk P w K mg base CX k f ps dvs sp' := by
  obtain ⟨⟨fd, ds, F, h1, h2⟩, h3⟩ := fo
  exact ⟨⟨fd, ds, F.imp h, h1, h2⟩, h3⟩
end
end G
/-! enumerate of a tuple, walked. -/
namespace G
open PySem PySem.Spec PyProof.Rows L2
section
variable {prog : Program} {w : World} {A : Around} {E : Value → Shared → Prop} {s : Shared}
theorem enumT_new {v : Value} {o : Obj} {H : Heap → Prop} (B : Begins v o H) :
    Meets (Builtin.«enumerate.__new__» ⟨[.type "enumerate", v], []⟩) (fun _ R s => H s.heap ∧
      R (.ok (.ret (.ref (s.heap.push o).objs.size))) { s with heap := (s.heap.push o).push { cls := .type "enumerate", data := .fields #[.none, .bool false, .ref s.heap.objs.size, rawInt 0, .none, .none] } }) :=
  Meets.of_wp fun prog w A R s hh => by
    obtain ⟨hp, g, d, tk, os⟩ := s
    obtain ⟨h1, h⟩ := hh
    have hsub := sub_enumerate
    have q1 : ∀ {A' : Around} {E : Value → Shared → Prop} {Q : Value → Shared → Prop}, Q (.ref hp.objs.size) ⟨hp.push o, g, d, tk, os⟩ → wpAny (model prog w) A' (pyIter v) Q E ⟨hp, g, d, tk, os⟩ := fun q =>
      B.iter prog w _ _ ⟨hp, g, d, tk, os⟩ _ h1 q
    wp_walk using q1
    refine wpAny_stack_any fun st => wpAny_pure ?_
    split
    · rename_i c _ _ _ _ _
      cases (c == Value.type "enumerate") <;> (wp_walk using q1; exact ⟨_, rfl, h⟩)
    · wp_walk using q1
      exact ⟨_, rfl, h⟩
theorem enumT_end {e it l : Addr} {i : Nat} {items : Array Value} {old : Value} {Q : Option Value → Shared → Prop} (hh : A.handled = none) (he : IsEnum s.heap e it i old) (hit : s.heap.IsTupleIter it l i) (hl : s.heap.IsTuple l items) (hx : items[i]? = none)
    (k : ∀ h', Heap.ExtBut it s.heap h' → Q none { s with heap := h' }) : wpAny (model prog w) A (pyNext (.ref e)) Q E s := by
  have ty : s.TypeIs (.ref e) "enumerate" := ⟨_, he, rfl⟩
  unfold pyNext
  refine wpAny_bind (wpAny_attempt (wpAny_callSpecial?_slot (name := Str.ofString "__next__") ty F.slot_enumerate_next (wpAny_call_entry F.slot_enumerate_next ty F.entry_enumerate_next ?_ (F.args_enumerate_next_1 _))))
  show wpAny _ _ (field (.ref e) 2 >>= _) _ _ _
  refine wpAny_bind (wpAny_field he rfl (x := .ref it) rfl ?_)
  refine wpAny_bind (wpAny_nextOf_tuple_end hh hit hl hx fun h' x h1 h2 => ?_)
  obtain ⟨o, ho, hc⟩ := h2
  refine wpAny_bind (wpAny_isInstance (T := "StopIteration") (b := true) ⟨o, ho, hc⟩ isSubtype_stop ?_)
  exact wpAny_pure (k _ h1)
theorem enumT_begins {v : Value} {o : Obj} {H : Heap → Prop} {Q : Value → Shared → Prop} (B : Begins v o H) (h1 : H s.heap)
    (k : ∀ h', IsEnum h' (s.heap.objs.size + 1) s.heap.objs.size 0 .none → h'.get? s.heap.objs.size = some o → (∀ b u, s.heap.get? b = some u → h'.get? b = some u) → Q (.ref (s.heap.objs.size + 1)) { s with heap := h' }) :
    wpAny (model prog w) A (call (.type "enumerate") [v]) Q E s := by
  refine callType_new F.called_enumerate (by decide) (F.typeCall_enumerate_1 _) (F.newCall_enumerate_1 _) (fun obj => F.args_object_init_2 obj _) F.entry_enumerate_new (enumT_new B) ⟨h1, ?_⟩
  have z : (s.heap.push o).objs.size = s.heap.objs.size + 1 := Heap.size_push ..
  have e1 := Heap.get?_push_size (s.heap.push o) (o := { cls := .type "enumerate", data := .fields #[.none, .bool false, .ref s.heap.objs.size, rawInt 0, .none, .none] }) rfl
  show _ ∧ _
  rw [z] at e1 ⊢
  exact ⟨⟨_, e1, rfl⟩, k _ e1 (Heap.get?_push_of_some _ (Heap.get?_push_size _ B.free)) fun b u x => Heap.get?_push_of_some _ (Heap.get?_push_of_some _ x)⟩
end
/-- the tuple at a, each item in a new pair -/
def IteT (K : PySem.W.Frag) (a : Addr) : It :=
  ⟨fun i H => ∃ (xs : List V) (x : V), SqT K H a xs ∧ xs[i]? = some x, fun i H v H' => ∃ T x, v = .ref T ∧ H T = none ∧ H' = upd H T (.tup [.int (i : Nat), x]) ∧ ∀ xs, SqT K H a xs → xs[i]? = some x, fun i H => ∃ xs : List V, SqT K H a xs ∧ xs.length ≤ i⟩
theorem turn_enumT {P : Program} {w : World} {K : PySem.W.Frag} {elts : List Expr} {kk : Nat} {tpos : Pos} (a e it : Addr) (items : Array Value) (hat : a ≠ it) (hae : a ≠ e) :
    Turn P w K (.Tuple elts kk tpos) (IteT K a) [e, it] e (fun i h => (∃ old, IsEnum h e it ((i : Nat) : Int) old) ∧ h.IsTupleIter it a i ∧ e ≠ it) where
  mem := by simp
  obj := fun i h st b hb => by
    obtain ⟨⟨old, he⟩, ⟨o, ho, hc, hd⟩, _⟩ := st
    rcases (show b = e ∨ b = it by simpa using hb) with z | z
    · rw [z]
      exact ⟨_, he, fun v q => nomatch q⟩
    · exact ⟨o, by rw [z]; exact ho, fun v q => by rw [hd] at q; cases q⟩
  keep := fun i h h' st k => by
    obtain ⟨⟨old, he⟩, hi, hne⟩ := st
    exact ⟨⟨old, k e (by simp) _ he⟩, hi.at fun o q => k it (by simp) o q, hne⟩
  item := by
    intro X e1 e2 e3 hc i pins s σ H E I hf st hg
    subst e1 e2 e3
    obtain ⟨⟨old, he⟩, hit, hne⟩ := st
    obtain ⟨xs, x, hq, hx⟩ := hg
    obtain ⟨its, rv, p, hz⟩ := I.tuple hq
    obtain ⟨u, hu, ru⟩ := rv.get hx
    have el : e < s.heap.objs.size := Heap.lt_size he
    have il : it < s.heap.objs.size := by
      obtain ⟨_, q, _⟩ := hit
      exact Heap.lt_size q
    have pt : s.heap.IsTuple a its.toArray := p
    refine wpAny_pyNext_enum_itemD (Draws.tuple (A := X.A.in1) (I.ok.hd hc) it a hat its.toArray) he ⟨hit, pt⟩ ?_ hne (by simp [hne, Ne.symm hae]) fun y h' tk hy ho st' hT hsz hk => ?_
    · simpa using (List.getElem?_eq_some_iff.mp hu).1
    have ey : y = u := by
      have z : its.toArray[i]? = some u := by simpa using hu
      exact Option.some.inj (hy.symm.trans z)
    subst ey
    refine ⟨_, rfl, wpAny_letOwnedTupleGo_enum (s := { s with heap := h', toks := tk + 1 }) ho fun h2 he2 sb => ?_⟩
    have t2 : h2.get? s.heap.objs.size = some { cls := .type "tuple", data := .seq #[.int i tk, y] } := (sb.2 _ (Nat.ne_of_gt el)).trans hT
    have nw : ObjOk X.prog X.w (upd H s.heap.objs.size (.tup [.int (i : Nat), x])) h2 s.heap.objs.size (.tup [.int (i : Nat), x]) :=
      ⟨by show 2 ≤ sizeLine; decide, [.int i tk, y], .cons ⟨_, rfl⟩ (.cons ru .nil), ⟨_, t2, rfl, _, rfl⟩⟩
    have I1 : Inv X pins σ (upd H s.heap.objs.size (.tup [.int (i : Nat), x])) { s with heap := h2, toks := tk + 1 } := by
      refine I.turnedNew (t' := tk + 1) (ch := [e, it]) (fun b ob hb q => ?_) hf (Nat.le_refl _) nw
      have b1 : b ≠ e := fun z => hb (by simp [z])
      have b2 : b ≠ it := fun z => hb (by simp [z])
      exact (sb.2 b b1).trans (hk b ob b1 b2 q)
    refine ⟨.ref s.heap.objs.size, _, I1, rfl, ⟨_, x, rfl, I.hok.fresh (Nat.le_refl _), rfl, fun ys hy => by rw [I.tuple_inj hy hq]; exact hx⟩, ⟨⟨y, ?_⟩, st'.1.at fun o q => (sb.2 it (Ne.symm hne)).trans q, hne⟩, fun b hb => ?_⟩
    · have z : ((i + 1 : Nat) : Int) = (i : Int) + 1 := by omega
      rw [z]
      exact he2
    · have hb2 : b < s.heap.objs.size := by
        rcases (show b = e ∨ b = it by simpa using hb) with z | z
        · rw [z]; exact el
        · rw [z]; exact il
      rw [upd_ne (Nat.ne_of_lt hb2)]
      exact (hf b hb).1
  done := by
    intro X e1 e2 e3 hc i pins s σ H E I hf st hg
    subst e1 e2 e3
    obtain ⟨⟨old, he⟩, hit, hne⟩ := st
    obtain ⟨xs, hq, hx⟩ := hg
    obtain ⟨its, rv, p, hz⟩ := I.tuple hq
    obtain ⟨f0, f1, f2, f3, f4, f5⟩ := hf it (by simp)
    have pt : s.heap.IsTuple a its.toArray := p
    have hl := rv.length
    refine enumT_end (I.ok.hd hc) he hit pt (by simp; omega) fun h' eb => ⟨rfl, I.turned (t' := s.toks) (fun b o hb q => eb b o hb q) f0 f1 f3 f4 f5⟩
  self := fun A i s Q E st h => by
    obtain ⟨⟨_, he⟩, _⟩ := st
    exact wpAny_pyIter_enum he h
def iEnumT (K : PySem.W.Frag) (ta : TA) : TI := fun σ H R => ta σ H fun vs H1 => ∃ a xs, vs = [.ref a] ∧ SqT K H1 a xs ∧ R (IteT K a) H1
theorem pi_enumT {X : Cx} {e : Expr} {ta : TA} {p pos tpos : Pos} {elts : List Expr} {kk : Nat} (hg : Gl X "enumerate") (hm : X.mg "enumerate" = none) (ha : PA X [e] ta) (hs : starEach [e] X.env = [(false, eval e X.env)] := by rfl) :
    PI X (.Tuple elts kk tpos) (.Call (.Name "enumerate" p) [e] [] pos) (iEnumT X.K ta) := by
  refine ⟨fun pins s σ H R I h => ?_⟩
  refine Call_ (ld_blt I hg hm boot_enumerate (PyProof.Rows.callWith_type1 (thn (ha.run pos pins s σ H _ I h) fun us s1 ⟨vs, H1, I1, r1, a, xs, ex, hq, q⟩ => ?_) hs rfl))
  subst ex
  cases r1 with
  | cons r rr =>
    cases rr
    cases r
    obtain ⟨its, rv, p', hz⟩ := I1.tuple hq
    have pt : s1.heap.IsTuple a its.toArray := p'
    have al : a < s1.heap.objs.size := p'.lt
    refine enumT_begins (begins_tuple a its.toArray) pt fun h' he hi hk => wpAny_pyIter_enum he ?_
    have I2 : Inv X pins σ H1 { s1 with heap := h' } := I1.kept (t' := s1.toks) hk
    refine ⟨s1.heap.objs.size + 1, [s1.heap.objs.size + 1, s1.heap.objs.size], _, _, H1, rfl, I2, turn_enumT a (s1.heap.objs.size + 1) s1.heap.objs.size its.toArray (Nat.ne_of_lt al) (Nat.ne_of_lt (Nat.lt_succ_of_lt al)), ⟨⟨.none, he⟩, ⟨_, hi, rfl, rfl⟩, Nat.succ_ne_self _⟩, fun b hb => ?_, q⟩
    have hle : s1.heap.objs.size ≤ b := by
      rcases (show b = s1.heap.objs.size + 1 ∨ b = s1.heap.objs.size by simpa using hb) with z | z
      · rw [z]; exact Nat.le_succ _
      · rw [z]; exact Nat.le_refl _
    exact I1.fpOk hle (I1.hok.fresh hle)
end G
/-! xs == [] and xs != [], whatever xs holds. -/
namespace G
open PySem PySem.Spec PyProof.Rows L2
def rNeNil (K : PySem.W.Frag) : R2 := fun x y H Q => ∃ a b xs, x = .ref a ∧ y = .ref b ∧ SqL K H a xs ∧ SqL K H b [] ∧ Q (.bl (!xs.isEmpty)) H
def rEqNil (K : PySem.W.Frag) : R2 := fun x y H Q => ∃ a b xs, x = .ref a ∧ y = .ref b ∧ SqL K H a xs ∧ SqL K H b [] ∧ Q (.bl xs.isEmpty) H
theorem nil_ends {its : List Value} {xs : List V} (r : Vals xs its) : its.isEmpty = xs.isEmpty := by
  cases r <;> rfl
section
variable {X : Cx}
theorem op_neNil (hu : X.A.units < cLine) : OpR X (compareOp .NotEq) (rNeNil X.K) := by
  intro pins s σ H x y v u Q I rx ry h
  obtain ⟨a, b, xs, rfl, rfl, ha, hb, q⟩ := h
  cases rx
  cases ry
  obtain ⟨its, rv, p, _⟩ := I.list ha
  obtain ⟨jts, rw', p2, _⟩ := I.list hb
  cases rw'
  have fin : EP X pins σ Q (.bool (!its.isEmpty)) s := ⟨.bl (!xs.isEmpty), H, I, by rw [nil_ends rv]; rfl, q⟩
  cases its with
  | nil => exact SeqAt.RcNeAt.lists (e := fun _ => true) p.isList p2.isList rfl hu (fun j h1 _ => absurd h1 (Nat.not_lt_zero j)) _ _ _ _ fin
  | cons z zs => exact SeqAt.RcNeAt.lists_lengths p.isList p2.isList (by simp) hu _ _ _ _ fin
theorem op_eqNil (hu : X.A.units < cLine) : OpR X (compareOp .Eq) (rEqNil X.K) := by
  intro pins s σ H x y v u Q I rx ry h
  obtain ⟨a, b, xs, rfl, rfl, ha, hb, q⟩ := h
  cases rx
  cases ry
  obtain ⟨its, rv, p, _⟩ := I.list ha
  obtain ⟨jts, rw', p2, _⟩ := I.list hb
  cases rw'
  have fin : EP X pins σ Q (.bool its.isEmpty) s := ⟨.bl xs.isEmpty, H, I, by rw [nil_ends rv]; rfl, q⟩
  cases its with
  | nil => exact SeqAt.RcAt.lists (e := fun _ => true) p.isList p2.isList rfl hu (fun j h1 _ => absurd h1 (Nat.not_lt_zero j)) _ _ _ _ fin
  | cons z zs => exact SeqAt.RcAt.lists_lengths p.isList p2.isList (by simp) hu _ _ _ _ fin
end
end G
/-! One step of a reading at a time: each reading's head, backwards. -/
namespace G
open PySem L2
abbrev fin (Q : VK) : Ends := { nx := fun _ H' => Q .non H', rt := Q }
variable {K : PySem.W.Frag} {σ : St} {H H' : Hp} {ta tb tc te : TE} {tt tu tw : TT} {t u : TS} {ts tr : TA} {D : Ends} {x y z v : V} {r : R2} {Q : VK} {QT : Bool → Hp → Prop} {QA : List V → Hp → Prop} {g : TG} {QS : St → Hp → Prop}
theorem w_var {i : Nat} (h : σ[i]? = some (some v)) (k : Q v H) : tVar i σ H Q := ⟨v, h, k⟩
theorem w_c (k : Q v H) : tC v σ H Q := k
theorem w_op (k : ta σ H fun x H1 => tb σ H1 fun y H2 => r x y H2 Q) : tOp r ta tb σ H Q := k
theorem w_un {r : V → Hp → VK → Prop} (k : ta σ H fun x H1 => r x H1 Q) : tUn r ta σ H Q := k
theorem w_seq (k : t { D with nx := u D } σ H) : tSeq t u D σ H := k
theorem w_next (k : D.nx σ H) : tNext D σ H := k
theorem w_asg (k : te σ H fun x H1 => g x σ H1 D.nx) : tAsg te g D σ H := k
theorem w_gname {i : Nat} (k : QS (σ.set i (some v)) H) : gName i v σ H QS := k
theorem w_gsub {s : TSet} (k : ta σ H fun o H1 => tb σ H1 fun i H2 => s o i v H2 fun H3 => QS σ H3) : gSub ta tb s v σ H QS := k
theorem w_par {i j : Nat} (k : ts σ H fun vs H1 => ∃ v w, vs = [v, w] ∧ D.nx ((σ.set i (some v)).set j (some w)) H1) : tPar i j ts D σ H := k
theorem w_pair {a b : V} {P : V → V → Prop} (k : P a b) : ∃ v w, [a, b] = [v, w] ∧ P v w := ⟨a, b, rfl, k⟩
theorem w_ret (k : te σ H D.rt) : tRet te D σ H := k
theorem w_retN (k : D.rt .non H) : tRetN D σ H := k
theorem w_drop (k : te σ H fun _ H1 => D.nx σ H1) : tDrop te D σ H := k
theorem w_if (k : tt σ H fun b H1 => if b = true then t D σ H1 else u D σ H1) : tIfS tt t u D σ H := k
theorem w_test (k : te σ H fun x H' => ∃ k, x = .bl k ∧ QT k H') : tTest te σ H QT := k
theorem w_B (k : te σ H fun x H' => ∃ k, x = .bl k ∧ QT k H') : tB te σ H QT := k
theorem w_bl {b : Bool} {P : Bool → Prop} (k : P b) : ∃ k, V.bl b = .bl k ∧ P k := ⟨b, rfl, k⟩
theorem w_and (k : tt σ H fun c H1 => if c = true then tu σ H1 QT else QT false H1) : tAnd tt tu σ H QT := k
theorem w_or (k : tt σ H fun c H1 => if c = true then QT true H1 else tu σ H1 QT) : tOr tt tu σ H QT := k
theorem w_not (k : tt σ H fun c H1 => QT (!c) H1) : tNot tt σ H QT := k
theorem w_andV (k : ta σ H fun x H1 => ∃ c, x = .bl c ∧ if c = true then tb σ H1 Q else Q (.bl false) H1) : tAndV ta tb σ H Q := k
theorem w_orV (k : ta σ H fun x H1 => ∃ c, x = .bl c ∧ if c = true then Q (.bl true) H1 else tb σ H1 Q) : tOrV ta tb σ H Q := k
theorem w_notV (k : ta σ H fun x H1 => ∃ c, x = .bl c ∧ Q (.bl (!c)) H1) : tNotV ta σ H Q := k
theorem w_ifE (k : tt σ H fun c H1 => if c = true then ta σ H1 Q else tb σ H1 Q) : tIf tt ta tb σ H Q := k
theorem w_nil (k : QA [] H) : tNil σ H QA := k
theorem w_cons (k : te σ H fun x H1 => ts σ H1 fun r H2 => QA (x :: r) H2) : tCons te ts σ H QA := k
theorem w_cb {r : List V → Hp → VK → Prop} (k : ts σ H fun vs H1 => r vs H1 Q) : tCB r ts σ H Q := k
theorem w_call {sp : Sp} {dvs : List V} {E : XK} (k : ts σ H fun vs H1 => sp (vs ++ dvs) H1 Q E) : tCall sp dvs E ts σ H Q := k
def NewL (xs : List V) (Q : VK) (H : Hp) : Prop := xs.length ≤ sizeLine ∧ ∀ p, H p = none → Q (.ref p) (upd H p (.lst xs))
def NewT (xs : List V) (Q : VK) (H : Hp) : Prop := xs.length ≤ sizeLine ∧ ∀ p, H p = none → Q (.ref p) (upd H p (.tup xs))
theorem w_lst (k : ts σ H fun xs H1 => NewL xs Q H1) : tLst ts σ H Q := k
theorem w_tup (k : ts σ H fun xs H1 => NewT xs Q H1) : tTup ts σ H Q := k
theorem w_newL {xs : List V} (h : xs.length ≤ 100000) (k : ∀ p, H p = none → Q (.ref p) (upd H p (.lst xs))) : NewL xs Q H := ⟨Nat.le_trans h (by decide), k⟩
theorem w_newT {xs : List V} (h : xs.length ≤ 100000) (k : ∀ p, H p = none → Q (.ref p) (upd H p (.tup xs))) : NewT xs Q H := ⟨Nat.le_trans h (by decide), k⟩
theorem w_aug {i : Nat} {op : TIp} (h : σ[i]? = some (some x)) (k : te σ H fun y H1 => op x y H1 fun z H2 => D.nx (σ.set i (some z)) H2) : tAug i te op D σ H := ⟨x, h, k⟩
theorem w_ipI {f : Int → Int → Int} {i j : Int} (k : Q (.int (f i j)) H) : ipI f (.int i) (.int j) H Q := ⟨i, j, rfl, rfl, k⟩
theorem w_I0 {f : Int → Int → V} {i j : Int} (k : Q (f i j) H) : rI0 f (.int i) (.int j) H Q := ⟨i, j, rfl, rfl, k⟩
theorem w_I {C : Int → Int → Prop} {f : Int → Int → V} {i j : Int} (h : C i j) (k : Q (f i j) H) : rI C f (.int i) (.int j) H Q := ⟨i, j, rfl, rfl, h, k⟩
theorem w_neg {i : Int} (k : Q (.int (-i)) H) : rNeg (.int i) H Q := ⟨i, rfl, k⟩
theorem w_int {i : Int} (k : Q (.int i) H) : rInt1 [.int i] H Q := Or.inl ⟨i, rfl, k⟩
theorem w_eq (h : scal x y = true) (k : Q (.bl (decide (x = y))) H) : rEq x y H Q := ⟨h, k⟩
theorem w_ne (h : scal x y = true) (k : Q (.bl (!decide (x = y))) H) : rNe x y H Q := ⟨h, k⟩
theorem w_lenL {p : Addr} {xs : List V} (h : H p = some (.lst xs)) (k : Q (.int xs.length) H) : rLenS K [.ref p] H Q := ⟨p, xs, rfl, .inl (SqL.of h), k⟩
theorem w_lenT {p : Addr} {xs : List V} (h : H p = some (.tup xs)) (k : Q (.int xs.length) H) : rLenS K [.ref p] H Q := ⟨p, xs, rfl, .inr (SqT.of h), k⟩
theorem w_ixL {p : Addr} {xs : List V} {i : Int} (h : H p = some (.lst xs)) (hi : atI xs i = some v) (k : Q v H) : rIxL K (.ref p) (.int i) H Q := ⟨p, xs, i, v, rfl, rfl, SqL.of h, hi, k⟩
theorem w_ixT {p : Addr} {xs : List V} {i : Int} (h : H p = some (.tup xs)) (hi : atI xs i = some v) (k : Q v H) : rIxT K (.ref p) (.int i) H Q := ⟨p, xs, i, v, rfl, rfl, SqT.of h, hi, k⟩
theorem w_setL {p : Addr} {xs : List V} {i : Int} {j : Nat} {P : Hp → Prop} (h : H p = some (.lst xs)) (hj : ixN xs.length i = some j) (k : P (upd H p (.lst (xs.set j v)))) : rSetL (.ref p) (.int i) v H P := ⟨p, xs, i, j, rfl, rfl, h, hj, k⟩
theorem w_append {l : Addr} {xs : List V} (h : H l = some (.lst xs)) (hz : xs.length ≤ 100000) (k : Q .non (upd H l (.lst (xs ++ [y])))) : rAppend (.ref l) [y] H Q := ⟨l, xs, y, rfl, rfl, h, Nat.lt_of_le_of_lt hz (by decide), k⟩
theorem w_bm {T : String} {r : V → List V → Hp → VK → Prop} (k : te σ H fun x H1 => tyV K T x H1 ∧ ts σ H1 fun xs H2 => r x xs H2 Q) : tBM K T r te ts σ H Q := k
theorem w_tyL {p : Addr} {xs : List V} {P : Prop} (h : H p = some (.lst xs)) (k : P) : tyV K "list" (.ref p) H ∧ P := ⟨Or.inl ⟨rfl, xs, SqL.of h⟩, k⟩
theorem w_neNil {a b : Addr} {xs : List V} (h : H a = some (.lst xs)) (h2 : H b = some (.lst [])) (k : Q (.bl (!xs.isEmpty)) H) : rNeNil K (.ref a) (.ref b) H Q := ⟨a, b, xs, rfl, rfl, SqL.of h, SqL.of h2, k⟩
theorem w_eqNil {a b : Addr} {xs : List V} (h : H a = some (.lst xs)) (h2 : H b = some (.lst [])) (k : Q (.bl xs.isEmpty) H) : rEqNil K (.ref a) (.ref b) H Q := ⟨a, b, xs, rfl, rfl, SqL.of h, SqL.of h2, k⟩
theorem six_nat {n j : Nat} (h : j < n) : seqIndex? (j : Int) n = some j := by
  have h0 : ¬ (j : Int) < 0 := by omega
  unfold seqIndex?
  simp only [if_neg h0]
  have h1 : (decide (0 ≤ (j : Int)) && decide ((j : Int) < n)) = true := by
    rw [decide_eq_true (by omega), decide_eq_true (by omega)]
    rfl
  rw [h1, if_pos rfl]
  rfl
theorem w_popAt {l : Addr} {xs : List V} {j : Nat} (h : H l = some (.lst xs)) (hj : xs[j]? = some v) (hz : xs.length ≤ 100000) (k : Q v (upd H l (.lst (xs.eraseIdx j)))) : rPopAt (.ref l) [.int (j : Int)] H Q := by
  have h1 := (List.getElem?_eq_some_iff.mp hj).1
  exact ⟨l, xs, j, j, v, rfl, rfl, h, by omega, by omega, six_nat h1, hj, k⟩
theorem w_listL {p : Addr} {xs : List V} (h : H p = some (.lst xs)) (k : ∀ l, H l = none → Q (.ref l) (upd H l (.lst xs))) : rListS K [.ref p] H Q := ⟨p, xs, rfl, .inl (SqL.of h), k⟩
theorem w_listT {p : Addr} {xs : List V} (h : H p = some (.tup xs)) (k : ∀ l, H l = none → Q (.ref l) (upd H l (.lst xs))) : rListS K [.ref p] H Q := ⟨p, xs, rfl, .inr (SqT.of h), k⟩
theorem w_tupL {p : Addr} {xs : List V} (h : H p = some (.lst xs)) (k : ∀ l, H l = none → Q (.ref l) (upd H l (.tup xs))) : rTupS K [.ref p] H Q := ⟨p, xs, rfl, .inl ⟨SqL.of h, k⟩⟩
theorem w_tupT {p : Addr} {xs : List V} (h : H p = some (.tup xs)) (k : Q (.ref p) H) : rTupS K [.ref p] H Q := ⟨p, xs, rfl, .inr ⟨SqT.of h, k⟩⟩
theorem w_extend {l b : Addr} {xs zs : List V} (h : H l = some (.lst xs)) (hb : H b = some (.lst zs)) (hz : xs.length + zs.length ≤ 100000) (k : Q .non (upd H l (.lst (xs ++ zs)))) : rExtend (.ref l) [.ref b] H Q := ⟨l, b, xs, zs, rfl, rfl, h, hb, Nat.le_trans hz (by decide), k⟩
theorem w_catS {i j : Str} (h : i.length + j.length ≤ 100000) (k : Q (.str (i ++ j)) H) : rCatS (.str i) (.str j) H Q := ⟨i, j, rfl, rfl, Nat.le_trans h (by decide), k⟩
theorem w_ltS {i j : Str} (k : Q (.bl (decide (i.cps.toList < j.cps.toList))) H) : rLtS (.str i) (.str j) H Q := ⟨i, j, rfl, rfl, k⟩
theorem w_ite {c A B : Prop} [Decidable c] (h1 : c → A) (h2 : ¬ c → B) : if decide c = true then A else B := by
  by_cases h : c
  · rw [decide_eq_true h, if_pos rfl]
    exact h1 h
  · rw [decide_eq_false h, if_neg Bool.false_ne_true]
    exact h2 h
theorem w_iteN {c A B : Prop} [Decidable c] (h1 : ¬ c → A) (h2 : c → B) : if (!decide c) = true then A else B := by
  by_cases h : c
  · rw [decide_eq_true h]
    exact h2 h
  · rw [decide_eq_false h]
    exact h1 h
theorem w_itb {b : Bool} {A B : Prop} (h1 : b = true → A) (h2 : b = false → B) : if b = true then A else B := by
  cases b with
  | true => exact h1 rfl
  | false => exact h2 rfl
theorem mulL {i j : Int} (h : -(2 ^ 64) < i ∧ i < 2 ^ 64) : CMul i j := .inl h
theorem mulR {i j : Int} (h : -(2 ^ 64) < j ∧ j < 2 ^ 64) : CMul i j := .inr h
theorem powc {i j : Int} (h : 0 ≤ j ∧ j ≤ 1000000 ∧ i.natAbs < 2 ^ 64) : CPow i j := h
theorem w_cut {Mid : St → Hp → Prop} (h : t { D with nx := Mid } σ H) (k : ∀ σ' H', Mid σ' H' → u D σ' H') : Evl.tCut t u D σ H := ⟨Mid, h, k⟩
theorem w_nocut (h : t { D with nx := u D } σ H) : Evl.tCut t u D σ H := ⟨_, h, fun _ _ x => x⟩
/-- a test told once: p of its answer -/
theorem w_pt (p : Bool → Prop) (h : ∀ QT' : Bool → Hp → Prop, (∀ c, p c → QT' c H) → tt σ H QT') (k : ∀ c, p c → QT c H) : tt σ H QT := h QT k
/-- an expression told once: p of its value and the heap behind -/
theorem w_pe (p : V → Hp → Prop) (h : ∀ Q' : VK, (∀ v H', p v H' → Q' v H') → te σ H Q') (k : ∀ v H', p v H' → Q v H') : te σ H Q := h Q k
/-! ### loops -/
def Lp (J : It) (g : TG) (tb : TS) (D : Ends) (σ : St) (H : Hp) : Prop := ∃ W : Nat → Nat → St → Hp → Prop, (∃ m, W 0 m σ H) ∧ ∀ i m σ H, W i m σ H →
  (J.stop i H ∧ D.nx σ H) ∨ (J.go i H ∧ ∃ N : St → Hp → Prop, (∀ σ' H', N σ' H' → ∃ m', m' < m ∧ W (i + 1) m' σ' H') ∧ ∀ x H', J.yld i H x H' → g x σ H' fun σ2 H2 => tb { D with nx := N, ct := N, bk := D.nx } σ2 H2)
variable {wi : TI} {tb : TS} {RI : It → Hp → Prop} {a : Addr} {xs : List V}
theorem w_for (k : wi σ H fun J H1 => Lp J g tb D σ H1) : tFor wi g tb D σ H := k
theorem w_iL (k : te σ H fun x H1 => ∃ a, x = .ref a ∧ (∃ xs, SqL K H1 a xs) ∧ RI (Itl K a) H1) : iList K te σ H RI := k
theorem w_itL {P : Addr → Prop} (h : SqL K H a xs) (k : P a) : ∃ b, V.ref a = .ref b ∧ (∃ xs, SqL K H b xs) ∧ P b := ⟨a, rfl, ⟨xs, h⟩, k⟩
theorem w_iT (k : te σ H fun x H1 => ∃ a, x = .ref a ∧ (∃ xs, SqT K H1 a xs) ∧ RI (Itt K a) H1) : iTup K te σ H RI := k
theorem w_itT {P : Addr → Prop} (h : SqT K H a xs) (k : P a) : ∃ b, V.ref a = .ref b ∧ (∃ xs, SqT K H b xs) ∧ P b := ⟨a, rfl, ⟨xs, h⟩, k⟩
theorem w_iS (k : te σ H fun v H1 => ∃ x, v = .str x ∧ RI (Its x) H1) : iStr te σ H RI := k
theorem w_itS {x : Str} {P : Str → Prop} (k : P x) : ∃ y, V.str x = .str y ∧ P y := ⟨x, rfl, k⟩
theorem w_iR1 (k : ts σ H fun vs H1 => ∃ j : Int, vs = [.int j] ∧ -(2 ^ 62) ≤ j ∧ j < 2 ^ 62 ∧ RI (Itr 0 j.toNat) H1) : iRng1 ts σ H RI := k
theorem w_itR1 {n : Int} (h0 : 0 ≤ n) (h1 : n ≤ 1000000) {P : Int → Prop} (k : P n) : ∃ j : Int, [V.int n] = [.int j] ∧ -(2 ^ 62) ≤ j ∧ j < 2 ^ 62 ∧ P j := ⟨n, rfl, by omega, by omega, k⟩
theorem w_iE (k : ts σ H fun vs H1 => ∃ a xs, vs = [.ref a] ∧ SqL K H1 a xs ∧ RI (Ite K a) H1) : iEnum K ts σ H RI := k
theorem w_itE {P : Addr → Prop} (h : SqL K H a xs) (k : P a) : ∃ b ys, [V.ref a] = [.ref b] ∧ SqL K H b ys ∧ P b := ⟨a, xs, rfl, h, k⟩
theorem w_iET (k : ts σ H fun vs H1 => ∃ a xs, vs = [.ref a] ∧ SqT K H1 a xs ∧ RI (IteT K a) H1) : iEnumT K ts σ H RI := k
theorem w_itET {P : Addr → Prop} (h : SqT K H a xs) (k : P a) : ∃ b ys, [V.ref a] = [.ref b] ∧ SqT K H b ys ∧ P b := ⟨a, xs, rfl, h, k⟩
theorem w_iZ (k : ts σ H fun vs H1 => ∃ a b xs ys, vs = [.ref a, .ref b] ∧ SqL K H1 a xs ∧ SqL K H1 b ys ∧ RI (Itz K a b) H1) : iZip K ts σ H RI := k
theorem w_itZ {b : Addr} {ys : List V} (h : SqL K H a xs) (h2 : SqL K H b ys) {P : Addr → Addr → Prop} (k : P a b) : ∃ c d zs ws, [V.ref a, V.ref b] = [.ref c, .ref d] ∧ SqL K H c zs ∧ SqL K H d ws ∧ P c d := ⟨a, b, xs, ys, rfl, h, h2, k⟩
/-- a loop by its word -/
theorem lp_of {J : It} {n : Nat} {Gd : Hp → Prop} {Y : Nat → Hp → V → Hp → Prop} (w : Walk J n Gd Y) (Pv : Nat → St → Hp → Prop) (h0 : Pv 0 σ H) (hG : ∀ i σ H, i ≤ n → Pv i σ H → Gd H)
    (hs : ∀ i x σ H H', i < n → Pv i σ H → Y i H x H' → g x σ H' fun σ2 H2 => tb { D with nx := Pv (i + 1), ct := Pv (i + 1), bk := D.nx } σ2 H2) (hd : ∀ σ H, Pv n σ H → D.nx σ H) : Lp J g tb D σ H := for_it w Pv h0 hG hs hd
theorem lp_list (Pv : Nat → St → Hp → Prop) (h0 : Pv 0 σ H) (hG : ∀ i σ H, i ≤ xs.length → Pv i σ H → SqL K H a xs) (hs : ∀ i x σ H, xs[i]? = some x → Pv i σ H → g x σ H fun σ2 H2 => tb { D with nx := Pv (i + 1), ct := Pv (i + 1), bk := D.nx } σ2 H2)
    (hd : ∀ σ H, Pv xs.length σ H → D.nx σ H) : Lp (Itl K a) g tb D σ H := for_list Pv h0 hG hs hd
theorem lp_tup (Pv : Nat → St → Hp → Prop) (h0 : Pv 0 σ H) (hG : ∀ i σ H, i ≤ xs.length → Pv i σ H → SqT K H a xs) (hs : ∀ i x σ H, xs[i]? = some x → Pv i σ H → g x σ H fun σ2 H2 => tb { D with nx := Pv (i + 1), ct := Pv (i + 1), bk := D.nx } σ2 H2)
    (hd : ∀ σ H, Pv xs.length σ H → D.nx σ H) : Lp (Itt K a) g tb D σ H := for_tup Pv h0 hG hs hd
theorem lp_range {n : Nat} (Pv : Nat → St → Hp → Prop) (h0 : Pv 0 σ H) (hs : ∀ (i : Nat) σ H, i < n → Pv i σ H → g (.int (i : Int)) σ H fun σ2 H2 => tb { D with nx := Pv (i + 1), ct := Pv (i + 1), bk := D.nx } σ2 H2)
    (hd : ∀ σ H, Pv n σ H → D.nx σ H) : Lp (Itr 0 n) g tb D σ H := for_range Pv h0 (fun i σ H hi p => by
  rw [Int.zero_add]
  exact hs i σ H hi p) hd
theorem walk_enumT : Walk (IteT K a) xs.length (fun H => SqT K H a xs) (fun i H v H' => ∃ T x, v = .ref T ∧ H T = none ∧ H' = upd H T (.tup [.int (i : Nat), x]) ∧ xs[i]? = some x) where
  goes := fun i H hi h => ⟨xs, xs[i], h, List.getElem?_eq_getElem hi⟩
  stops := fun H h => ⟨xs, h, Nat.le_refl _⟩
  yields := fun i H x H' hi h ⟨T, y, e1, e2, e3, e4⟩ => ⟨T, y, e1, e2, e3, e4 xs h⟩
theorem walk_enumL : Walk (Ite K a) xs.length (fun H => SqL K H a xs) (fun i H v H' => ∃ T x, v = .ref T ∧ H T = none ∧ H' = upd H T (.tup [.int (i : Nat), x]) ∧ xs[i]? = some x) where
  goes := fun i H hi h => ⟨xs, xs[i], h, List.getElem?_eq_getElem hi⟩
  stops := fun H h => ⟨xs, h, Nat.le_refl _⟩
  yields := fun i H x H' hi h ⟨T, y, e1, e2, e3, e4⟩ => ⟨T, y, e1, e2, e3, e4 xs h⟩
theorem w_gtup {n : Nat} {t : TGs} (h : H a = some (.tup xs)) (hl : xs.length = n) (k : t xs σ H QS) : gTup K n t (.ref a) σ H QS := ⟨a, xs, rfl, SqT.of h, hl, k⟩
theorem w_gtupS {n : Nat} {t : TGs} (h : SqT K H a xs) (hl : xs.length = n) (k : t xs σ H QS) : gTup K n t (.ref a) σ H QS := ⟨a, xs, rfl, h, hl, k⟩
theorem w_gcons {t : TG} {u : TGs} (k : t v σ H fun σ' H' => u xs σ' H' QS) : gCons t u (v :: xs) σ H QS := ⟨v, xs, rfl, k⟩
theorem w_gnil (k : QS σ H) : gNil [] σ H QS := ⟨rfl, k⟩
/-- a while by a word and a measure -/
theorem w_while {ct : TT} (W : Nat → St → Hp → Prop) (m : Nat) (h0 : W m σ H) (hs : ∀ m σ H, W m σ H → ct σ H fun b H1 => if b = true then ∃ N : St → Hp → Prop, (∀ σ' H', N σ' H' → ∃ m', m' < m ∧ W m' σ' H') ∧ tb { D with nx := N, ct := N, bk := D.nx } σ H1 else D.nx σ H1) : tWhile ct tb D σ H := ⟨W, ⟨m, h0⟩, hs⟩
theorem w_turn {W : Nat → St → Hp → Prop} {m : Nat} {B : (St → Hp → Prop) → Prop} (k : B fun σ' H' => ∃ m', m' < m ∧ W m' σ' H') : ∃ N : St → Hp → Prop, (∀ σ' H', N σ' H' → ∃ m', m' < m ∧ W m' σ' H') ∧ B N := ⟨_, fun _ _ x => x, k⟩
/-! ### comprehensions -/
def Lc (J : It) (g : TG) (tt : TT) (te : TE) (vs : List Nat) (σ : St) (Dl : Addr) (Q : VK) (H : Hp) : Prop := ∃ W : Nat → Nat → Hp → Prop, (∃ m, W 0 m (upd H Dl (.lst []))) ∧ ∀ i m H, W i m H →
  (J.stop i H ∧ Q (.ref Dl) H) ∨ (J.go i H ∧ ∃ Nx : Hp → Prop, (∀ H', Nx H' → ∃ m', m' < m ∧ W (i + 1) m' H') ∧ ∀ x H', J.yld i H x H' → g x (wipe σ vs) H' fun σ2 H2 => wipe σ2 vs = wipe σ vs ∧ tt σ2 H2 fun b H3 =>
    if b = true then te σ2 H3 fun y H4 => ∃ acc, H4 Dl = some (.lst acc) ∧ acc.length < sizeLine ∧ Nx (upd H4 Dl (.lst (acc ++ [y]))) else Nx H3)
theorem w_lc {vs : List Nat} (k : wi σ H fun J H1 => ∀ Dl, H1 Dl = none → Lc J g tt te vs σ Dl Q H1) : tLc wi g tt te vs σ H Q := k
theorem lc_of {J : It} {n : Nat} {Gd : Hp → Prop} {Y : Nat → Hp → V → Hp → Prop} {vs : List Nat} {Dl : Addr} (w : Walk J n Gd Y) (Pv : Nat → Hp → Prop) (h0 : Pv 0 (upd H Dl (.lst []))) (hG : ∀ i H, i ≤ n → Pv i H → Gd H)
    (hs : ∀ i x H H', i < n → Pv i H → Y i H x H' → g x (wipe σ vs) H' fun σ2 H2 => wipe σ2 vs = wipe σ vs ∧ tt σ2 H2 fun b H3 =>
      if b = true then te σ2 H3 fun y H4 => ∃ acc, H4 Dl = some (.lst acc) ∧ acc.length < sizeLine ∧ Pv (i + 1) (upd H4 Dl (.lst (acc ++ [y]))) else Pv (i + 1) H3) (hd : ∀ H, Pv n H → Q (.ref Dl) H) : Lc J g tt te vs σ Dl Q H := lc_it w Pv h0 hG hs hd
theorem walk_list : Walk (Itl K a) xs.length (fun H => SqL K H a xs) (YAt xs) where
  goes := fun i H hi h => ⟨xs, xs[i], h, List.getElem?_eq_getElem hi⟩
  stops := fun H h => ⟨xs, h, Nat.le_refl _⟩
  yields := fun i H x H' hi h y => ⟨y.1, y.2 xs h⟩
theorem walk_tup : Walk (Itt K a) xs.length (fun H => SqT K H a xs) (YAt xs) where
  goes := fun i H hi h => ⟨xs, xs[i], h, List.getElem?_eq_getElem hi⟩
  stops := fun H h => ⟨xs, h, Nat.le_refl _⟩
  yields := fun i H x H' hi h y => ⟨y.1, y.2 xs h⟩
end G
/-! An own error whose __init__ says super().__init__(..) and then stores fields; its class stands over others over ValueError. -/
namespace G
open PySem PySem.Spec PyProof.Rows L2 NdefX
/-- what the written part says of such an __init__: D its class, cc the cell of __class__ -/
structure SFun (P : Program) (K : PySem.W.Frag) (qual : Str) (params : Arguments) (body : List Stmt) (scope : Scope) (D f : Addr) (fd : FuncData) : Prop where
  ex : ∃ (oc : Value) (od : Option Addr) (kV doc pm : Value) (an : Option Addr) (cda cc : Addr) (ct : Value) (osl : Array (Option Value)),
    fd = PySem.W.fnX "__init__" qual params body scope [(("__class__" : Str), cc)] .none kV doc pm an (.ref cda) ct ∧ K.lookup f = some ⟨oc, od, .func fd, osl⟩ ∧ PySem.W.codeIn K (.ref cda) qual = true ∧
    (∃ cl cld csl, K.lookup cc = some ⟨cl, cld, .cell (some (.ref D)), csl⟩) ∧ ∃ ccl cdd vs ccs file tf, K.lookup cda = some ⟨ccl, cdd, .fields vs, ccs⟩ ∧ vs[2]? = some (.str file tf) ∧ ((P.main.file : Str) == file) = true
  sup : ∃ cd, PySem.W.clsIn K D = some cd
  own : PySem.W.mroIn K D (.ref D) = some true
  ini : PySem.W.ks_superIn K D D "__init__" = some (some (.builtin "ValueError.__init__"))
  sub : PySem.W.subIn K (.ref D) (.type "ValueError") = some true
  glb : PySem.W.nsIn K mainGlobals "super" = some none
  top : (P.main.scope.names.lookup ("super" : Str)).isSome = false
  opq : PySem.W.nsIn K cStatics "thirdparty.any" = some none
  kp : PySem.W.keepIn K (.ref f) = true
section
variable {X : Cx} {pins : List (Addr × Obj)} {σ : L2.St} {H : Hp} {s : Shared} {a C u : Addr}
theorem mw_call {us : List Value} {Q : Value → Shared → Prop} {E : Value → Shared → Prop} (T : OexC X.K C) (I : Inv X pins σ H s) (hu : s.heap.get? u = some (PySem.W.kxs_mw "ValueError.__init__" a)) (e : H a = some (exo a C none)) (hl : us.length ≤ sizeLine) (h : ∀ s', Inv X pins σ H s' → Q .none s') :
    wpAny (model X.prog X.w) X.A (call (.ref u) us) Q E s := by
  obtain ⟨nm, q, N, bs, bm, sn, sub, ab, col, dd, k0, k1, k2, k3, k5, hC, hbm⟩ := T.cls
  obtain ⟨t1, ho⟩ := exo_at I.hok e
  have XK := I.kIn
  obtain ⟨hp, g, d, t, os⟩ := s
  refine wpAny_call (codeAny_of_tree ?_)
  show wpAny _ X.A.in1 (callAny (.ref u) ⟨us, []⟩) _ _ _
  simp only [callAny]
  refine wpAny_bind (wpAny_load hu ?_)
  simp only [PySem.W.kxs_mw, show (Value.type "method-wrapper" == Value.type "method" || Value.type "method-wrapper" == Value.type "builtin_function_or_method" || Value.type "method-wrapper" == Value.type "method-wrapper") = true by decide, if_true]
  refine PySem.W.KFB.if_so (by decide) ?_
  refine wpAny_bind (PySem.W.check_bound_init F.excBase_ValueError.toExcCallFacts (XK _ _ hC) ho rfl ?_)
  refine wpAny_bind (wpAny_pure (wpAny_pure ?_))
  refine ⟨plainId_quiet F.excBase_ValueError.init.plain _, codeAny_builtin F.excBase_ValueError.initEntry ?_⟩
  refine PySem.W.exc_init_tree (cls := .ref C) (t0 := t1) (dv := none) (c2 := .none) (c3 := .none) (b4 := .bool false) ho hl fun h' k hx _ => ?_
  have J := I.write (t' := t) (x := a) (e := a) (o := exo a C none) (by rw [e]; exact True.intro) (.inl rfl) k ⟨_, hx⟩ (exo_ok hx)
  have eu : upd H a (exo a C none) = H := by
    funext b
    by_cases hb : b = a
    · rw [hb, upd_same, e]
    · rw [upd_ne hb]
  rw [eu] at J
  exact h _ J
theorem sup_base {P : Program} {qual : Str} {body : List Stmt} {scope : Scope} {f : Addr} {fd : FuncData} {p0 p1 : Pos} {whole : Sem Value} {ar : Arg} {Q : Value → Shared → Prop} {E : Value → Shared → Prop} {L cda cc : Addr}
    (hP : X.prog = P) (he : X.env = PySem.W.envX qual scope L f (.ref cda) [(("__class__" : Str), cc)])
    {oc : Value} {od : Option Addr} {osl : Array (Option Value)} (lk : X.K.lookup f = some ⟨oc, od, .func fd, osl⟩) (hpr : (fd.params.posonlyargs ++ fd.params.args).head? = some ar)
    {cl : Value} {cld : Option Addr} {csl : Array (Option Value)} (lc : X.K.lookup cc = some ⟨cl, cld, .cell (some (.ref C)), csl⟩)
    {ccl : Value} {cdd : Option Addr} {vs : Array Value} {ccs : Array (Option Value)} {file : Str} {tf : Tok} (ld : X.K.lookup cda = some ⟨ccl, cdd, .fields vs, ccs⟩) (hvs : vs[2]? = some (.str file tf)) (hfile : ((P.main.file : Str) == file) = true)
    {cd : ClassData} (hD : PySem.W.clsIn X.K C = some cd) (hsub : PySem.W.mroIn X.K C (.ref C) = some true) (hsuper : PySem.W.nsIn X.K mainGlobals "super" = some none)
    (hks : scope.names.lookup ("super" : Str) = some .globalImplicit) (hkc : scope.names.lookup ("__class__" : Str) = some .free) (hka : scope.names.lookup ar.arg = some .local) (hk : scope.kind = .function)
    (htop : (P.main.scope.names.lookup ("super" : Str)).isSome = false) (I : Inv X pins σ H s) (h0 : X.N[0]? = some ar.arg) (h1 : σ[0]? = some (some (.ref a))) (e : H a = some (exo a C none))
    (h : ∀ so s', Inv X pins σ H s' → s'.heap.get? so = some (PySem.W.ks_superObj C a C) → Q (.ref so) s') :
    PySem.wpAt (model X.prog X.w) X.A (.func body X.env) (attributeBase (.Call (.Name "super" p0) [] [] p1) "__init__" X.env whole) Q E s := by
  have XK := I.kIn
  obtain ⟨t1, ho⟩ := exo_at I.hok e
  obtain ⟨m, hns, hlk⟩ := I.loc
  obtain ⟨v, hv1, hv2⟩ := hlk 0 ar.arg (.ref a) h0 h1 (.inl (by rw [he]; exact hka))
  have hm : m ar.arg = some (.ref a) := by
    rcases hv2 with hv2 | ⟨hv2, _⟩
    · rw [hv2.2]
      exact congrArg some hv1
    · rw [he] at hv2
      rcases hv2 with hv2 | hv2
      · have z : scope.names.lookup ar.arg = some .cell := hv2
        rw [hka] at z
        cases z
      · have z : scope.names.lookup ar.arg = some .free := hv2
        rw [hka] at z
        cases z
  obtain ⟨mb, hb1, hb2⟩ := I.ok.mod.blt
  have hnm : X.mg "super" = none := PySem.W.mg_none_of I.ok.mod.kin I.ok.mod.glob hsuper
  have gg := I.ok.mod.glob.keeps I.bk
  have gb := hb1.keeps I.bk
  obtain ⟨oD, hD1, hD2⟩ : ∃ oD, s.heap.get? C = some oD ∧ oD.data = .cls cd := by
    unfold PySem.W.clsIn at hD
    split at hD
    · rename_i c d cd' sl ho
      cases hD
      exact ⟨_, XK _ _ ho, rfl⟩
    · cases hD
  rw [he] at hns ⊢
  subst hP
  obtain ⟨hh, g, d, t, os⟩ := s
  refine PySem.ks_wpAt_super_base (env := PySem.W.envX qual scope L f (.ref cda) [(("__class__" : Str), cc)]) hks hkc rfl rfl (XK _ _ lk) rfl hpr rfl (XK _ _ ld) rfl hvs hfile htop ?_
  refine PySem.W.ks_loadName_global hk hks (PySem.Calls.loadGlobal_builtin (env := PySem.W.envX qual scope L f (.ref cda) [(("__class__" : Str), cc)]) gg hnm gb ((hb2 _ (by decide +kernel)).trans (by rfl)) ⟨rfl, ?_⟩)
  refine wpAny_loadName_free hk hkc rfl ⟨_, XK _ _ lc, rfl⟩ ?_
  refine wpAny_loadName_local hk hka hns hm ?_
  refine PySem.ks_wpAny_isType_cls hD1 hD2 ⟨rfl, ?_⟩
  refine PySem.ks_wpAny_call_super hD1 hD2 ho rfl (fun c e => nomatch e) (PySem.W.looks_mroIn XK hsub) (fun h' e k => ?_)
  exact h _ _ (I.kept (t' := t) k) e
end
section
variable {P : Program} {w : World} {K : PySem.W.Frag} {mg : Str → Option Value} {base : Heap} {qual : Str} {params : Arguments} {body rest : List Stmt} {scope : Scope} {D f : Addr} {fd : FuncData} {N ps : List Str} {sp : Sp} {k : Nat} {CX : CXT}
theorem fn_sup {ar : Arg} {p0 p1 p2 p3 p4 : Pos} {ea : Expr} {eas : List Expr} (F : SFun P K qual params body scope D f fd) (S : NScope (ps ++ [("__class__" : Str)]) ps [("__class__" : Str)] scope) (hpr : (params.posonlyargs ++ params.args).head? = some ar) (hps : ps[0]? = some ar.arg)
    (hks : scope.names.lookup ("super" : Str) = some .globalImplicit) (hbd : body = .Expr (.Call (.Attribute (.Call (.Name "super" p0) [] [] p1) "__init__" p2) (ea :: eas) [] p3) p4 :: rest)
    (hsp : ∀ env, starEach (ea :: eas) env = (false, eval ea env) :: starEach eas env) (hpl : ∀ env, (backTo p3 (starEach eas env)).any (·.1) = false) (hcl : ∀ env : Env, ∃ pl : Sem Bool, eval (.Call (.Attribute (.Call (.Name "super" p0) [] [] p1) "__init__" p2) (ea :: eas) [] p3) env = (do
      let ov ← attributeBase (.Call (.Name "super" p0) [] [] p1) "__init__" env (eval (.Call (.Name "super" p0) [] [] p1) env)
      standAt p2.atName
      let (f, first) ← holding [ov] (getMethod ov "__init__" pl)
      callWith p3 f first (backTo p3 (starEach (ea :: eas) env)) []))
    (len : ∀ vs H Q E, sp vs H Q E → vs.length = ps.length) (T : OexC K D)
    (hbody : ∀ (nf : NF) (A : Around) (outer : List Env) (s : Shared) (H : Hp) (vs : List V) (Q : VK) (E : XK), nf.scope = scope → nf.qual = qual → sp vs H Q E →
      ∃ ta t, PA (ncx CX P w K mg base (ps ++ [("__class__" : Str)]) nf f A outer s H E) (ea :: eas) ta ∧ PSs (ncx CX P w K mg base (ps ++ [("__class__" : Str)]) nf f A outer s H E) rest t ∧ (∃ a vs', vs = .ref a :: vs' ∧ H a = some (exo a D none)) ∧
        ta (vs.map some ++ [none]) H fun us H1 => us.length ≤ 1000 ∧ H1 = H ∧ t { nx := fun _ H' => Q .non H', rt := Q } (vs.map some ++ [none]) H1) :
    FnOk P w K mg base CX (k + 1) f fd ps sp := by
  refine ⟨len, fun A outer s H args us vs Q E hr e0 hb r hsp1 => ?_⟩
  have hl := len _ _ _ _ hsp1
  obtain ⟨oc, od, kV, doc, pm, an, cda, cc, ct, osl, rfl, lk, hcd, ⟨cl, cld, csl, lc⟩, ccl, cdd, vsd, ccs, file, tf, ld, hvs, hfile⟩ := F.ex
  obtain ⟨cd, hD⟩ := F.sup
  have KX : K.In s.heap := e0.mod.kin.keeps fun b o e => (e0.bs b o e).1
  have lim : s.heap.NoLimit := e0.mod.nolimit.keeps fun b o e => (e0.bs b o e).1
  have hcc : H cc = none := (e0.bs cc _ (e0.mod.kin _ _ lc)).2
  have hkc : scope.names.lookup ("__class__" : Str) = some .free := S.frk _ (List.mem_singleton.mpr rfl)
  obtain ⟨ta, t, hta, ht, ⟨a, vs', rfl, ea0⟩, hq⟩ := hbody ⟨"__init__", qual, params, body, scope, [(("__class__" : Str), cc)], cda⟩ A outer s H vs Q E rfl rfl hsp1
  have CA : CellsAt [(("__class__" : Str), cc)] [("__class__" : Str)] [none] s.heap H := by
    refine ⟨rfl, fun y c e => ?_, fun x y c e1 e2 => ?_, fun i y e => ?_⟩
    · by_cases hy : y = "__class__"
      · subst hy
        have : c = cc := (Option.some.inj e).symm
        subst this
        exact ⟨hcc, _, _, KX _ _ lc, rfl⟩
      · have z : (y == ("__class__" : Str)) = false := by simpa using hy
        simp [List.lookup, z] at e
    · have key : ∀ z, [(("__class__" : Str), cc)].lookup z = some c → z = "__class__" := fun z e => by
        by_cases hy : z = "__class__"
        · exact hy
        · have q : (z == ("__class__" : Str)) = false := by simpa using hy
          simp [List.lookup, q] at e
      rw [key _ e1, key _ e2]
    · cases i with
      | zero =>
        have e' : (some ("__class__" : Str)) = some y := e
        cases e'
        exact ⟨cc, by rfl, fun v z => by
          have z' : some (none : Option V) = some (some v) := z
          cases z'⟩
      | succ i =>
        have e' : (none : Option Str) = some y := by simpa using e
        cases e'
  have ha : scope.names.lookup ar.arg = some .local := S.par _ (List.mem_of_getElem? hps)
  refine codeAny_call_function hr.depth (KX _ _ lk) rfl S.co S.gen rfl (PySem.W.codeRec_of KX hcd) (hb _ _ _ _ ?_)
  refine wpAny_newFunctionEnv S.nocell (fun ⟨n, _⟩ hy => S.par n (List.of_mem_zip hy).1) (fun h₁ hns hsb => ⟨lim.fresh _ hsb, ?_⟩) S.kind
  show codeAny _ _ (.func body (envF ⟨"__init__", qual, params, body, scope, [(("__class__" : Str), cc)], cda⟩ f s.heap.objs.size)) _ _
  refine PySem.ks_codeAny_funcAt ?_
  have kp : ∀ b o, s.heap.get? b = some o → h₁.get? b = some o := fun b o e => hsb.extBut b o (Nat.ne_of_lt (Heap.lt_size e)) (Heap.get?_push_of_some _ e)
  have I : Inv (ncx CX P w K mg base (ps ++ [("__class__" : Str)]) ⟨"__init__", qual, params, body, scope, [(("__class__" : Str), cc)], cda⟩ f A outer s H E) [] (startF (ps ++ [("__class__" : Str)]) (.ref a :: vs') [none]) H { s with heap := h₁, toks := s.toks + (ps.zip us).length } := inv_startN S hr.hd e0 hl r CA hns kp
  have es : startF (ps ++ [("__class__" : Str)]) (.ref a :: vs') [none] = (V.ref a :: vs').map some ++ [none] := by
    unfold startF
    have : (ps ++ [("__class__" : Str)]).length - (V.ref a :: vs').length - [(none : Option V)].length = 0 := by
      rw [hl, List.length_append]
      simp
    rw [this]
    rfl
  rw [es] at I
  have fin : ∀ {σ' : L2.St} {H' : Hp} {v : V} {u : Value} {s'}, Inv (ncx CX P w K mg base (ps ++ [("__class__" : Str)]) ⟨"__init__", qual, params, body, scope, [(("__class__" : Str), cc)], cda⟩ f A outer s H E) [] σ' H' s' → RelV v u → Q v H' → CE outer P w H s Q u s' :=
    fun {σ' H' v u s'} J rv q => ⟨v, H', J.os, J.bare, J.base, J.hok, rv, q⟩
  generalize hX : ncx CX P w K mg base (ps ++ [("__class__" : Str)]) ⟨"__init__", qual, params, body, scope, [(("__class__" : Str), cc)], cda⟩ f A outer s H E = X at I hta ht fin
  have hK : X.K = K := by rw [← hX]; rfl
  have hP : X.prog = P := by rw [← hX]; rfl
  have hw : X.w = w := by rw [← hX]; rfl
  have hA : X.A = A.deeper (envF ⟨"__init__", qual, params, body, scope, [(("__class__" : Str), cc)], cda⟩ f s.heap.objs.size) := by rw [← hX]; rfl
  have hE : X.env = envF ⟨"__init__", qual, params, body, scope, [(("__class__" : Str), cc)], cda⟩ f s.heap.objs.size := by rw [← hX]; rfl
  have hxe : X.xe = fun e s' => wpAny (model P w) (A.deeper (envF ⟨"__init__", qual, params, body, scope, [(("__class__" : Str), cc)], cda⟩ f s.heap.objs.size)) (leaving (envF ⟨"__init__", qual, params, body, scope, [(("__class__" : Str), cc)], cda⟩ f s.heap.objs.size) e) (fun _ s'' => CX outer H s E e s'') (fun e' s'' => CX outer H s E e' s'') s' := by rw [← hX]; rfl
  have hN : X.N = ps ++ [("__class__" : Str)] := by rw [← hX]; rfl
  have h00 : X.N[0]? = some ar.arg := by
    rw [hN, List.getElem?_append_left (by rw [← hl]; exact Nat.succ_pos _)]
    exact hps
  subst hbd
  refine PySem.ks_wpAt_mono (Q := fun fl s' => SP X [] { nx := fun _ H' => Q .non H', rt := Q } fl s') (E := X.xe) ?_ (fun fl s' hs => ?_) (fun e s' hs => by rw [hxe] at hs; exact hs)
  · rw [← hA, ← hE, ← hP, ← hw]
    refine PySem.ks_wpAt_execs_cons ?_
    refine PySem.ks_wpAt_Expr_any ?_ I.quiet (by rfl)
    obtain ⟨pl, hev⟩ := hcl X.env
    refine PySem.ks_wpAt_MethodCall ?_ hev
    refine sup_base hP hE (hK ▸ lk) hpr (hK ▸ lc) (hK ▸ ld) hvs hfile (hK ▸ hD) (hK ▸ F.own) (hK ▸ F.glb) hks hkc ha S.kind F.top I h00 (by rfl) ea0 fun so s1 I1 hso => ?_
    obtain ⟨t1, ho⟩ := exo_at I1.hok ea0
    have XK := I1.kIn
    have IA : PySem.W.InstAt s1.heap a _ D none := ⟨ho, rfl, rfl, trivial⟩
    have hI : PySem.W.Looks (model X.prog X.w) s1.heap (isInstance (.ref a) (.type "ValueError")) true := IA.type.andThen (PySem.W.looks_subIn XK (hK ▸ F.sub))
    have hini : (PySem.W.clsIn X.K D).bind (fun cd => PySem.W.alongIn X.K "__init__" ((cd.mro.dropWhile (· != .ref D)).drop 1)) = some (some (.builtin "ValueError.__init__")) := hK ▸ F.ini
    rw [hK, hD, ← hK] at hini
    have hcD : PySem.W.clsIn X.K D = some cd := hK ▸ hD
    have aC : a ≠ D := PySem.W.ks_ne XK IA hcD
    obtain ⟨hp, g, d, tk, os⟩ := s1
    refine PySem.W.kxs_getMethod (l₀ := cd.mro) PySem.W.kxs_ValueError hso (PySem.W.looks_opaque XK (hK ▸ F.opq)) (fun A Q E s k q => wpAny_bind ((PySem.W.looks_clsIn XK hcD) A _ E s k (wpAny_pure q))) rfl XK hini hI aC (by decide) ?_
    have kk : ∀ b o, hp.get? b = some o → (hp.push (PySem.W.kxs_mw "ValueError.__init__" a)).get? b = some o := fun b o e => Heap.get?_push_of_some _ e
    have I2 := I1.kept (t' := tk + 1) (h' := hp.push (PySem.W.kxs_mw "ValueError.__init__" a)) kk
    have hmw : (hp.push (PySem.W.kxs_mw "ValueError.__init__" a)).get? hp.objs.size = some (PySem.W.kxs_mw "ValueError.__init__" a) := Heap.get?_push_at rfl rfl
    have pnil : X.pn = [] := by rw [← hX]; rfl
    have I3 : Inv X [(hp.objs.size, PySem.W.kxs_mw "ValueError.__init__" a)] ((V.ref a :: vs').map some ++ [none]) H ⟨hp.push (PySem.W.kxs_mw "ValueError.__init__" a), g, d, tk + 1, os⟩ := I2.pins_of fun p hp1 => by
      obtain rfl := List.mem_singleton.mp hp1
      exact ⟨hmw, I1.hok.fresh (Nat.le_refl _), Nat.ne_of_gt I1.lt, I1.nofs (Nat.le_refl _), fun v z => nomatch z⟩
    refine PySem.W.kxs_callWith (i := "ValueError.__init__") (x := a) (by rw [hsp]; show (false || (backTo p3 (starEach eas X.env)).any (·.1)) = false; rw [hpl]; rfl) ?_
    have hrun := hta.run p3 _ _ _ _ _ I3 hq
    rw [hsp] at hrun ⊢
    refine PySem.Calls.evalArgs_plain (thn hrun fun us1 s2 ⟨vs1, H1, J1, r1, q1, e1, q2⟩ => ?_)
    subst e1
    have hpin : s2.heap.get? hp.objs.size = some (PySem.W.kxs_mw "ValueError.__init__" a) := (J1.pin (hp.objs.size, PySem.W.kxs_mw "ValueError.__init__" a) (by rw [pnil]; exact List.mem_singleton.mpr rfl)).1
    have hz : us1.length ≤ sizeLine := by
      rw [← Paired.length r1, sizeLine_eq]
      omega
    refine ⟨hpin, ?_⟩
    refine mw_call (hK ▸ T) J1 hpin ea0 hz fun s3 J3 => ?_
    have J4 : Inv X [] ((V.ref a :: vs').map some ++ [none]) H1 s3 := J3.pins_of fun p hp1 => nomatch hp1
    exact wpAt_of_wpAny (ht.run [] s3 _ _ _ J4 q2)
  · cases fl with
    | ret u =>
      obtain ⟨v, σ', H', J, rv, q⟩ := hs
      exact fin J rv q
    | next =>
      obtain ⟨σ', H', J, q⟩ := hs
      exact fin (v := V.non) (u := Value.none) J rfl q
    | brk =>
      obtain ⟨_, _, _, q⟩ := hs
      exact False.elim q
    | cont =>
      obtain ⟨_, _, _, q⟩ := hs
      exact False.elim q
end
end G
/-! C(.., k = v, ..) of an own error class over ValueError whose __init__ is its own. -/
namespace G
open PySem PySem.Spec PySem.HandSPX
section
variable {prog : Program} {w : World} {A : Around} {E : Value → Shared → Prop} {R : Result → Shared → Prop} {h : Heap} {g : Array GenState} {d : Drawn} {t : Nat} {os : OsState}
variable {nm q : Str} {C N : Addr} {bs bm bmB : List Value} {hdct : Bool} {sn : List Str} {sub : List Value} {ab : Bool} {col : Option Bool} {dd : Option Addr} {k0 k1 k2 k3 k5 : Option Value} {B newId initId : String}
theorem newK_check {M : Model} (F : ExcBaseFacts B newId initId bmB) (hT : ∀ X : String, bm.contains (.type X) = bmB.contains (.type X)) {rest : List Value} {kw : List (Str × Value)} {Q : Unit → Shared → Prop}
    (hC : h.get? C = some (excClassObj nm q C N bs bm hdct sn sub ab col dd k0 k1 k2 k3 k5 newId)) (hq : Q () ⟨h, g, d, t, os⟩) :
    wpAny M A (checkBuiltinCall newId ⟨.ref C :: rest, kw⟩) Q E ⟨h, g, d, t, os⟩ := by
  have hcont : (Value.ref C :: bm).contains (.type B) = true := by
    rw [List.contains_cons, hT, F.hasB, Bool.or_true]
  have hstar := F.noStar
  simp only [checkBuiltinCall, F.newKind, F.newSplit, F.newRow]
  repeat (first
    | refine wpAny_loadPart_at hC ?_
    | (refine wpAny_isSubtype_exc hC ?_; rw [hcont])
    | refine wpAny_staticBase_exc hC ?_
    | refine wpAny_madeBy_exc hC ?_
    | simp only [bne_self_eq_false, Bool.false_eq_true, if_false]
    | wp_step)
  all_goals exact hq
theorem newK_own (F : ExcBaseFacts B newId initId bmB) (hT : ∀ X : String, bm.contains (.type X) = bmB.contains (.type X)) {rest : List Value} {kw : List (Str × Value)}
    (hC : h.get? C = some (excClassObj nm q C N bs bm hdct sn sub ab col dd k0 k1 k2 k3 k5 newId))
    (hq : R (.ok (.ret (.ref (h.objs.size + 1)))) ⟨(h.push { cls := .type "tuple", data := .seq rest.toArray }).push (excO C h.objs.size), g, d, t, os⟩) (hrest : rest.length ≤ sizeLine) :
    codeAny (model prog w) A (.builtin newId ⟨.ref C :: rest, kw⟩) R ⟨h, g, d, t, os⟩ := by
  have hends := F.ends
  have hcB : (Value.ref C :: bm).contains (.type B) = true := by
    rw [List.contains_cons, hT, F.hasB, Bool.or_true]
  have hcA : (Value.ref C :: bm).contains (.type "AttributeError") = false := by
    rw [List.contains_cons, hT, F.noAttr]
    rfl
  have hcN : (Value.ref C :: bm).contains (.type "NameError") = false := by
    rw [List.contains_cons, hT, F.noName]
    rfl
  refine codeAny_builtinAt F.entry ?_
  unfold Builtin.«BaseException.__new__»
  refine wpAt_bind ?_
  show wpAt _ _ _ (stack >>= _) _ _ _
  refine wpAt_bind (wpAt_stack fun p below => wpAt_of_wpAny ?_)
  wp_walk
  refine wpAt_of_wpAny ?_
  rw [F.owner]
  repeat (first
    | with_reducible refine wpAny_madeHere_exc F.canon hC ?_
    | with_reducible refine wpAny_loadPart_at hC ?_
    | (with_reducible refine wpAny_isSubtype_exc hC ?_; first | rw [hcB] | rw [hcA] | rw [hcN])
    | wp_step)
  show R _ _
  rw [Heap.size_push]
  exact hq
theorem typeK_own (F : ExcBaseFacts B newId initId bmB) (hT : ∀ X : String, bm.contains (.type X) = bmB.contains (.type X)) {rest : List Value} {kw : List (Str × Value)} {fI : Addr} {Q : Fin → Shared → Prop}
    (hC : h.get? C = some (excClassObj nm q C N bs bm hdct sn sub ab col dd k0 k1 k2 k3 k5 newId))
    (hi : W.Looks (model prog w) h (typeLookup (.ref C) "__init__") (some (.ref fI))) (hb : ∀ self, W.Looks (model prog w) h (bindSpecial (.ref fI) self) (.ref fI, [self])) (hrest : rest.length ≤ sizeLine)
    (hq : codeAny (model prog w) A (.call (.ref fI) ⟨.ref (h.objs.size + 1) :: rest, kw⟩)
      (fun r s' => match r with | .ok (.ret v) => v = .none ∧ Q (.done (.ret (.ref (h.objs.size + 1)))) s' | .ok _ => False | .error e => E e s') ⟨(h.push (W.kdv_tup rest)).push (excO C h.objs.size), g, d, t, os⟩) :
    wpAny (model prog w) A (Builtin.«type.__call__» ⟨.ref C :: rest, kw⟩) Q E ⟨h, g, d, t, os⟩ := by
  repeat (first
    | with_reducible refine wpAny_loadPart_at hC ?_
    | with_reducible refine wpAny_madeBy_exc hC ?_
    | wp_step)
  refine codeAny_call_builtin_code (Code.quiet_builtin _ F.quiet) (newK_check F hT hC ?_)
  refine newK_own F hT hC ?_ hrest
  show wpAny _ _ _ _ _ _
  have k : ∀ b o, h.get? b = some o → ((h.push (W.kdv_tup rest)).push (excO C h.objs.size)).get? b = some o :=
    fun b o e => Heap.get?_push_of_some _ (Heap.get?_push_of_some _ e)
  have hC₁ := k _ _ hC
  have hget : ((h.push (W.kdv_tup rest)).push (excO C h.objs.size)).get? (h.objs.size + 1) = some (excO C h.objs.size) := by
    heap_get
  have hcC : (Value.ref C :: bm).contains (.ref C) = true := by
    simp
  have i1 := hi.keeps k
  have b1 := (hb (.ref (h.objs.size + 1))).keeps k
  unfold isInstance
  repeat (first
    | with_reducible refine wpAny_loadPart_at hget ?_
    | (with_reducible refine wpAny_isSubtype_exc hC₁ ?_; rw [hcC])
    | wp_step)
  show wpAny _ _ (typeLookup (.ref C) _) _ _ _
  refine i1.at ?_
  refine wpAny_holding (wpAny_bind (b1.at ?_))
  refine wpAny_bind (wpAny_call (codeAny_mono hq fun r s' z => ?_))
  rcases r with e | (v | _ | _ | _)
  all_goals first
    | exact z
    | exact z.elim
    | skip
  obtain ⟨rfl, z⟩ := z
  first
    | exact wpAny_pure (wpAny_pure z)
    | (wp_walk; exact z)
theorem callK_own (F : ExcBaseFacts B newId initId bmB) (hT : ∀ X : String, bm.contains (.type X) = bmB.contains (.type X)) {rest : List Value} {kw : List (Str × Value)} {fI : Addr}
    (hC : h.get? C = some (excClassObj nm q C N bs bm hdct sn sub ab col dd k0 k1 k2 k3 k5 newId))
    (hi : W.Looks (model prog w) h (typeLookup (.ref C) "__init__") (some (.ref fI))) (hb : ∀ self, W.Looks (model prog w) h (bindSpecial (.ref fI) self) (.ref fI, [self])) (hrest : rest.length ≤ sizeLine)
    (hq : codeAny (model prog w) (A.under (.builtin "type.__call__" ⟨.ref C :: rest, kw⟩)) (.call (.ref fI) ⟨.ref (h.objs.size + 1) :: rest, kw⟩) (W.InitBack (h.objs.size + 1) R) ⟨(h.push (W.kdv_tup rest)).push (excO C h.objs.size), g, d, t, os⟩) :
    codeAny (model prog w) A (.call (.ref C) ⟨rest, kw⟩) R ⟨h, g, d, t, os⟩ := by
  have f1 := tc_lookup
  have f2 := tc_bind (.ref C)
  have hTy : (⟨h, g, d, t, os⟩ : Shared).TypeIs (.ref C) "type" := ⟨_, hC, rfl⟩
  refine codeAny_of_tree ?_
  show wpAny _ _ (callAny (.ref C) _) _ _ _
  repeat (any_goals (first
    | assumption
    | with_reducible refine wpAny_loadPart_at hC ?_
    | wp_step))
  refine ⟨rfl, ?_⟩
  refine codeAny_call_builtin_at (Code.quiet_builtin _ (by decide +kernel)) entry_typeCall (wpAny_check_type_call_sub hC (typeK_own F hT hC hi hb hrest ?_))
  refine codeAny_mono hq fun r s' z => ?_
  rcases r with e | (v | _ | _ | _) <;> exact z
end
end G
/-! Own errors as values: made by place and by name, their fields read, their classes asked. -/
namespace G
open PySem L2
/-- __init__(self, f, ..): each f is stored -/
def sp_err (C : Addr) (fs : List Str) : Sp := fun vs H Q _ => ∃ (a : Addr) (xs : List V), vs = .ref a :: xs ∧ xs.length = fs.length ∧ H a = some (exo a C none) ∧
  ∀ d, H d = none → d ≠ a → Q .non (upd (upd H d (exd d (fs.zip xs).reverse)) a (exo a C (some d)))
structure Err (P : Program) (w : World) (K : PySem.W.Frag) (mg : Str → Option Value) (base : Heap) (x : Str) (C : Addr) (fs : List Str) : Prop where
  T : OexC K C
  ini : ∃ (fI : Addr) (fd : FuncData), PySem.W.findIn K (.ref C) "__init__" = some (some (.ref fI)) ∧ PySem.W.typeIn K (.ref fI) = some (.type "function") ∧ FnOk P w K mg base CX0 1 fI fd ("self" :: fs) (sp_err C fs) ∧
    KBn K fd ("self" :: fs) (fs.length + 1) [] (fun us _ => us) (fun vs _ => vs) ∧ KBn K fd ("self" :: fs) 1 fs.reverse (fun us ws => us ++ ws.reverse) (fun vs zs => vs ++ zs.reverse)
  gC : mg x = some (.ref C)
  xf : XfC K C
  nof : ∀ f ∈ fs, PySem.W.findIn K (.ref C) f = some none
theorem upd_comm {H : Hp} {a b : Addr} {o u : HO} (h : a ≠ b) : upd (upd H a o) b u = upd (upd H b u) a o := by
  funext c
  by_cases h1 : c = b
  · subst h1
    rw [upd_same, upd_ne (Ne.symm h), upd_same]
  · rw [upd_ne h1]
    by_cases h2 : c = a
    · subst h2
      rw [upd_same, upd_same]
    · rw [upd_ne h2, upd_ne h2, upd_ne h1]
section
variable {X : Cx} {pins : List (Addr × Obj)} {σ : L2.St} {H : Hp} {s : Shared} {C : Addr} {k n : Nat} {fI : Addr} {fd : FuncData} {ps ks : List Str} {sp : Sp} {g : List Value → List Value → List Value} {gV : List V → List V → List V} {Q : VK} {us ws : List Value} {vs zs : List V}
theorem run_err (T : OexC X.K C) (iC : PySem.W.findIn X.K (.ref C) "__init__" = some (some (.ref fI))) (tI : PySem.W.typeIn X.K (.ref fI) = some (.type "function")) (F1 : FnOk X.prog X.w X.K X.mg X.base CX0 k fI fd ps sp) (hr : Room (k + 1) X.A)
    (hb : KBn X.K fd ps (n + 1) ks g gV) (I : Inv X pins σ H s) (r : Vals vs us) (rz : Vals zs ws) (l1 : vs.length = n) (l2 : zs.length = ks.length) (hz : n ≤ 1000)
    (h : ∀ a, H a = none → sp (gV (.ref a :: vs) zs) (upd H a (exo a C none)) (fun v H2 => v = .non ∧ Q (.ref a) H2) E0) :
    wpAny (model X.prog X.w) X.A (call (.ref C) us (ks.zip ws)) (EP X pins σ Q) X.xe s := by
  obtain ⟨nm, q, N, bs, bm, sn, sub, ab, col, dd, k0, k1, k2, k3, k5, hC, hbm⟩ := T.cls
  obtain ⟨hp, g0, dr, tk, os⟩ := s
  have hsz : hp.objs.size ≤ hp.objs.size + 1 := Nat.le_succ _
  have hn : H (hp.objs.size + 1) = none := I.hok.fresh hsz
  have hq := h (hp.objs.size + 1) hn
  have kk : ∀ b o, hp.get? b = some o → ((hp.push (PySem.W.kdv_tup us)).push (PySem.HandSPX.excO C hp.objs.size)).get? b = some o :=
    fun b o e => Heap.get?_push_of_some _ (Heap.get?_push_of_some _ e)
  have hget : ((hp.push (PySem.W.kdv_tup us)).push (PySem.HandSPX.excO C hp.objs.size)).get? (hp.objs.size + 1) = some (PySem.HandSPX.excO C hp.objs.size) := by
    heap_get
  have I2 : Inv X pins σ (upd H (hp.objs.size + 1) (exo (hp.objs.size + 1) C none)) ⟨(hp.push (PySem.W.kdv_tup us)).push (PySem.HandSPX.excO C hp.objs.size), g0, dr, tk, os⟩ :=
    I.laid (t' := tk) (a := hp.objs.size + 1) (o := exo (hp.objs.size + 1) C none) kk hsz (exo_ok hget)
  have r1 : Vals (V.ref (hp.objs.size + 1) :: vs) (Value.ref (hp.objs.size + 1) :: us) := .cons rfl r
  have r2 := hb.rel r1 rz
  have n1 : (Value.ref (hp.objs.size + 1) :: us).length = n + 1 := by
    rw [List.length_cons, ← r.length, l1]
  have hus : us.length ≤ sizeLine := by
    rw [← Paired.length r, sizeLine_eq]
    omega
  refine wpAny_call (callK_own F.excBase_ValueError (fun Y => PySem.HandSPX.refsVE_contains Y bm hbm) (I.kIn _ _ hC) (PySem.W.looks_findIn I.kIn iC) (fun self => PySem.W.bind_fn I.kIn self tI) hus
    (codeAny_mono (F1.run _ X.stack _ _ ⟨Value.ref (hp.objs.size + 1) :: us, ks.zip ws⟩ (g (Value.ref (hp.objs.size + 1) :: us) ws) _ _ E0 (hr.make C us (ks.zip ws)) (I2.env0.make C us (ks.zip ws))
      (hb.to _ (Value.ref (hp.objs.size + 1) :: us) ws I2.kIn n1 (rz.length.symm.trans l2)) r2 hq) fun r s' hq' => ?_))
  cases r with
  | error er => exact hq'.elim
  | ok fl =>
    cases fl with
    | ret u =>
      obtain ⟨v, H', I3, rv, ev, q3⟩ := I2.after hq'
      subst ev
      exact ⟨rv, V.ref (hp.objs.size + 1), H', I3, rfl, q3⟩
    | next => exact False.elim hq'
    | brk => exact False.elim hq'
    | cont => exact False.elim hq'
end
/-- what stands behind C(..) -/
def Made (C : Addr) (fs : List Str) (xs : List V) (H : Hp) (Q : VK) : Prop := ∀ a d, H a = none → H d = none → d ≠ a → Q (.ref a) (upd (upd H d (exd d (fs.zip xs).reverse)) a (exo a C (some d)))
/-- C(e, ..) -/
def tErr (C : Addr) (fs : List Str) (ta : TA) : TE := fun σ H Q => ta σ H fun vs H1 => vs.length = fs.length ∧ Made C fs vs H1 Q
/-- C(f = e, ..), the names backwards -/
def tErrK (C : Addr) (fs : List Str) (tk : TA) : TE := fun σ H Q => tk σ H fun zs H1 => zs.length = fs.length ∧ Made C fs zs.reverse H1 Q
theorem made_sp {C : Addr} {fs : List Str} {xs : List V} {H : Hp} {Q : VK} (hl : xs.length = fs.length) (m : Made C fs xs H Q) (a : Addr) (ha : H a = none) :
    sp_err C fs (.ref a :: xs) (upd H a (exo a C none)) (fun v H2 => v = .non ∧ Q (.ref a) H2) E0 := by
  refine ⟨a, xs, rfl, hl, upd_same, fun d hd hne => ⟨rfl, ?_⟩⟩
  rw [upd_ne hne] at hd
  have e : upd (upd (upd H a (exo a C none)) d (exd d (fs.zip xs).reverse)) a (exo a C (some d)) = upd (upd H d (exd d (fs.zip xs).reverse)) a (exo a C (some d)) := by
    rw [upd_comm (Ne.symm hne), upd_upd]
  rw [e]
  exact m a d ha hd hne
section
variable {X : Cx} {x : Str} {C : Addr} {fs : List Str} {p pos : Pos} {e : Expr} {es : List Expr} {kws : List Keyword} {ta tk : TA}
theorem pe_err (R : Err X.prog X.w X.K X.mg X.base x C fs) (hr : Room 2 X.A) (hg : Gl X x) (ha : PA X (e :: es) ta) (hz : fs.length ≤ 1000) (hdb : (x == ("__debug__" : Str)) = false := by decide)
    (he : starEach (e :: es) X.env = (false, eval e X.env) :: starEach es X.env := by rfl) (hpl : (backTo pos (starEach es X.env)).any (·.1) = false := by rfl) : PE X (.Call (.Name x p) (e :: es) [] pos) (tErr C fs ta) := by
  refine ⟨fun pins s σ H Q I h => ?_⟩
  obtain ⟨fI, fd, iC, tI, F1, b0, _⟩ := R.ini
  refine wpAny_Call_Name_kw (ld_glob I hg R.gC ?_ hdb)
  refine PySem.W.callWith_K (h₀ := X.base) I.ok.mod.kin R.T.kC (thn (ha.run pos pins s σ H _ I h) fun us s1 ⟨vs, H1, I1, r1, hl, q1⟩ => ⟨I1.kIn, ?_⟩) he hpl
  exact run_err (ks := []) (ws := []) (zs := []) R.T iC tI F1 hr b0 I1 r1 .nil hl rfl hz (made_sp hl q1)
theorem pe_errK (R : Err X.prog X.w X.K X.mg X.base x C fs) (hr : Room 2 X.A) (hg : Gl X x) (hkw : PK X kws tk) (hall : (backToKw pos (keywordEach kws X.env)).all (·.1.isSome) = true := by rfl)
    (hks : (backToKw pos (keywordEach kws X.env)).filterMap (·.1) = fs.reverse := by rfl) (hdb : (x == ("__debug__" : Str)) = false := by decide)
    (hpl : ((backTo pos (starEach [] X.env)).any (·.1) || (backToKw pos (keywordEach kws X.env)).any (·.1.isNone)) = false := by rfl) : PE X (.Call (.Name x p) [] kws pos) (tErrK C fs tk) := by
  refine ⟨fun pins s σ H Q I h => ?_⟩
  obtain ⟨fI, fd, iC, tI, F1, _, b1⟩ := R.ini
  refine wpAny_Call_Name_kw (ld_glob I hg R.gC ?_ hdb)
  refine PySem.W.callWith_KW0 (h₀ := X.base) I.ok.mod.kin R.T.kC hall ?_ hpl
  refine thn (hkw.run pos pins s σ H _ I h) fun ws s2 ⟨zs, H2, I2, rz, hl, q2⟩ => ⟨I2.kIn, ?_⟩
  rw [hks]
  exact run_err (us := []) (vs := []) (n := 0) R.T iC tI F1 hr b1 I2 .nil rz rfl (by rw [hl, List.length_reverse]) (Nat.zero_le _) (made_sp (xs := zs.reverse) (by rw [List.length_reverse, hl]) q2)
/-- e.f -/
def tErrF (K : PySem.W.Frag) (f : Str) (te : TE) : TE := fun σ H Q => te σ H fun x H1 => ∃ (a C d : Addr) (fs : List (Str × V)) (v : V), x = .ref a ∧ XfC K C ∧ PySem.W.findIn K (.ref C) f = some none ∧ H1 a = some (exo a C (some d)) ∧ H1 d = some (exd d fs) ∧ fs.lookup f = some v ∧ Q v H1
theorem pe_errF {te : TE} {f : Str} (he : PE X e te) (hb : attributeBase e f X.env (eval e X.env) = eval e X.env := by rfl) : PE X (.Attribute e f pos) (tErrF X.K f te) := by
  refine ⟨fun pins s σ H Q I h => ?_⟩
  refine attr_of hb (thn (he.run pins s σ H _ I h) fun u s1 ⟨x, H1, I1, rx, a, C, d, fs, v, ex, T, hno, ea, ed, l, q⟩ => ?_)
  subst ex
  obtain rfl : u = Value.ref a := rx
  obtain ⟨t1, ho⟩ := exo_at I1.hok ea
  obtain ⟨mA, hns, hr⟩ := exd_at I1.hok ed
  obtain ⟨od, ho2, hl⟩ := lookIn_ns hns
  obtain ⟨u, hu, ru⟩ := RelO.some_of (v := v) (o := mA f) (by rw [← l]; exact hr f)
  have J : PySem.W.InstAt s1.heap a _ C (some od) := ⟨ho, rfl, rfl, ho2⟩
  exact HandSPX.exc_get I1.kIn J T.ga T.gg T.exC (PySem.W.findObj_own T.hdC hno rfl (by rw [hl, hu])) (handed_of ru) ⟨v, H1, I1.tok _, ru, q⟩
end
end G
/-! isinstance of an own error that has its dict. -/
namespace G
open PySem PySem.W PySem.Spec PySem.Calls PyProof.Rows L2
section
variable {prog : Program} {w : World} {A : Around} {E : Value → Shared → Prop} {s : Shared} {K : Frag} {x D : Addr} {ox : Obj} {od : Option Obj}
theorem clsE_find (T : ExcC K D) (od : Option Obj) : findObj K D od "__class__" = some (.bind (.builtin "getset_descriptor.__get__") (.builtin "object.__class__")) := by
  obtain ⟨cd, hc, _⟩ := any_some T.hd
  unfold findObj
  rw [hc, Option.bind_some, T.ha, Option.bind_some]
  simp [T.hn, T.ht]
theorem clsE_get {Q : Option Value → Shared → Prop} (T : ExcC K D) (X : K.In s.heap) (I : InstAt s.heap x ox D od) (h : Q (some (.ref D)) { s with toks := s.toks + 1 }) :
    wpAny (model prog w) A (getAttr? (.ref x) "__class__") Q E s := by
  obtain ⟨hp, g, d, t, os⟩ := s
  have L0 := I.type (M := model prog w)
  have L1 := looks_findIn (M := model prog w) X T.hg
  have L2 := looks_findIn (M := model prog w) X T.hk
  have L3 := looks_find (M := model prog w) X I (clsE_find T od)
  have sub : Looks (model prog w) hp (isInstance (.ref x) (.type "BaseException")) true :=
    L0.andThen (looks_subIn X T.hs)
  have e2 : (Value.builtin "BaseException.__getattribute__" == Value.builtin "object.__getattribute__") = false := by
    decide +kernel
  have e1 : (onTheHeap (Value.ref D) && Value.builtin "BaseException.__getattribute__" == Value.builtin "object.__getattribute__") = false := by
    rw [e2]
    rfl
  unfold getAttr? getAttrBy? getAttrBy
  refine wpAny_bind (wpAny_mkText (wpAny_bind (wpAny_attempt (wpAny_holding (wpAny_bind (L0.at (wpAny_bind (L1.at ?_))))))))
  show wpAny _ _ (if (onTheHeap (Value.ref D) && Value.builtin "BaseException.__getattribute__" == Value.builtin "object.__getattribute__") = true then _
    else _) _ _ _
  rw [e1, if_neg Bool.false_ne_true]
  unfold getAttrByItsOwn hookBefore
  refine wpAny_bind ?_
  rw [if_pos (show onTheHeap (Value.ref D) = true from rfl)]
  refine L2.at ?_
  refine wpAny_bind (wpAny_attempt (wpAny_holding ?_))
  unfold callGetattribute
  rw [show (false && onTheHeap (Value.builtin "BaseException.__getattribute__")) = false from rfl, if_neg Bool.false_ne_true]
  unfold boundAndCalled
  rw [PySem.F.excAttr_ValueError.ga.bind (.ref x)]
  refine wpAny_bind (wpAny_pure ?_)
  show wpAny _ _ (call (.builtin "BaseException.__getattribute__") [.ref x, .str "__class__" t]) _ _ _
  refine wpAny_call (codeAny_call_builtin PySem.F.excAttr_ValueError.ga.plain PySem.F.entry_bexc_ga ?_)
  refine @check_slot (model prog w) _ _ ⟨hp, g, d, t + 1, os⟩ "BaseException.__getattribute__" "BaseException" "__getattribute__" (.ref x) [.str "__class__" t] []
    _ (by decide +kernel) (by decide +kernel) sub (PySem.F.args_bexc_ga (.ref x) (.str "__class__" t)) ?_
  unfold Builtin.«object.__getattribute__»
  refine wpAny_bind (wpAny_of_eq (a := ((Value.ref x : Value), [Value.str "__class__" t])) ?_ ?_)
  · first
      | rfl
      | (simp only [slotArgs]; rfl)
  refine wpAny_bind (wpAny_pure (wpAny_bind (L0.at (wpAny_bind (L3.at ?_)))))
  show wpAny _ _ (holding [Value.builtin "object.__class__"] (call (.builtin "getset_descriptor.__get__") [.builtin "object.__class__", .ref x, .ref D])
    >>= ret) _ _ _
  refine wpAny_bind (wpAny_holding (wpAny_call (class_get (s := ⟨hp, g, d, t + 1, os⟩) (ox := ox) (od := od) X I T.hm ?_)))
  refine wpAny_pure ?_
  show wpAny _ _ (handedOut (.ref D)) _ _ _
  rw [handedOut_of (v := .ref D) rfl]
  first
    | exact wpAny_pure (wpAny_pure h)
    | exact wpAny_pure h
    | exact wpAny_pure (wpAny_bind (wpAny_pure (wpAny_pure h)))
theorem kitE (T : ExcC K D) : KitX K (.ref x) (.ref D) (fun h => ∃ ox od, InstAt h x ox D od) where
  ty := fun _ _ _ ⟨_, _, I⟩ => I.type
  it := fun _ _ X _ => by
    obtain ⟨cdD, hcD, _⟩ := any_some T.hd
    unfold clsIn at hcD
    split at hcD
    · rename_i c' d' cd' sl' ho
      intro A' Q' E' s' k q
      unfold isType loadHead
      exact wpAny_bind (wpAny_loadPart (k _ _ (X _ _ ho)) (wpAny_pure q))
    · cases hcD
  ne := fun h tp dd its n sl X htp => by
    obtain ⟨cdD, hcD, _⟩ := any_some T.hd
    refine Bool.eq_false_iff.mpr fun q => ?_
    have e : D = tp := Value.ref.inj (beq_iff_eq.mp q)
    subst e
    unfold clsIn at hcD
    split at hcD
    · rename_i c' d' cd' sl' ho
      have z := (X _ _ ho).symm.trans htp
      cases z
    · cases hcD
  ca := fun X ⟨_, _, I⟩ k => clsE_get T X I k
end
/-- isinstance(e, c), e an own error -/
def rIsErr (K : Frag) : List V → Hp → VK → Prop := fun xs H Q => ∃ (a D : Addr) (d : Option Addr) (c : V) (u : Value) (b : Bool), xs = [.ref a, c] ∧ ClsV c u ∧ ExcC K D ∧ H a = some (exo a D d) ∧
  (∀ dx, d = some dx → ∃ fs, H dx = some (exd dx fs)) ∧ kitOne K (.ref D) u = some b ∧ Q (.bl b) H
theorem call_isErr {X : Cx} : CallR X (.builtin "isinstance") (rIsErr X.K) := by
  intro pins s σ H xs us Q I r h
  obtain ⟨a, D, d, c, u, b, rfl, k, T, ea, hd, e, q⟩ := h
  obtain ⟨u1, u2, rfl, r1, r2⟩ := vals2 r
  have e2 := k.eq r2
  subst e2
  cases (show u1 = Value.ref a from r1)
  obtain ⟨t1, ho⟩ := exo_at I.hok ea
  have J : ∃ ox od, InstAt s.heap a ox D od := by
    cases d with
    | none => exact ⟨_, none, ho, rfl, rfl, trivial⟩
    | some dx =>
      obtain ⟨fs, ed⟩ := hd dx rfl
      obtain ⟨mA, hns, _⟩ := exd_at I.hok ed
      obtain ⟨o2, ho2, _⟩ := lookIn_ns hns
      exact ⟨_, some o2, ho, rfl, rfl, ho2⟩
  exact kia_one (kitE T) I.kIn J e (fun z => nomatch z) fun tk => ⟨.bl b, H, I.tok tk, rfl, q⟩
end G
/-! What the head tells: tests on the written part, defs, the errors' __init__. -/
namespace G
open PySem PySem.Spec L2
def ini (K : PySem.W.Frag) (x : Str) : Addr := He.ma K (He.ga K x) "__init__"
abbrev FnS : Type := Option (Str × Str × Arguments × FuncBody × Scope × Addr × List Str × Addr)
def fnS (K : PySem.W.Frag) (x : Str) : FnS := match K.lookup (ini K x) with
  | some ⟨_, _, .func fd, _⟩ => some (fd.name, fd.qualname, fd.params, fd.body, fd.scope, fd.globals, fd.closure.map (·.1), fd.builtins)
  | _ => none
/-- the __init__ of an own error class x -/
structure DefS where
  cls : Str
  qual : Str
  params : Arguments
  body : List Stmt
  scope : Scope
def DefS.val (d : DefS) : FnS := some ("__init__", d.qual, d.params, .stmts d.body, d.scope, mainGlobals, ["__class__"], builtinsNs)
def codeB (P : Program) (K : PySem.W.Frag) (cda : Addr) : Bool := match K.lookup cda with
  | some ⟨_, _, .fields vs, _⟩ => (match (vs[2]? : Option Value) with
    | some (Value.str file _) => ((P.main.file : Str) == file)
    | _ => false)
  | _ => false
def cellB (K : PySem.W.Frag) (x : Str) (cc : Addr) : Bool := match K.lookup cc with
  | some ⟨_, _, .cell (some (.ref D)), _⟩ => decide (D = He.ga K x)
  | _ => false
def nonB : Value → Bool
  | .none => true
  | _ => false
def sfB (P : Program) (K : PySem.W.Frag) (x q : Str) : Bool := match K.lookup (ini K x) with
  | some ⟨_, _, .func fd, _⟩ => (match fd.closure, fd.code with
    | [(_, cc)], .ref cda => nonB fd.defaults && (PySem.W.codeIn K (.ref cda) q && (codeB P K cda && cellB K x cc))
    | _, _ => false)
  | _ => false
def clsB (K : PySem.W.Frag) (C : Addr) : Bool := decide (PySem.W.mroIn K C (.ref C) = some true) && (He.eqO (PySem.W.ks_superIn K C C "__init__") (some (some (.builtin "ValueError.__init__"))) && decide (PySem.W.subIn K (.ref C) (.type "ValueError") = some true))
/-- the class is an error's: made by ValueError.__new__ -/
def oexB (K : PySem.W.Frag) (C : Addr) : Bool := match K.lookup C with
  | some ⟨.type "type", _, .cls cd, sl⟩ => (match cd.mro, sl.toList with
    | .ref C' :: bm, [_, _, _, _, some (.builtin n), _] => decide (C' = C) && (decide (n = "ValueError.__new__") && (!cd.hasDel && (cd.hasDict && PySem.HandSPX.refsVE bm)))
    | _, _ => false)
  | _ => false
def oexB2 (K : PySem.W.Frag) (C : Addr) : Bool := He.eqO (PySem.W.findIn K (.ref C) "__setattr__") (some (some (.builtin "object.__setattr__"))) && (decide (PySem.W.subIn K (.ref C) (.type "BaseException") = some true) && (decide (PySem.W.typeIn K (.ref C) = some (.type "type")) && PySem.W.keepIn K (.ref C)))
def excB (K : PySem.W.Frag) (C : Addr) : Bool := xfB K C && (He.eqO (PySem.W.findIn K (.ref C) "__class__") (some (some (.builtin "object.__class__"))) && decide (PySem.W.mroIn K C (.type "object") = some true))
def gsB (K : PySem.W.Frag) : Bool := He.eqO (PySem.W.nsIn K mainGlobals "super") (some none) && (He.eqO (PySem.W.nsIn K cStatics "thirdparty.any") (some none) &&
  (decide (PySem.W.specialIn K (.builtin "object.__class__") "__get__" = some (some (.builtin "getset_descriptor.__get__"))) && decide (PySem.W.takesIn K (.builtin "object.__class__") = some true)))
section
variable {K : PySem.W.Frag} {x : Str} {C : Addr}
theorem oexB_ok (h1 : oexB K C = true) (h2 : oexB2 K C = true) : OexC K C := by
  obtain ⟨a1, h2⟩ := He.ba h2
  obtain ⟨a2, h2⟩ := He.ba h2
  obtain ⟨a3, a4⟩ := He.ba h2
  refine ⟨?_, He.eqO_ok a1, of_decide_eq_true a2, of_decide_eq_true a3, a4⟩
  unfold oexB at h1
  split at h1
  · rename_i dd cd sl ho
    split at h1
    · rename_i C' bm k0 k1 k2 k3 n k5 hm hs
      obtain ⟨b1, h1⟩ := He.ba h1
      obtain ⟨b2, h1⟩ := He.ba h1
      obtain ⟨b3, h1⟩ := He.ba h1
      obtain ⟨b4, b5⟩ := He.ba h1
      have e1 := of_decide_eq_true b1
      have e2 := of_decide_eq_true b2
      subst e1 e2
      obtain ⟨nm, bs, mro, ns, qn, hd, sn, sub, ab, col, del⟩ := cd
      dsimp only at hm b3 b4
      subst hm
      have e3 : del = false := by simpa using b3
      subst e3 b4
      have es : sl = #[k0, k1, k2, k3, some (.builtin "ValueError.__new__"), k5] := by
        apply Array.ext'
        exact hs
      subst es
      exact ⟨nm, qn, ns, bs, bm, sn, sub, ab, col, dd, k0, k1, k2, k3, k5, ho, b5⟩
    · cases h1
  · cases h1
theorem excB_ok (h : excB K C = true) (g : gsB K = true) : XfC K C ∧ ExcC K C := by
  obtain ⟨a1, h⟩ := He.ba h
  obtain ⟨a2, a3⟩ := He.ba h
  obtain ⟨_, g⟩ := He.ba g
  obtain ⟨_, g⟩ := He.ba g
  obtain ⟨g3, g4⟩ := He.ba g
  have f := xfB_ok a1
  exact ⟨f, f.ga, f.gg, f.exC, f.hdC, He.eqO_ok a2, of_decide_eq_true g3, of_decide_eq_true g4, of_decide_eq_true a3⟩
theorem sfun_of {P : Program} {d : DefS} (e : fnS K d.cls = d.val) (c : sfB P K d.cls d.qual = true) (h : clsB K (He.ga K d.cls) = true) (g : gsB K = true) (kp : PySem.W.keepIn K (.ref (ini K d.cls)) = true) (o : oexB K (He.ga K d.cls) = true)
    (top : (P.main.scope.names.lookup ("super" : Str)).isSome = false) : ∃ fd, SFun P K d.qual d.params d.body d.scope (He.ga K d.cls) (ini K d.cls) fd := by
  obtain ⟨h1, h⟩ := He.ba h
  obtain ⟨h2, h3⟩ := He.ba h
  obtain ⟨g1, g⟩ := He.ba g
  obtain ⟨g2, _⟩ := He.ba g
  have hcd : ∃ cd, PySem.W.clsIn K (He.ga K d.cls) = some cd := by
    unfold PySem.W.mroIn at h1
    cases e : PySem.W.clsIn K (He.ga K d.cls) with
    | none =>
      rw [e] at h1
      exact absurd (of_decide_eq_true h1) (fun z => nomatch z)
    | some cd => exact ⟨cd, rfl⟩
  unfold fnS at e
  unfold sfB at c
  cases q : K.lookup (ini K d.cls) with
  | none =>
    rw [q] at e
    cases e
  | some ob =>
    obtain ⟨oc, od, dt, osl⟩ := ob
    rw [q] at e c
    cases dt with
    | func fd =>
      obtain ⟨n1, n2, n3, n4, n5, n6, n7, n8, n9, n10, n11, n12, n13, n14, n15⟩ := fd
      have e2 : (some (n1, n2, n3, n4, n5, n6, n7.map (·.1), n15) : FnS) = (some (("__init__" : Str), d.qual, d.params, FuncBody.stmts d.body, d.scope, mainGlobals, [("__class__" : Str)], builtinsNs) : FnS) := e
      simp only [Option.some.injEq, Prod.mk.injEq] at e2
      obtain ⟨r1, r2, r3, r4, r5, r6, r7, r8⟩ := e2
      subst r1 r2 r3 r4 r5 r6 r8
      dsimp only at c
      split at c
      · rename_i _ _ cn cc cda
        have r7' : cn = "__class__" := by simpa using r7
        subst r7'
        obtain ⟨c1, c⟩ := He.ba c
        obtain ⟨c2, c⟩ := He.ba c
        obtain ⟨c3, c4⟩ := He.ba c
        have c1' : n8 = Value.none := by
          cases n8 <;> first | rfl | cases c1
        subst c1'
        refine ⟨_, ⟨⟨oc, od, n9, n10, n11, n12, cda, cc, n14, osl, rfl, q, c2, ?_, ?_⟩, hcd, of_decide_eq_true h1, He.eqO_ok h2, of_decide_eq_true h3, He.eqO_ok g1, top, He.eqO_ok g2, kp⟩⟩
        · unfold cellB at c4
          split at c4
          · rename_i cl cld D csl hl
            have z := of_decide_eq_true c4
            subst z
            exact ⟨cl, cld, csl, hl⟩
          · cases c4
        · unfold codeB at c3
          split at c3
          · rename_i ccl cdd vs ccs hl
            split at c3
            · rename_i file tf hv
              exact ⟨ccl, cdd, vs, ccs, file, tf, hl, hv, c3⟩
            · cases c3
          · cases c3
      · cases c
    | _ => cases e
end
/-! ### the hook -/
abbrev AlE : Type := Bool × List He.FnW × List FnS
def obsE (fb : List (PySem.W.Frag → Bool)) (fn : List He.DefD) (fs : List DefS) (K : PySem.W.Frag) : AlE := ((fb.all fun f => f K) && fn.all fun d => d.ok K, fn.map fun d => He.fnW K d.at_, fs.map fun d => fnS K d.cls)
def valE (fn : List He.DefD) (fs : List DefS) : AlE := (true, fn.map He.DefD.val, fs.map DefS.val)
def SaysE (fb : List (PySem.W.Frag → Bool)) (fn : List He.DefD) (fs : List DefS) (K : PySem.W.Frag) : Prop := obsE fb fn fs K = valE fn fs
def obsEG (n : Nat) (fb : List (PySem.W.Frag → Bool)) (fn : List He.DefD) (fs : List DefS) (g : Addr → Option Obj) : AlE := obsE fb fn fs (He.frG g (cStatics :: He.asD g n))
def hookE (n : Nat) (fb : List (PySem.W.Frag → Bool)) (fn : List He.DefD) (fs : List DefS) : PySem.W.Hook where
  α := AlE
  obs := fun s => obsEG n fb fn fs s.heap.get?
  val := fun _ => valE fn fs
  says := fun _ h => ∃ K : PySem.W.Frag, K.In h ∧ SaysE fb fn fs K
  of := fun _ _ e => ⟨_, He.frG_in, e⟩
  keeps := fun _ _ _ ⟨K, hK, c⟩ k => ⟨K, PySem.W.Frag.In.keeps hK k, c⟩
theorem obsEG_eq {n : Nat} {fb : List (PySem.W.Frag → Bool)} {fn : List He.DefD} {fs : List DefS} {g : Addr → Option Obj} {s : Shared} (h : ∀ a, g a = s.heap.get? a) : obsEG n fb fn fs g = (hookE n fb fn fs).obs s := by
  have e : g = s.heap.get? := funext h
  rw [e] <;> rfl
section
variable {fb : List (PySem.W.Frag → Bool)} {fn : List He.DefD} {fs : List DefS} {K : PySem.W.Frag}
theorem SaysE.fact (c : SaysE fb fn fs K) (i : Nat) {f : PySem.W.Frag → Bool} (h : fb[i]? = some f := by rfl) : f K = true := by
  have c1 := (He.ba (show ((fb.all fun f => f K) && fn.all fun d => d.ok K) = true from congrArg (fun z : AlE => z.1) c)).1
  exact List.all_eq_true.mp c1 f (List.mem_of_getElem? h)
theorem SaysE.mem (c : SaysE fb fn fs K) {f : PySem.W.Frag → Bool} (h : f ∈ fb) : f K = true := by
  have c1 := (He.ba (show ((fb.all fun f => f K) && fn.all fun d => d.ok K) = true from congrArg (fun z : AlE => z.1) c)).1
  exact List.all_eq_true.mp c1 f h
theorem SaysE.def_ (c : SaysE fb fn fs K) (i : Nat) {d : He.DefD} (h : fn[i]? = some d := by rfl) : ∃ fd, FunD K d.name d.qual d.params d.body d.scope (d.dvs K) (d.kws K) (He.fAd K d.at_) fd := by
  have c2 := (He.ba (show ((fb.all fun f => f K) && fn.all fun d => d.ok K) = true from congrArg (fun z : AlE => z.1) c)).2
  have e : fn.map (fun d => He.fnW K d.at_) = fn.map He.DefD.val := congrArg (fun z : AlE => z.2.1) c
  have e2 : (fn.map fun d => He.fnW K d.at_)[i]? = (fn.map He.DefD.val)[i]? := by
    rw [e]
  rw [List.getElem?_map, List.getElem?_map, h] at e2
  exact He.DefD.funD (Option.some.inj e2) (List.all_eq_true.mp c2 d (List.mem_of_getElem? h))
theorem SaysE.sup (c : SaysE fb fn fs K) (i : Nat) {d : DefS} (h : fs[i]? = some d := by rfl) : fnS K d.cls = d.val := by
  have e : fs.map (fun d => fnS K d.cls) = fs.map DefS.val := congrArg (fun z : AlE => z.2.2) c
  have e2 : (fs.map fun d => fnS K d.cls)[i]? = (fs.map DefS.val)[i]? := by
    rw [e]
  rw [List.getElem?_map, List.getElem?_map, h] at e2
  exact Option.some.inj e2
end
end G
/-! The errors' __init__ by their bodies; errors without fields. -/
namespace G
open PySem PySem.Spec L2 NdefX
theorem hcl_of {p0 p1 p2 p3 : Pos} {es : List Expr} {env : Env} (hl : (p2.endLine == p3.line) = true) (hf : methodCallForm (es.length + ([] : List Keyword).length) (backTo p3 (starEach es env)) (backToKw p3 (keywordEach [] env)) = true) :
    ∃ pl : Sem Bool, eval (.Call (.Attribute (.Call (.Name "super" p0) [] [] p1) "__init__" p2) es [] p3) env = (do
      let ov ← attributeBase (.Call (.Name "super" p0) [] [] p1) "__init__" env (eval (.Call (.Name "super" p0) [] [] p1) env)
      standAt p2.atName
      let (ff, first) ← holding [ov] (getMethod ov "__init__" pl)
      callWith p3 ff first (backTo p3 (starEach es env)) []) := by
  refine ⟨plainOf (.Call (.Name "super" p0) [] [] p1) env, ?_⟩
  show (do
    let ov ← attributeBase (.Call (.Name "super" p0) [] [] p1) "__init__" env (eval (.Call (.Name "super" p0) [] [] p1) env)
    standAt p2.atName
    methodCall (.Call (.Name "super" p0) [] [] p1) "__init__" p2 p3 env ov (es.length + ([] : List Keyword).length) (backTo p3 (starEach es env)) (backToKw p3 (keywordEach [] env))) = _
  simp only [mcall_line hf hl]
  rfl
section
variable {P : Program} {w : World} {K : PySem.W.Frag} {mg : Str → Option Value} {base : Heap} {qual x : Str} {params : Arguments} {body : List Stmt} {scope : Scope} {C fI : Addr} {fd : FuncData} {f g : Str} {p0 p1 p2 p3 p4 p5 p6 p7 p8 p9 q0 q1 q2 q3 q4 : Pos}
theorem err_fn1 (F : SFun P K qual params body scope C fI fd) (T : OexC K C) (hno : PySem.W.findIn K (.ref C) f = some none) {ar : Arg} (hpr : (params.posonlyargs ++ params.args).head? = some ar) (har : ar.arg = "self")
    (hl : (p2.endLine == p4.line) = true) (hbd : body = [.Expr (.Call (.Attribute (.Call (.Name "super" p0) [] [] p1) "__init__" p2) [.Name f p3] [] p4) p5, .Assign [.Attribute (.Name "self" p6) f p7] (.Name f p8) p9])
    (S : NScope ["self", f, "__class__"] ["self", f] [("__class__" : Str)] scope) (hks : scope.names.lookup ("super" : Str) = some .globalImplicit) (hd : (f == ("__debug__" : Str)) = false) (hc : (f == ("__classdict__" : Str)) = false) :
    FnOk P w K mg base CX0 1 fI fd ["self", f] (sp_err C [f]) := by
  have vs : scope.names.lookup ("self" : Str) = some .local := S.par _ (by simp)
  have vf : scope.names.lookup f = some .local := S.par _ (by simp)
  refine fn_sup (k := 0) F S hpr (by rw [har]; rfl) hks hbd (fun _ => rfl) (fun _ => rfl) (fun _ => hcl_of hl (by rfl)) (fun vs H Q E h => ?_) T (fun nf A outer s H vs Q E hs hq h => ?_)
  · obtain ⟨a, xs, rfl, hl, _⟩ := h
    show xs.length + 1 = 2
    rw [hl]
    rfl
  · obtain ⟨a, xs, rfl, hl, ea, hk⟩ := h
    match xs, hl with
    | [y], _ =>
      have V0 : Vis (ncx CX0 P w K mg base ([("self" : Str), f] ++ [("__class__" : Str)]) nf fI A outer s H E).env.scope "self" := .inl (by show nf.scope.names.lookup _ = _; rw [hs]; exact vs)
      have V1 : Vis (ncx CX0 P w K mg base ([("self" : Str), f] ++ [("__class__" : Str)]) nf fI A outer s H E).env.scope f := .inl (by show nf.scope.names.lookup _ = _; rw [hs]; exact vf)
      refine ⟨tCons (tVar 1) tNil, tOst K f (tVar 0) (tVar 1), pa_cons (pe_var (i := 1) rfl V1 hd hc) pa_nil, pss_one (ps_ost (pe_var (i := 0) rfl V0) (pe_var (i := 1) rfl V1 hd hc)), ⟨a, [y], rfl, ea⟩, ?_⟩
      refine ⟨y, rfl, by show 1 ≤ 1000; decide, rfl, ?_⟩
      refine ⟨y, rfl, .ref a, rfl, a, C, rfl, T, hno, .inl ⟨ea, fun d h1 h2 => ?_⟩⟩
      exact hk d h1 h2
theorem err_fn2 (F : SFun P K qual params body scope C fI fd) (T : OexC K C) (hno : PySem.W.findIn K (.ref C) f = some none) (hno2 : PySem.W.findIn K (.ref C) g = some none) {ar : Arg} (hpr : (params.posonlyargs ++ params.args).head? = some ar) (har : ar.arg = "self")
    (hl : (p2.endLine == p4.line) = true) (hbd : body = [.Expr (.Call (.Attribute (.Call (.Name "super" p0) [] [] p1) "__init__" p2) [.Name f p3, .Name g q4] [] p4) p5, .Assign [.Attribute (.Name "self" p6) f p7] (.Name f p8) p9, .Assign [.Attribute (.Name "self" q0) g q1] (.Name g q2) q3])
    (S : NScope ["self", f, g, "__class__"] ["self", f, g] [("__class__" : Str)] scope) (hks : scope.names.lookup ("super" : Str) = some .globalImplicit) (hd : (f == ("__debug__" : Str)) = false) (hc : (f == ("__classdict__" : Str)) = false)
    (hd2 : (g == ("__debug__" : Str)) = false) (hc2 : (g == ("__classdict__" : Str)) = false) : FnOk P w K mg base CX0 1 fI fd ["self", f, g] (sp_err C [f, g]) := by
  have vs : scope.names.lookup ("self" : Str) = some .local := S.par _ (by simp)
  have vf : scope.names.lookup f = some .local := S.par _ (by simp)
  have vg : scope.names.lookup g = some .local := S.par _ (by simp)
  refine fn_sup (k := 0) F S hpr (by rw [har]; rfl) hks hbd (fun _ => rfl) (fun _ => rfl) (fun _ => hcl_of hl (by rfl)) (fun vs H Q E h => ?_) T (fun nf A outer s H vs Q E hs hq h => ?_)
  · obtain ⟨a, xs, rfl, hl, _⟩ := h
    show xs.length + 1 = 3
    rw [hl]
    rfl
  · obtain ⟨a, xs, rfl, hl, ea, hk⟩ := h
    match xs, hl with
    | [y, z], _ =>
      have V0 : Vis (ncx CX0 P w K mg base ([("self" : Str), f, g] ++ [("__class__" : Str)]) nf fI A outer s H E).env.scope "self" := .inl (by show nf.scope.names.lookup _ = _; rw [hs]; exact vs)
      have V1 : Vis (ncx CX0 P w K mg base ([("self" : Str), f, g] ++ [("__class__" : Str)]) nf fI A outer s H E).env.scope f := .inl (by show nf.scope.names.lookup _ = _; rw [hs]; exact vf)
      have V2 : Vis (ncx CX0 P w K mg base ([("self" : Str), f, g] ++ [("__class__" : Str)]) nf fI A outer s H E).env.scope g := .inl (by show nf.scope.names.lookup _ = _; rw [hs]; exact vg)
      refine ⟨tCons (tVar 1) (tCons (tVar 2) tNil), tSeq (tOst K f (tVar 0) (tVar 1)) (tOst K g (tVar 0) (tVar 2)), pa_cons (pe_var (i := 1) rfl V1 hd hc) (pa_cons (pe_var (i := 2) rfl V2 hd2 hc2) pa_nil),
        pss_cons (ps_ost (pe_var (i := 0) rfl V0) (pe_var (i := 1) rfl V1 hd hc)) (pss_one (ps_ost (pe_var (i := 0) rfl V0) (pe_var (i := 2) rfl V2 hd2 hc2))), ⟨a, [y, z], rfl, ea⟩, ?_⟩
      refine ⟨y, rfl, z, rfl, by show 2 ≤ 1000; decide, rfl, ?_⟩
      refine ⟨y, rfl, .ref a, rfl, a, C, rfl, T, hno, .inl ⟨ea, fun d h1 h2 => ?_⟩⟩
      refine ⟨z, rfl, .ref a, rfl, a, C, rfl, T, hno2, .inr ⟨d, [(f, y)], upd_same, by rw [upd_ne h2, upd_same], by show 1 ≤ 900; decide, ?_⟩⟩
      have e : upd (upd (upd H d (exd d [(f, y)])) a (exo a C (some d))) d (exd d [(g, z), (f, y)]) = upd (upd H d (exd d [(g, z), (f, y)])) a (exo a C (some d)) := by
        rw [upd_comm (Ne.symm h2), upd_upd]
      show Q .non (upd (upd (upd H d (exd d [(f, y)])) a (exo a C (some d))) d (exd d [(g, z), (f, y)]))
      rw [e]
      exact hk d h1 h2
theorem err_mk1 (F : SFun P K qual params body scope C fI fd) (T : OexC K C) (hno : PySem.W.findIn K (.ref C) f = some none) (hpr : ∃ ar : Arg, (params.posonlyargs ++ params.args).head? = some ar ∧ ar.arg = "self")
    (hbd : ∃ p0 p1 p2 p3 p4 p5 p6 p7 p8 p9, body = [.Expr (.Call (.Attribute (.Call (.Name "super" p0) [] [] p1) "__init__" p2) [.Name f p3] [] p4) p5, .Assign [.Attribute (.Name "self" p6) f p7] (.Name f p8) p9] ∧ (p2.endLine == p4.line) = true)
    (S : NScope ["self", f, "__class__"] ["self", f] [("__class__" : Str)] scope) (hks : scope.names.lookup ("super" : Str) = some .globalImplicit) (hd : (f == ("__debug__" : Str)) = false) (hc : (f == ("__classdict__" : Str)) = false) :
    FnOk P w K mg base CX0 1 fI fd ["self", f] (sp_err C [f]) := by
  obtain ⟨ar, h1, h2⟩ := hpr
  obtain ⟨p0, p1, p2, p3, p4, p5, p6, p7, p8, p9, h3, h4⟩ := hbd
  exact err_fn1 F T hno h1 h2 h4 h3 S hks hd hc
theorem err_mk2 (F : SFun P K qual params body scope C fI fd) (T : OexC K C) (hno : PySem.W.findIn K (.ref C) f = some none) (hno2 : PySem.W.findIn K (.ref C) g = some none) (hpr : ∃ ar : Arg, (params.posonlyargs ++ params.args).head? = some ar ∧ ar.arg = "self")
    (hbd : ∃ p0 p1 p2 p3 q4 p4 p5 p6 p7 p8 p9 q0 q1 q2 q3, body = [.Expr (.Call (.Attribute (.Call (.Name "super" p0) [] [] p1) "__init__" p2) [.Name f p3, .Name g q4] [] p4) p5, .Assign [.Attribute (.Name "self" p6) f p7] (.Name f p8) p9, .Assign [.Attribute (.Name "self" q0) g q1] (.Name g q2) q3] ∧ (p2.endLine == p4.line) = true)
    (S : NScope ["self", f, g, "__class__"] ["self", f, g] [("__class__" : Str)] scope) (hks : scope.names.lookup ("super" : Str) = some .globalImplicit) (hd : (f == ("__debug__" : Str)) = false) (hc : (f == ("__classdict__" : Str)) = false)
    (hd2 : (g == ("__debug__" : Str)) = false) (hc2 : (g == ("__classdict__" : Str)) = false) : FnOk P w K mg base CX0 1 fI fd ["self", f, g] (sp_err C [f, g]) := by
  obtain ⟨ar, h1, h2⟩ := hpr
  obtain ⟨p0, p1, p2, p3, q4, p4, p5, p6, p7, p8, p9, q0, q1, q2, q3, h3, h4⟩ := hbd
  exact err_fn2 F T hno hno2 h1 h2 h4 h3 S hks hd hc hd2 hc2
/-- how its arguments are bound -/
theorem SFun.kb {ps ks : List Str} {n : Nat} {gg : List Value → List Value → List Value} {gV : List V → List V → List V} (F : SFun P K qual params body scope C fI fd)
    (h : ∀ (kV doc pm : Value) (an : Option Addr) (cdv ct : Value) (cc : Addr) (us ws : List Value), us.length = n → ws.length = ks.length → bindArgs (PySem.W.fnX "__init__" qual params body scope [("__class__", cc)] .none kV doc pm an cdv ct) ⟨us, ks.zip ws⟩ = pure (ps.zip (gg us ws)))
    (hr : ∀ {vs : List V} {us : List Value} {zs : List V} {ws : List Value}, Vals vs us → Vals zs ws → Vals (gV vs zs) (gg us ws)) : KBn K fd ps n ks gg gV := by
  obtain ⟨oc, od, kV, doc, pm, an, cda, cc, ct, osl, rfl, _⟩ := F.ex
  exact ⟨fun s us ws _ l1 l2 => .of_eq (h kV doc pm an _ ct cc us ws l1 l2), hr⟩
end
theorem vals_rev {vs : List V} {us : List Value} (r : Vals vs us) : Vals vs.reverse us.reverse := by
  induction r with
  | nil => exact .nil
  | cons h t ih =>
    rw [List.reverse_cons, List.reverse_cons]
    exact ih.append (.cons h .nil)
/-- C(), an error without an __init__ of its own -/
def tErr0 (C : Addr) : TE := fun σ H Q => ∀ a, H a = none → Q (.ref a) (upd H a (exo a C none))
theorem pe_err0 {X : Cx} {x : Str} {C : Addr} {p pos : Pos} {bmB : List Value} {B newId initId : String} (F : ExcBaseFacts B newId initId bmB) (q : PySem.W.excIn X.K C bmB newId = true) (gC : X.mg x = some (.ref C)) (kC : PySem.W.keepIn X.K (.ref C) = true) (hg : Gl X x)
    (hdb : (x == ("__debug__" : Str)) = false := by decide) : PE X (.Call (.Name x p) [] [] pos) (tErr0 C) := by
  refine ⟨fun pins s σ H Q I h => ?_⟩
  refine wpAny_Call_Name_kw (ld_glob I hg gC ?_ hdb)
  refine PySem.W.callWith_K0 I.kIn kC ?_
  obtain ⟨bm, N, nm, qn, bs, hdct, sn, sub, ab, col, dd, k0, k1, k2, k3, k5, mN, hC, hN, hni, T⟩ := exc_obj I.kIn q
  show wpAny _ _ (call (.ref C) []) _ _ _
  refine wpAny_call_exc_subT F T hC hN hni (fun h' a hm => ?_) (by show 0 ≤ sizeLine; exact Nat.zero_le _)
  have hn : H a = none := I.hok.gone hm.new
  obtain ⟨t, ht, _, _⟩ := hm.there
  exact ⟨.ref a, upd H a (exo a C none), I.laidN hm.keeps hm.new hn (exo_ok ht), rfl, h a hn⟩
end G
namespace G
open PySem L2
/-- ==, of scalars, or of nested data that is equal -/
def rSame (K : PySem.W.Frag) : R2 := fun x y H Q => rEq x y H Q ∨ rEqV K x y H Q
theorem op_same {X : Cx} (hu : X.A.units + 64 < cLine) : OpR X (compareOp .Eq) (rSame X.K) := by
  intro pins s σ H x y v u Q I rx ry h
  rcases h with h | h
  · exact op_eq pins s σ H x y v u Q I rx ry h
  · exact op_eqV hu pins s σ H x y v u Q I rx ry h
end G
namespace G
open PySem L2 RZ
def t_l_fresh (K : PySem.W.Frag) : TS :=
  (tRet (tLst (tCons (tSl (rSlL K) (tVar 0) tNoPart (tPart (tC (.int 63)))) (tCons (tC (.int 0)) (tCons (tC (.int 0)) (tCons (tC (.bl false)) tNil))))))
def t_l_fill (K : PySem.W.Frag) : TS :=
  (tSeq (tPar 2 3 (tCons (tOp (rIxL K) (tVar 0) (tC (.int 0))) (tCons (tOp (rIxL K) (tVar 0) (tC (.int 1))) tNil)))
  (tSeq (tAsg (tOp rAdd (tOp rMul (tC (.int 31)) (tVar 3)) (tC (.int 7))) (gName 1))
  (Evl.tCut (tIfS (tTest (tOp rGt (tCB (rLenS K) (tCons (tVar 2) tNil)) (tC (.int 0)))) (tAsg (tOp rAdd (tOp rMul (tC (.int 104729)) (tOp rDivW (tVar 3) (tCB (rLenS K) (tCons (tVar 2) tNil)))) (tOp (rIxL K) (tVar 2) (tOp rMod (tCB rInt1 (tCons (tVar 3) tNil)) (tCB (rLenS K) (tCons (tVar 2) tNil))))) (gName 1)) tNext)
  (tSeq (tAsg (tOp rAdd (tVar 3) (tC (.int 1))) (gSub (tVar 0) (tC (.int 1)) rSetL))
  (Evl.tCut (tAsg (tOrV (tOp rGe (tVar 3) (tCB (rLenS K) (tCons (tVar 2) tNil))) (tOp rLt (tVar 1) (tOp rPow (tC (.int 10)) (tC (.int 18))))) (gSub (tVar 0) (tC (.int 3)) rSetL))
  (tSeq (tAsg (tOp rSub (tVar 1) (tOp rPow (tC (.int 10)) (tC (.int 18)))) (gSub (tVar 0) (tC (.int 2)) rSetL))
  (tIfS (tB (tOp (rIxL K) (tVar 0) (tC (.int 3)))) (tSeq (tAsg (tC (.int 0)) (gSub (tVar 0) (tC (.int 2)) rSetL))
  (tFor (iEnumT K (tCons (tTup (tCons (tC (.int 2147483647)) (tCons (tC (.int 2147483629)) (tCons (tC (.int 2147483587)) (tCons (tC (.int 2147483579)) (tCons (tC (.int 2147483563)) tNil)))))) tNil)) (gTup K 2 (gCons (gName 4) (gCons (gName 5) gNil))) (tSeq (tAsg (tOp rMod (tCB rInt1 (tCons (tOp rMul (tOp rAdd (tOp rAdd (tVar 1) (tOp rMul (tOp rMul (tC (.int 10007)) (tVar 4)) (tVar 4))) (tOp rMul (tC (.int 101)) (tVar 4))) (tOp rAdd (tC (.int 48271)) (tOp rMul (tC (.int 2)) (tVar 4)))) tNil)) (tVar 5)) (gName 6))
  (tAsg (tOp rAdd (tOp rMul (tOp (rIxL K) (tVar 0) (tC (.int 2))) (tVar 5)) (tOp rMod (tCB rInt1 (tCons (tOp rPow (tVar 6) (tC (.int 5))) tNil)) (tVar 5))) (gSub (tVar 0) (tC (.int 2)) rSetL))))) tNext)))))))
def t_l_take (K : PySem.W.Frag) (sp_l_fill : Sp) : TS :=
  (tSeq (tAsg (tC (.int 0)) (gName 2))
  (tSeq (tWhile (tAnd (tTest (tOp rLt (tVar 2) (tC (.int 64)))) (tOr (tTest (tOp rEq (tOp (rIxL K) (tVar 0) (tC (.int 2))) (tC (.int 0)))) (tAnd (tB (tOp (rIxL K) (tVar 0) (tC (.int 3)))) (tTest (tOp rLt (tOp (rIxL K) (tVar 0) (tC (.int 2))) (tOp rMul (tVar 1) (tC (.int 4096)))))))) (tSeq (tDrop (tCall sp_l_fill [] E0 (tCons (tVar 0) tNil)))
  (tSeq (tAug 2 (tC (.int 1)) (ipI fun i j => i + j))
  (tIfS (tAnd (tB (tOp (rIxL K) (tVar 0) (tC (.int 3)))) (tTest (tOp rLt (tOp (rIxL K) (tVar 0) (tC (.int 2))) (tOp rMul (tVar 1) (tC (.int 4096)))))) (tAsg (tOp rAdd (tOp (rIxL K) (tVar 0) (tC (.int 2))) (tOp rMul (tOp rMul (tVar 1) (tC (.int 4096))) (tOp rAdd (tC (.int 1)) (tOp rMod (tCB rInt1 (tCons (tOp (rIxL K) (tVar 0) (tC (.int 2))) tNil)) (tC (.int 4093)))))) (gSub (tVar 0) (tC (.int 2)) rSetL)) tNext))))
  (tSeq (tAsg (tOp rMod (tCB rInt1 (tCons (tOp (rIxL K) (tVar 0) (tC (.int 2))) tNil)) (tVar 1)) (gName 3))
  (tSeq (tAsg (tOp rDivW (tOp (rIxL K) (tVar 0) (tC (.int 2))) (tVar 1)) (gSub (tVar 0) (tC (.int 2)) rSetL))
  (tRet (tVar 3))))))
def t_l_one (K : PySem.W.Frag) (sp_l_take : Sp) : TS :=
  (tRet (tOp (rIxL K) (tVar 1) (tCall sp_l_take [] E0 (tCons (tVar 0) (tCons (tCB (rLenS K) (tCons (tVar 1) tNil)) tNil)))))
def t_l_same (K : PySem.W.Frag) (sp_l_same : Sp) : TS :=
  (tSeq (tIfS (tB (tCB (rIsiT K) (tCons (tVar 1) (tCons (tTup (tCons (tC (.ty "list")) (tCons (tC (.ty "tuple")) tNil))) tNil)))) (tSeq (tIfS (tOr (tTest (tOp rNe (tCB (rIsi K) (tCons (tVar 0) (tCons (tC (.ty "list")) tNil))) (tCB (rIsi K) (tCons (tVar 1) (tCons (tC (.ty "list")) tNil))))) (tTest (tOp rNe (tCB (rIsi K) (tCons (tVar 0) (tCons (tC (.ty "tuple")) tNil))) (tCB (rIsi K) (tCons (tVar 1) (tCons (tC (.ty "tuple")) tNil)))))) (tRet (tC (.bl false))) tNext)
  (tRet (tAndV (tOp rEq (tCB (rLenS K) (tCons (tVar 0) tNil)) (tCB (rLenS K) (tCons (tVar 1) tNil))) (tCB (rAll K) (tCons (tLc (iZipA K (tCons (tVar 0) (tCons (tVar 1) tNil))) (gTup K 2 (gCons (gName 2) (gCons (gName 3) gNil))) tYes (tCall sp_l_same [] E0 (tCons (tVar 2) (tCons (tVar 3) tNil))) [2, 3]) tNil))))) tNext)
  (tSeq (tIfS (tB (tCB (rIsi K) (tCons (tVar 1) (tCons (tC (.ty "int")) tNil)))) (tRet (tAndV (tCB (rIsi K) (tCons (tVar 0) (tCons (tC (.ty "int")) tNil))) (tAndV (tOp rEq (tCB (rIsi K) (tCons (tVar 0) (tCons (tC (.ty "bool")) tNil))) (tCB (rIsi K) (tCons (tVar 1) (tCons (tC (.ty "bool")) tNil)))) (tOp (rSame K) (tVar 0) (tVar 1))))) tNext)
  (tRet (tAndV (tOp rIsB (tCB (rIsiT K) (tCons (tVar 0) (tCons (tTup (tCons (tC (.ty "bool")) (tCons (tC (.ty "int")) (tCons (tC (.ty "list")) (tCons (tC (.ty "tuple")) tNil))))) tNil))) (tC (.bl false))) (tOp (rSame K) (tVar 0) (tVar 1))))))
def t_l_any (K : PySem.W.Frag) (sp_l_take sp_l_one sp_l_any : Sp) : TS :=
  (Evl.tCut (tAsg (tCall sp_l_take [] E0 (tCons (tVar 0) (tCons (tIf (tTest (tOp rGt (tVar 1) (tC (.int 0)))) (tC (.int 8)) (tC (.int 5))) tNil))) (gName 2))
  (tSeq (tIfS (tTest (tOp rLt (tVar 2) (tC (.int 5)))) (tRet (tOp (rIxL K) (tLst (tCons (tCall sp_l_take [] E0 (tCons (tVar 0) (tCons (tOp rPow (tC (.int 10)) (tC (.int 9))) tNil))) (tCons (tC (.bl true)) (tCons (tC .non) (tCons (tCall sp_l_one [] E0 (tCons (tVar 0) (tCons (tLst (tCons (tC (.str "")) (tCons (tC (.str "a")) (tCons (tC (.str "account")) (tCons (tC (.str "A b")) tNil))))) tNil))) (tCons (tUn rNeg (tC (.int 1))) tNil)))))) (tVar 2))) tNext)
  (tSeq (tAsg (tLc (iRng1 (tCons (tCall sp_l_take [] E0 (tCons (tVar 0) (tCons (tC (.int 3)) tNil))) tNil)) (gName 4) tYes (tCall sp_l_any [] E0 (tCons (tVar 0) (tCons (tOp rSub (tVar 1) (tC (.int 1))) tNil))) [4]) (gName 3))
  (tRet (tOp (rIxL K) (tLst (tCons (tVar 3) (tCons (tCB (rTupS K) (tCons (tVar 3) tNil)) (tCons (tDisp [((tC (.str "inner")), (tVar 3))]) tNil)))) (tOp rSub (tVar 2) (tC (.int 5))))))))
def t_l_with_one (K : PySem.W.Frag) : TS :=
  (tSeq (tAsg (tLst (tCons (tErrK (He.ga K "BadField") ["index"] (tCons (tVar 0) tNil)) (tCons (tErrK (He.ga K "UnknownField") ["field"] (tCons (tVar 0) tNil)) (tCons (tErrK (He.ga K "BadWord") ["word"] (tCons (tVar 0) tNil)) (tCons (tErrK (He.ga K "BadKind") ["index"] (tCons (tVar 0) tNil)) (tCons (tErrK (He.ga K "UnknownKind") ["name"] (tCons (tVar 0) tNil)) tNil)))))) (gName 1))
  (tSeq (tAsg (tOp rCat (tVar 1) (tLst (tCons (tErrK (He.ga K "BadResource") ["resource"] (tCons (tVar 0) tNil)) (tCons (tErrK (He.ga K "BadCount") ["count"] (tCons (tVar 0) tNil)) (tCons (tErrK (He.ga K "BadTag") ["thing"] (tCons (tVar 0) tNil)) (tCons (tErrK (He.ga K "BadValue") ["value"] (tCons (tVar 0) tNil)) tNil)))))) (gName 1))
  (tSeq (tAsg (tOp rCat (tVar 1) (tLst (tCons (tErrK (He.ga K "Unlabelled") ["number"] (tCons (tVar 0) tNil)) (tCons (tErrK (He.ga K "BadFlag") ["flag"] (tCons (tVar 0) tNil)) (tCons (tErrK (He.ga K "BadCopies") ["index"] (tCons (tVar 0) tNil)) (tCons (tErrK (He.ga K "UnknownTemplate") ["name"] (tCons (tVar 0) tNil)) tNil)))))) (gName 1))
  (tRet (tOp rCat (tVar 1) (tLst (tCons (tErrK (He.ga K "BadVariable") ["variable"] (tCons (tVar 0) tNil)) (tCons (tErrK (He.ga K "BadStep") ["index"] (tCons (tVar 0) tNil)) (tCons (tErrK (He.ga K "BadText") ["line"] (tCons (tVar 0) tNil)) tNil)))))))))
def t_l_by_place (K : PySem.W.Frag) : TS :=
  (tSeq (tAsg (tLst (tCons (tErr (He.ga K "BadField") ["index"] (tCons (tVar 0) tNil)) (tCons (tErr (He.ga K "UnknownField") ["field"] (tCons (tVar 0) tNil)) (tCons (tErr (He.ga K "BadWord") ["word"] (tCons (tVar 0) tNil)) (tCons (tErr (He.ga K "BadKind") ["index"] (tCons (tVar 0) tNil)) (tCons (tErr (He.ga K "UnknownKind") ["name"] (tCons (tVar 0) tNil)) (tCons (tErr (He.ga K "BadResource") ["resource"] (tCons (tVar 0) tNil)) (tCons (tErr (He.ga K "BadCount") ["count"] (tCons (tVar 0) tNil)) tNil)))))))) (gName 1))
  (tSeq (tAsg (tOp rCat (tVar 1) (tLst (tCons (tErr (He.ga K "BadTag") ["thing"] (tCons (tVar 0) tNil)) (tCons (tErr (He.ga K "BadValue") ["value"] (tCons (tVar 0) tNil)) (tCons (tErr (He.ga K "Unlabelled") ["number"] (tCons (tVar 0) tNil)) (tCons (tErr (He.ga K "BadFlag") ["flag"] (tCons (tVar 0) tNil)) (tCons (tErr (He.ga K "BadCopies") ["index"] (tCons (tVar 0) tNil)) (tCons (tErr (He.ga K "UnknownTemplate") ["name"] (tCons (tVar 0) tNil)) tNil)))))))) (gName 1))
  (tRet (tOp rCat (tVar 1) (tLst (tCons (tErr (He.ga K "BadVariable") ["variable"] (tCons (tVar 0) tNil)) (tCons (tErr (He.ga K "BadStep") ["index"] (tCons (tVar 0) tNil)) (tCons (tErr (He.ga K "BadText") ["line"] (tCons (tVar 0) tNil)) tNil))))))))
def t_l_held (K : PySem.W.Frag) : TS :=
  (tSeq (tAsg (tLst (tCons (tErrF K "index" (tOp (rIxL K) (tVar 0) (tC (.int 0)))) (tCons (tErrF K "field" (tOp (rIxL K) (tVar 0) (tC (.int 1)))) (tCons (tErrF K "word" (tOp (rIxL K) (tVar 0) (tC (.int 2)))) (tCons (tErrF K "index" (tOp (rIxL K) (tVar 0) (tC (.int 3)))) (tCons (tErrF K "name" (tOp (rIxL K) (tVar 0) (tC (.int 4)))) (tCons (tErrF K "resource" (tOp (rIxL K) (tVar 0) (tC (.int 5)))) tNil))))))) (gName 1))
  (tSeq (tAsg (tOp rCat (tVar 1) (tLst (tCons (tErrF K "count" (tOp (rIxL K) (tVar 0) (tC (.int 6)))) (tCons (tErrF K "thing" (tOp (rIxL K) (tVar 0) (tC (.int 7)))) (tCons (tErrF K "value" (tOp (rIxL K) (tVar 0) (tC (.int 8)))) (tCons (tErrF K "number" (tOp (rIxL K) (tVar 0) (tC (.int 9)))) (tCons (tErrF K "flag" (tOp (rIxL K) (tVar 0) (tC (.int 10)))) (tCons (tErrF K "index" (tOp (rIxL K) (tVar 0) (tC (.int 11)))) tNil)))))))) (gName 1))
  (tRet (tOp rCat (tVar 1) (tLst (tCons (tErrF K "name" (tOp (rIxL K) (tVar 0) (tC (.int 12)))) (tCons (tErrF K "variable" (tOp (rIxL K) (tVar 0) (tC (.int 13)))) (tCons (tErrF K "index" (tOp (rIxL K) (tVar 0) (tC (.int 14)))) (tCons (tErrF K "line" (tOp (rIxL K) (tVar 0) (tC (.int 15)))) tNil)))))))))
def t_l_classes (K : PySem.W.Frag) : TS :=
  (tSeq (tAsg (tLst (tCons (tCB (rIsErr K) (tCons (tVar 0) (tCons (tC (.ref (He.ga K "BadField"))) tNil))) (tCons (tCB (rIsErr K) (tCons (tVar 0) (tCons (tC (.ref (He.ga K "UnknownField"))) tNil))) (tCons (tCB (rIsErr K) (tCons (tVar 0) (tCons (tC (.ref (He.ga K "BadWord"))) tNil))) (tCons (tCB (rIsErr K) (tCons (tVar 0) (tCons (tC (.ref (He.ga K "BadKind"))) tNil))) tNil))))) (gName 1))
  (tSeq (tAsg (tOp rCat (tVar 1) (tLst (tCons (tCB (rIsErr K) (tCons (tVar 0) (tCons (tC (.ref (He.ga K "UnknownKind"))) tNil))) (tCons (tCB (rIsErr K) (tCons (tVar 0) (tCons (tC (.ref (He.ga K "BadResource"))) tNil))) (tCons (tCB (rIsErr K) (tCons (tVar 0) (tCons (tC (.ref (He.ga K "BadCount"))) tNil))) tNil))))) (gName 1))
  (tSeq (tAsg (tOp rCat (tVar 1) (tLst (tCons (tCB (rIsErr K) (tCons (tVar 0) (tCons (tC (.ref (He.ga K "BadTag"))) tNil))) (tCons (tCB (rIsErr K) (tCons (tVar 0) (tCons (tC (.ref (He.ga K "BadValue"))) tNil))) (tCons (tCB (rIsErr K) (tCons (tVar 0) (tCons (tC (.ref (He.ga K "Unlabelled"))) tNil))) tNil))))) (gName 1))
  (tSeq (tAsg (tOp rCat (tVar 1) (tLst (tCons (tCB (rIsErr K) (tCons (tVar 0) (tCons (tC (.ref (He.ga K "BadFlag"))) tNil))) (tCons (tCB (rIsErr K) (tCons (tVar 0) (tCons (tC (.ref (He.ga K "BadCopies"))) tNil))) (tCons (tCB (rIsErr K) (tCons (tVar 0) (tCons (tC (.ref (He.ga K "UnknownTemplate"))) tNil))) tNil))))) (gName 1))
  (tSeq (tAsg (tOp rCat (tVar 1) (tLst (tCons (tCB (rIsErr K) (tCons (tVar 0) (tCons (tC (.ref (He.ga K "BadVariable"))) tNil))) (tCons (tCB (rIsErr K) (tCons (tVar 0) (tCons (tC (.ref (He.ga K "BadStep"))) tNil))) (tCons (tCB (rIsErr K) (tCons (tVar 0) (tCons (tC (.ref (He.ga K "BadText"))) tNil))) tNil))))) (gName 1))
  (tSeq (tAsg (tOp rCat (tVar 1) (tLst (tCons (tCB (rIsErr K) (tCons (tVar 0) (tCons (tC (.ref (He.ga K "NoWrite"))) tNil))) (tCons (tCB (rIsErr K) (tCons (tVar 0) (tCons (tC (.ref (He.ga K "Rejected"))) tNil))) (tCons (tCB (rIsErr K) (tCons (tVar 0) (tCons (tC (.ref (He.ga K "Offline"))) tNil))) tNil))))) (gName 1))
  (tSeq (tAsg (tOp rCat (tVar 1) (tLst (tCons (tCB (rIsErr K) (tCons (tVar 0) (tCons (tC (.ref (He.ga K "BadTemplate"))) tNil))) (tCons (tCB (rIsErr K) (tCons (tVar 0) (tCons (tC (.ref (He.ga K "BadValues"))) tNil))) (tCons (tCB (rIsErr K) (tCons (tVar 0) (tCons (tC (.ref (He.ga K "BadCatalog"))) tNil))) tNil))))) (gName 1))
  (tRet (tOp rCat (tVar 1) (tLst (tCons (tCB (rIsErr K) (tCons (tVar 0) (tCons (tC (.ref (He.ga K "BadCover"))) tNil))) tNil)))))))))))
def t_law (K : PySem.W.Frag) (sp_l_fresh sp_l_any sp_l_with_one sp_l_by_place sp_l_held sp_l_same sp_l_classes : Sp) : TS :=
  (tSeq (tAsg (tCall sp_l_fresh [] E0 (tCons (tVar 0) tNil)) (gName 1))
  (tSeq (tFor (iRng1 (tCons (tC (.int 3)) tNil)) (gName 2) (tSeq (tAsg (tTup (tCons (tCall sp_l_any [] E0 (tCons (tVar 1) (tCons (tC (.int 2)) tNil))) (tCons (tCall sp_l_any [] E0 (tCons (tVar 1) (tCons (tC (.int 2)) tNil))) tNil))) (gTup K 2 (gCons (gName 11) (gCons (gName 12) gNil))))
  (tSeq (tAsg (tLst (tCons (tCall sp_l_with_one [] E0 (tCons (tVar 11) tNil)) (tCons (tCall sp_l_by_place [] E0 (tCons (tVar 11) tNil)) tNil))) (gName 3))
  (tSeq (tAsg (tLst (tCons (tErr (He.ga K "NoWrite") ["resource", "field"] (tCons (tVar 11) (tCons (tVar 12) tNil))) (tCons (tErr (He.ga K "Rejected") ["number", "stale"] (tCons (tVar 11) (tCons (tVar 12) tNil))) (tCons (tErr (He.ga K "BadTemplate") ["index", "reason"] (tCons (tVar 11) (tCons (tVar 12) tNil))) (tCons (tErr (He.ga K "BadCatalog") ["index", "reason"] (tCons (tVar 11) (tCons (tVar 12) tNil))) tNil))))) (gName 4))
  (tSeq (tAsg (tLst (tCons (tErrK (He.ga K "NoWrite") ["resource", "field"] (tCons (tVar 12) (tCons (tVar 11) tNil))) (tCons (tErrK (He.ga K "Rejected") ["number", "stale"] (tCons (tVar 12) (tCons (tVar 11) tNil))) (tCons (tErrK (He.ga K "BadTemplate") ["index", "reason"] (tCons (tVar 12) (tCons (tVar 11) tNil))) tNil)))) (gName 5))
  (tSeq (tDrop (tBM K "list" rAppend (tVar 5) (tCons (tErrK (He.ga K "BadCatalog") ["index", "reason"] (tCons (tVar 12) (tCons (tVar 11) tNil))) tNil)))
  (tSeq (tAsg (tLst (tCons (tErr0 (He.ga K "Offline")) (tCons (tErr0 (He.ga K "BadValues")) (tCons (tErr0 (He.ga K "BadCover")) tNil)))) (gName 6))
  (tSeq (tFor (iList K (tLst (tCons (tVar 11) (tCons (tVar 12) tNil)))) (gName 7) (tIfS (tB (tCB (rIsi K) (tCons (tVar 7) (tCons (tC (.ty "list")) tNil)))) (tDrop (tBM K "list" rAppend (tVar 7) (tCons (tC (.str "more")) tNil))) tNext))
  (tSeq (tFor (iList K (tVar 3)) (gName 8) (tIfS (tNot (tB (tCB (rAll K) (tCons (tLc (iList K (tCall sp_l_held [] E0 (tCons (tVar 8) tNil))) (gName 17) tYes (tCall sp_l_same [] E0 (tCons (tVar 17) (tCons (tVar 11) tNil))) [17]) tNil)))) (tRet (tC (.bl false))) tNext))
  (tSeq (tFor (iList K (tLst (tCons (tVar 4) (tCons (tVar 5) tNil)))) (gName 9) (tSeq (tAsg (tLst (tCons (tTup (tCons (tErrF K "resource" (tOp (rIxL K) (tVar 9) (tC (.int 0)))) (tCons (tErrF K "field" (tOp (rIxL K) (tVar 9) (tC (.int 0)))) tNil))) (tCons (tTup (tCons (tErrF K "number" (tOp (rIxL K) (tVar 9) (tC (.int 1)))) (tCons (tErrF K "stale" (tOp (rIxL K) (tVar 9) (tC (.int 1)))) tNil))) tNil))) (gName 13))
  (tSeq (tAsg (tOp rCat (tVar 13) (tLst (tCons (tTup (tCons (tErrF K "index" (tOp (rIxL K) (tVar 9) (tC (.int 2)))) (tCons (tErrF K "reason" (tOp (rIxL K) (tVar 9) (tC (.int 2)))) tNil))) (tCons (tTup (tCons (tErrF K "index" (tOp (rIxL K) (tVar 9) (tC (.int 3)))) (tCons (tErrF K "reason" (tOp (rIxL K) (tVar 9) (tC (.int 3)))) tNil))) tNil)))) (gName 13))
  (tIfS (tNot (tB (tCB (rAll K) (tCons (tLc (iList K (tVar 13)) (gName 18) tYes (tCall sp_l_same [] E0 (tCons (tVar 18) (tCons (tTup (tCons (tVar 11) (tCons (tVar 12) tNil))) tNil))) [18]) tNil)))) (tRet (tC (.bl false))) tNext))))
  (tSeq (tAsg (tOp rCat (tOp (rIxL K) (tVar 3) (tC (.int 0))) (tLst (tCons (tOp (rIxL K) (tVar 4) (tC (.int 0))) (tCons (tOp (rIxL K) (tVar 4) (tC (.int 1))) (tCons (tOp (rIxL K) (tVar 6) (tC (.int 0))) (tCons (tOp (rIxL K) (tVar 4) (tC (.int 2))) (tCons (tOp (rIxL K) (tVar 6) (tC (.int 1))) (tCons (tOp (rIxL K) (tVar 4) (tC (.int 3))) (tCons (tOp (rIxL K) (tVar 6) (tC (.int 2))) tNil))))))))) (gName 8))
  (tSeq (tFor (iEnum K (tCons (tVar 8) tNil)) (gTup K 2 (gCons (gName 14) (gCons (gName 15) gNil))) (tSeq (tIfS (tOr (tNot (tB (tCB (rIsErr K) (tCons (tVar 15) (tCons (tC (.ref (He.ga K "SeenError"))) tNil))))) (tNot (tB (tCB (rIsErr K) (tCons (tVar 15) (tCons (tC (.ty "ValueError")) tNil)))))) (tRet (tC (.bl false))) tNext)
  (tIfS (tTest (tOp (rNeD K) (tCall sp_l_classes [] E0 (tCons (tVar 15) tNil)) (tLc (iRng1 (tCons (tCB (rLenS K) (tCons (tVar 8) tNil)) tNil)) (gName 16) tYes (tOp rEq (tVar 16) (tVar 14)) [16]))) (tRet (tC (.bl false))) tNext)))
  (tSeq (tAsg (tErr0 (He.ga K "SeenError")) (gName 10))
  (tIfS (tOr (tB (tCB (rAny K) (tCons (tCall sp_l_classes [] E0 (tCons (tVar 10) tNil)) tNil))) (tNot (tB (tCB (rIsErr K) (tCons (tVar 10) (tCons (tC (.ty "ValueError")) tNil)))))) (tRet (tC (.bl false))) tNext))))))))))))))
  (tRet (tC (.bl true)))))
end G
namespace G
open PySem L2
local macro_rules | `(tactic| walk_at "wI") => `(tactic| first | exact mulL (by decide) | exact mulR (by decide) | exact powc (by decide) | assumption)
local macro_rules | `(tactic| walk_at "w1") => `(tactic| with_reducible (first | refine w_seq ?_ | refine w_asg ?_ | refine w_op ?_ | refine w_c ?_ | refine w_gname ?_ | refine w_cons ?_ | refine w_nil ?_ | refine w_cb ?_ | refine w_if ?_ | refine w_test ?_ | refine w_B ?_ | refine w_bl ?_ | refine w_ret ?_ | refine w_drop ?_ | refine w_gsub ?_ | refine w_I0 ?_ | refine w_int ?_ | refine w_and ?_ | refine w_or ?_ | refine w_not ?_ | refine w_andV ?_ | refine w_orV ?_ | refine w_notV ?_ | refine w_ifE ?_ | refine w_un ?_ | refine w_neg ?_ | refine w_call ?_ | refine w_lst ?_ | refine w_tup ?_ | refine w_ipI ?_ | refine w_par ?_ | refine w_pair ?_ | refine w_retN ?_ | refine w_next ?_ | refine w_bm ?_ | refine w_for ?_ | refine w_iL ?_ | refine w_iT ?_ | refine w_iS ?_ | refine w_itS ?_ | refine w_iR1 ?_ | refine w_iE ?_ | refine w_iET ?_ | refine w_iZ ?_ | refine w_gcons ?_ | refine w_gnil ?_ | refine w_lc ?_))
local macro_rules | `(tactic| walk_at "w2") => `(tactic| first | walk_at "w1" | refine w_var (by rfl) ?_ | refine w_aug (by rfl) ?_ | refine w_eq (by rfl) ?_ | refine w_ne (by rfl) ?_ | refine w_ixL (by assumption) (by rfl) ?_ | refine w_lenL (by assumption) ?_ | refine w_I (by walk_at "wI") ?_ | refine w_gtup (by assumption) (by rfl) ?_ | refine w_tyL (by assumption) ?_)
local macro_rules | `(tactic| walk_at "w") => `(tactic| repeat walk_at "w2")
theorem w_st {A : Amb} {H : Hp} {P : Hp → Prop} {n l : Int} {b : Bool} (i : I A H) (k : ∀ H1, R A H H1 → I A H1 → H1 A.s = some (.lst [.ref A.c, .int n, .int l, .bl b]) → H1 A.c = some (.lst (A.ns.map V.int)) → P H1) : P (upd H A.s (.lst [.ref A.c, .int n, .int l, .bl b])) := by
  have h1 : H A.c = some (.lst (A.ns.map V.int)) := i.ds.1
  have h2 : (upd H A.s (.lst [.ref A.c, .int n, .int l, .bl b])) A.c = some (.lst (A.ns.map V.int)) := by
    rw [upd_ne i.cs]
    exact h1
  have r : R A H (upd H A.s (.lst [.ref A.c, .int n, .int l, .bl b])) := ⟨fun a o ha e => by
    rw [upd_ne ha]
    exact e, h2, n, l, b, upd_same⟩
  exact k _ r (i.run r) upd_same h2
theorem at_mod {ns : List Int} {z : Int} (h : 0 < ns.length) : ∃ v, atI (ns.map V.int) (z % (ns.length : Int)) = some (V.int v) := by
  have h0 : (0 : Int) < ns.length := by omega
  have h1 := Int.emod_nonneg z (Int.ne_of_gt h0)
  have h2 := Int.emod_lt_of_pos z h0
  obtain ⟨j, hj⟩ := Int.eq_ofNat_of_zero_le h1
  have h3 : j < ns.length := by omega
  refine ⟨ns[j], at_of hj ?_⟩
  rw [List.getElem?_map, List.getElem?_eq_getElem h3] <;> rfl
theorem div_small {i : Int} {n : Nat} (h : 0 < n) (h1 : n ≤ 1000) : CDivW i (n : Int) := wide_div (b := 10) (by omega) (by omega) (by decide) (by decide)
def sp_l_fill : Sp := fun vs H Q _ => ∃ A : Amb, vs = [.ref A.s] ∧ I A H ∧ ∀ H', R A H H' → Q .non H'
theorem rd_l_fill {K : PySem.W.Frag} {vs : List V} {H : Hp} {Q : VK} {E : XK} (h : sp_l_fill vs H Q E) : t_l_fill K (fin Q) (start ["_law_state", "_law_seed", "_law_cells", "_law_nth", "_law_k", "_law_prime", "_law_far"] vs) H := by
  obtain ⟨A, rfl, i, k⟩ := h
  have hl := i.nl
  obtain ⟨hc, n, l, b, hs⟩ := i.ds
  show t_l_fill K (fin Q) [some (.ref A.s), none, none, none, none, none, none] H
  unfold t_l_fill
  walk_at "w"
  refine w_cut (Mid := fun σ' H' => ∃ seed, σ' = [some (.ref A.s), some (.int seed), some (.ref A.c), some (.int n), none, none, none] ∧ H' = H) ?_ ?_
  · walk_at "w"
    refine w_ite (fun h0 => ?_) (fun h0 => ?_)
    · rw [List.length_map] at h0
      walk_at "w"
      rw [List.length_map]
      have h1 : 0 < A.ns.length := by omega
      obtain ⟨v, hv⟩ := at_mod (z := n) h1
      refine w_I (div_small h1 hl) ?_
      walk_at "w"
      rw [List.length_map]
      refine w_I (C := fun _ j => 0 < j) h0 ?_
      refine w_ixL hc hv ?_
      walk_at "w"
      exact ⟨_, rfl, rfl⟩
    · walk_at "w"
      exact ⟨_, rfl, rfl⟩
  · rintro σ' H' ⟨seed, rfl, rfl⟩
    walk_at "w"
    refine w_setL hs (by rfl) (w_st i fun H1 r1 i1 hs1 hc1 => ?_)
    dsimp only
    refine w_cut (Mid := fun σ2 H2 => ∃ b', σ2 = [some (.ref A.s), some (.int seed), some (.ref A.c), some (.int n), none, none, none] ∧ R A H' H2 ∧ I A H2 ∧ H2 A.s = some (.lst [.ref A.c, .int (n + 1), .int l, .bl b']) ∧ H2 A.c = some (.lst (A.ns.map V.int))) ?_ ?_
    · walk_at "w"
      refine w_ite (fun h0 => ?_) (fun h0 => ?_)
      · walk_at "w"
        refine w_setL hs1 (by rfl) (w_st i1 fun H2 r2 i2 hs2 hc2 => ?_)
        exact ⟨_, rfl, r1.trans r2, i2, hs2, hc2⟩
      · walk_at "w"
        refine w_setL hs1 (by rfl) (w_st i1 fun H2 r2 i2 hs2 hc2 => ?_)
        exact ⟨_, rfl, r1.trans r2, i2, hs2, hc2⟩
    · rintro σ2 H2 ⟨b', rfl, r2, i2, hs2, hc2⟩
      walk_at "w"
      refine w_setL hs2 (by rfl) (w_st i2 fun H3 r3 i3 hs3 hc3 => ?_)
      dsimp only
      have r13 := r2.trans r3
      walk_at "w"
      refine w_itb (fun h0 => ?_) (fun h0 => ?_)
      · walk_at "w"
        refine w_setL hs3 (by rfl) (w_st i3 fun H4 r4 i4 hs4 hc4 => ?_)
        dsimp only
        walk_at "w"
        refine w_newT (show 5 ≤ 100000 by decide) fun p hp => ?_
        walk_at "w"
        refine w_itET (SqT.of upd_same) ?_
        have e5 := Ext.new (o := .tup [.int 2147483647, .int 2147483629, .int 2147483587, .int 2147483579, .int 2147483563]) hp
        refine lp_of (walk_enumT (xs := [.int 2147483647, .int 2147483629, .int 2147483587, .int 2147483579, .int 2147483563])) (fun j σ H => ∃ l5 v4 v5 v6, σ = [some (.ref A.s), some (.int seed), some (.ref A.c), some (.int n), v4, v5, v6] ∧ R A H' H ∧ I A H ∧ H A.s = some (.lst [.ref A.c, .int (n + 1), .int l5, .bl b']) ∧ H p = some (.tup [.int 2147483647, .int 2147483629, .int 2147483587, .int 2147483579, .int 2147483563]))
          ⟨_, _, _, _, rfl, (r13.trans r4).trans (R.ext i4 e5), i4.run (R.ext i4 e5), e5 _ _ hs4, upd_same⟩ (fun j σ H _ q => ?_) ?_ ?_
        · obtain ⟨_, _, _, _, _, _, _, _, q⟩ := q
          exact SqT.of q
        · rintro j x σ H H6 hj ⟨l5, v4, v5, v6, rfl, r5, i5, hs5, hp5⟩ ⟨T, y, rfl, hT, rfl, hy⟩
          obtain ⟨pr, rfl, hpr⟩ : ∃ pr : Int, y = .int pr ∧ 0 < pr ∧ pr < 2147483648 := by
            match j, hj, hy with
            | 0, _, hy => exact ⟨_, (Option.some.inj hy).symm, by decide, by decide⟩
            | 1, _, hy => exact ⟨_, (Option.some.inj hy).symm, by decide, by decide⟩
            | 2, _, hy => exact ⟨_, (Option.some.inj hy).symm, by decide, by decide⟩
            | 3, _, hy => exact ⟨_, (Option.some.inj hy).symm, by decide, by decide⟩
            | 4, _, hy => exact ⟨_, (Option.some.inj hy).symm, by decide, by decide⟩
            | j + 5, hj, _ => exact absurd hj (by simp)
          have hj5 : (j : Int) < 5 := by
            have : j < 5 := hj
            omega
          have e6 := Ext.new (o := .tup [.int (j : Nat), .int pr]) hT
          have r6 := R.ext i5 e6
          have i6 := i5.run r6
          have hs6 := e6 _ _ hs5
          have m1 : CMul (10007 * (j : Int)) (j : Int) := mulR ⟨by omega, by omega⟩
          have m2 : CMul (seed + 10007 * (j : Int) * (j : Int) + 101 * (j : Int)) (48271 + 2 * (j : Int)) := mulR ⟨by omega, by omega⟩
          have m3 : CMul l5 pr := mulR ⟨by omega, by omega⟩
          have m0 := hpr.1
          have m4 : CPow ((seed + 10007 * (j : Int) * (j : Int) + 101 * (j : Int)) * (48271 + 2 * (j : Int)) % pr) 5 := by
            have f0 := Int.emod_nonneg ((seed + 10007 * (j : Int) * (j : Int) + 101 * (j : Int)) * (48271 + 2 * (j : Int))) (Int.ne_of_gt m0)
            have f1 := Int.emod_lt_of_pos ((seed + 10007 * (j : Int) * (j : Int) + 101 * (j : Int)) * (48271 + 2 * (j : Int))) m0
            exact powc ⟨by decide, by decide, by omega⟩
          refine w_gtup upd_same rfl ?_
          walk_at "w"
          refine w_setL hs6 (by rfl) (w_st i6 fun H7 r7 i7 hs7 hc7 => ?_)
          dsimp only
          have np : p ≠ A.s := fun z => by
            rw [z, hs5] at hp5
            cases hp5
          exact ⟨_, _, _, _, rfl, (r5.trans r6).trans r7, i7, hs7, r7.keep _ _ np (e6 _ _ hp5)⟩
        · rintro σ H ⟨l5, v4, v5, v6, rfl, r5, i5, hs5, hp5⟩
          exact k _ r5
      · exact k _ r13
def sp_l_take : Sp := fun vs H Q _ => ∃ (A : Amb) (many : Int), vs = [.ref A.s, .int many] ∧ I A H ∧ 0 < many ∧ many < 2 ^ 200 ∧ ∀ n H', 0 ≤ n → n < many → R A H H' → Q (.int n) H'
theorem rd_l_take {K : PySem.W.Frag} {vs : List V} {H : Hp} {Q : VK} {E : XK} (h : sp_l_take vs H Q E) : t_l_take K sp_l_fill (fin Q) (start ["_law_state", "_law_many", "_law_laps", "_law_digit"] vs) H := by
  obtain ⟨A, many, rfl, i, h0, h1, k⟩ := h
  show t_l_take K sp_l_fill (fin Q) [some (.ref A.s), some (.int many), none, none] H
  unfold t_l_take
  walk_at "w"
  refine w_while (fun m σ' H' => ∃ laps : Int, m = (64 - laps).toNat ∧ 0 ≤ laps ∧ laps ≤ 64 ∧ σ' = [some (.ref A.s), some (.int many), some (.int laps), none] ∧ R A H H' ∧ I A H') 64 ⟨0, rfl, by decide, by decide, rfl, R.refl i, i⟩ ?_
  rintro m σ' H' ⟨laps, rfl, l0, l1, rfl, r, i1⟩
  obtain ⟨hc, n, l, b, hs⟩ := i1.ds
  have m1 : CMul many 4096 := mulR (by decide)
  refine w_pt (fun c => c = true → laps < 64) (fun QT kk => ?_) (fun c hlt => ?_)
  · walk_at "w"
    refine w_ite (fun hlt => ?_) (fun _ => kk _ (fun z => nomatch z))
    walk_at "w"
    refine w_ite (fun _ => kk _ fun _ => hlt) (fun _ => ?_)
    walk_at "w"
    refine w_itb (fun _ => ?_) (fun _ => kk _ (fun z => nomatch z))
    walk_at "w"
    exact kk _ fun _ => hlt
  refine w_itb (fun hc1 => ?_) (fun _ => ?_)
  · have hlt := hlt hc1
    refine w_turn ?_
    walk_at "w"
    refine ⟨A, rfl, i1, fun H2 r2 => ?_⟩
    have i2 := i1.run r2
    obtain ⟨hc2, n2, l2, b2, hs2⟩ := i2.ds
    walk_at "w"
    have fin1 : ∀ H3, R A H2 H3 → ∃ m', m' < (64 - laps).toNat ∧ ∃ lp : Int, m' = (64 - lp).toNat ∧ 0 ≤ lp ∧ lp ≤ 64 ∧ [some (V.ref A.s), some (.int many), some (.int (laps + 1)), none] = [some (.ref A.s), some (.int many), some (.int lp), none] ∧ R A H H3 ∧ I A H3 := fun H3 r3 =>
      ⟨_, by omega, laps + 1, rfl, by omega, by omega, rfl, (r.trans r2).trans r3, i2.run r3⟩
    have md : (0 : Int) < 4093 := by decide
    have m3 : CMul (many * 4096) (1 + l2 % 4093) := mulR ⟨by omega, by omega⟩
    refine w_itb (fun hb => ?_) (fun hb => ?_)
    · walk_at "w"
      refine w_ite (fun _ => ?_) (fun _ => ?_)
      · walk_at "w"
        refine w_setL hs2 (by rfl) (w_st i2 fun H3 r3 i3 hs3 hc3 => ?_)
        exact fin1 _ r3
      · walk_at "w"
        exact fin1 _ (R.refl i2)
    · walk_at "w"
      exact fin1 _ (R.refl i2)
  · walk_at "w"
    have hd : CDivW l many := wide_div (b := 200) h0 (by omega) (by decide) (by decide)
    walk_at "w"
    refine w_setL hs (by rfl) (w_st i1 fun H2 r2 i2 hs2 hc2 => ?_)
    dsimp only
    walk_at "w"
    exact k _ _ (Int.emod_nonneg _ (by omega)) (Int.emod_lt_of_pos _ h0) (r.trans r2)
end G
namespace G
open PySem L2 RZ
local macro_rules | `(tactic| walk_at "wI") => `(tactic| first | exact mulL (by decide) | exact mulR (by decide) | exact powc (by decide) | assumption)
local macro_rules | `(tactic| walk_at "w1") => `(tactic| with_reducible (first | refine w_seq ?_ | refine w_asg ?_ | refine w_op ?_ | refine w_c ?_ | refine w_gname ?_ | refine w_cons ?_ | refine w_nil ?_ | refine w_cb ?_ | refine w_if ?_ | refine w_test ?_ | refine w_B ?_ | refine w_bl ?_ | refine w_ret ?_ | refine w_drop ?_ | refine w_gsub ?_ | refine w_I0 ?_ | refine w_int ?_ | refine w_and ?_ | refine w_or ?_ | refine w_not ?_ | refine w_andV ?_ | refine w_orV ?_ | refine w_notV ?_ | refine w_ifE ?_ | refine w_un ?_ | refine w_neg ?_ | refine w_call ?_ | refine w_lst ?_ | refine w_tup ?_ | refine w_ipI ?_ | refine w_par ?_ | refine w_pair ?_ | refine w_retN ?_ | refine w_next ?_ | refine w_bm ?_ | refine w_for ?_ | refine w_iL ?_ | refine w_iT ?_ | refine w_iS ?_ | refine w_itS ?_ | refine w_iR1 ?_ | refine w_iE ?_ | refine w_iET ?_ | refine w_iZ ?_ | refine w_gcons ?_ | refine w_gnil ?_ | refine w_lc ?_))
local macro_rules | `(tactic| walk_at "w2") => `(tactic| first | walk_at "w1" | refine w_var (by rfl) ?_ | refine w_aug (by rfl) ?_ | refine w_eq (by rfl) ?_ | refine w_ne (by rfl) ?_ | refine w_ixL (by assumption) (by rfl) ?_ | refine w_lenL (by assumption) ?_ | refine w_I (by walk_at "wI") ?_ | refine w_gtup (by assumption) (by rfl) ?_ | refine w_tyL (by assumption) ?_)
local macro_rules | `(tactic| walk_at "w") => `(tactic| repeat walk_at "w2")
theorem w_sl {K : PySem.W.Frag} {te : TE} {tl th : TO} {σ : L2.St} {H : Hp} {Q : VK} {r : V → Option Int → Option Int → Hp → VK → Prop} (k : te σ H fun x H1 => tl σ H1 fun l H2 => th σ H2 fun u H3 => r x l u H3 Q) : tSl r te tl th σ H Q := k
theorem w_nopart {σ : L2.St} {H : Hp} {QO : Option Int → Hp → Prop} (k : QO none H) : tNoPart σ H QO := k
theorem w_part {te : TE} {σ : L2.St} {H : Hp} {QO : Option Int → Hp → Prop} (k : te σ H fun x H1 => ∃ i, x = .int i ∧ QO (some i) H1) : tPart te σ H QO := k
theorem w_pint {i : Int} {P : Int → Prop} (k : P i) : ∃ j, V.int i = .int j ∧ P j := ⟨i, rfl, k⟩
def sp_l_fresh (K : PySem.W.Frag) : Sp := fun vs H Q _ => ∃ (a : Addr) (ns : List Int), vs = [.ref a] ∧ SqL K H a (ns.map V.int) ∧ ns.length ≤ 63 ∧ ∀ A H', A.M = [] → Ext H H' → I A H' → Q (.ref A.s) H'
theorem cut_take {xs : List V} {n : Nat} (h : xs.length ≤ n) : cutV xs none (some (n : Int)) = xs := by
  have e : HT.sIx xs.length xs.length (some (n : Int)) = xs.length := by
    rw [HT.sIx_nat]
    omega
  have e0 : HT.sIx xs.length 0 none = 0 := rfl
  unfold cutV
  rw [e, e0]
  simp
theorem rd_l_fresh {K : PySem.W.Frag} {vs : List V} {H : Hp} {Q : VK} {E : XK} (h : sp_l_fresh K vs H Q E) : t_l_fresh K (fin Q) (start ["_law_script"] vs) H := by
  obtain ⟨a, ns, rfl, hs, hl, k⟩ := h
  show t_l_fresh K (fin Q) [some (.ref a)] H
  unfold t_l_fresh
  walk_at "w"
  refine w_nopart (w_part ?_)
  walk_at "w"
  refine w_pint ?_
  refine ⟨a, _, rfl, hs, fun c hc => ?_⟩
  have ec : cutV (ns.map V.int) none (some 63) = ns.map V.int := cut_take (n := 63) (by rw [List.length_map]; exact hl)
  rw [ec]
  walk_at "w"
  refine w_newL (show 4 ≤ 100000 by decide) fun p hp => ?_
  have e1 := Ext.new (o := .lst (ns.map V.int)) hc
  have e2 := Ext.new (o := .lst [.ref c, .int 0, .int 0, .bl false]) hp
  have hcp : c ≠ p := fun z => by
    rw [← z, upd_same] at hp
    cases hp
  have i : I ⟨p, c, ns, []⟩ (upd (upd H c (.lst (ns.map V.int))) p (.lst [.ref c, .int 0, .int 0, .bl false])) :=
    ⟨⟨e2 _ _ upd_same, 0, 0, false, upd_same⟩, (fun a ha => nomatch ha), (fun z => nomatch z), (fun z => nomatch z), hcp, Nat.le_trans hl (by decide)⟩
  exact k ⟨p, c, ns, []⟩ _ rfl (e1.trans e2) i
def sp_l_one : Sp := fun vs H Q _ => ∃ (A : Amb) (l : Addr) (xs : List V), vs = [.ref A.s, .ref l] ∧ I A H ∧ H l = some (.lst xs) ∧ l ≠ A.s ∧ 0 < xs.length ∧ xs.length ≤ 100000 ∧ ∀ (j : Nat) v H', xs[j]? = some v → R A H H' → Q v H'
theorem rd_l_one {K : PySem.W.Frag} {vs : List V} {H : Hp} {Q : VK} {E : XK} (h : sp_l_one vs H Q E) : t_l_one K sp_l_take (fin Q) (start ["_law_state", "_law_things"] vs) H := by
  obtain ⟨A, l, xs, rfl, i, hl, ne, h0, h1, k⟩ := h
  show t_l_one K sp_l_take (fin Q) [some (.ref A.s), some (.ref l)] H
  unfold t_l_one
  walk_at "w"
  refine ⟨A, _, rfl, i, by omega, by omega, fun n H' n0 n1 r => ?_⟩
  obtain ⟨j, rfl⟩ := Int.eq_ofNat_of_zero_le n0
  have hj : j < xs.length := by omega
  refine w_ixL (r.keep _ _ ne hl) (at_of rfl (List.getElem?_eq_getElem hj)) ?_
  exact k j _ _ (List.getElem?_eq_getElem hj) r
end G
namespace G
open PySem L2 RZ
local macro_rules | `(tactic| walk_at "wI") => `(tactic| first | exact mulL (by decide) | exact mulR (by decide) | exact powc (by decide) | assumption)
local macro_rules | `(tactic| walk_at "w1") => `(tactic| with_reducible (first | refine w_seq ?_ | refine w_asg ?_ | refine w_op ?_ | refine w_c ?_ | refine w_gname ?_ | refine w_cons ?_ | refine w_nil ?_ | refine w_cb ?_ | refine w_if ?_ | refine w_test ?_ | refine w_B ?_ | refine w_bl ?_ | refine w_ret ?_ | refine w_drop ?_ | refine w_gsub ?_ | refine w_I0 ?_ | refine w_int ?_ | refine w_and ?_ | refine w_or ?_ | refine w_not ?_ | refine w_andV ?_ | refine w_orV ?_ | refine w_notV ?_ | refine w_ifE ?_ | refine w_un ?_ | refine w_neg ?_ | refine w_call ?_ | refine w_lst ?_ | refine w_tup ?_ | refine w_ipI ?_ | refine w_par ?_ | refine w_pair ?_ | refine w_retN ?_ | refine w_next ?_ | refine w_bm ?_ | refine w_for ?_ | refine w_iL ?_ | refine w_iT ?_ | refine w_iS ?_ | refine w_itS ?_ | refine w_iR1 ?_ | refine w_iE ?_ | refine w_iET ?_ | refine w_iZ ?_ | refine w_gcons ?_ | refine w_gnil ?_ | refine w_lc ?_))
local macro_rules | `(tactic| walk_at "w2") => `(tactic| first | walk_at "w1" | refine w_var (by rfl) ?_ | refine w_aug (by rfl) ?_ | refine w_eq (by rfl) ?_ | refine w_ne (by rfl) ?_ | refine w_ixL (by assumption) (by rfl) ?_ | refine w_lenL (by assumption) ?_ | refine w_I (by walk_at "wI") ?_ | refine w_gtup (by assumption) (by rfl) ?_ | refine w_tyL (by assumption) ?_)
local macro_rules | `(tactic| walk_at "w") => `(tactic| repeat walk_at "w2")
section
variable {K : PySem.W.Frag} {H H' : Hp} {Q : VK} {x y : V} {t n : String} {a b : Addr} {xs ys : List V} {σ : L2.St} {te : TE} {A : Prop}
theorem w_isi {c : Bool} (ty : TyX K H x (.type t)) (e : PySem.W.kitOne K (.type t) (.type n) = some c) (k : Q (.bl c) H) : rIsi K [x, .ty n] H Q := ⟨x, .ty n, _, _, c, rfl, .ty n, ty, e, k⟩
theorem cls_tys : ∀ ns : List String, Paired ClsV (ns.map V.ty) (ns.map Value.type)
  | [] => .nil
  | _ :: r => .cons (.ty _) (cls_tys r)
theorem w_isiT {p : Addr} {c : Bool} (ns : List String) (hp : H p = some (.tup (ns.map V.ty))) (ty : TyX K H x (.type t)) (e : PySem.W.kitAny K (.type t) (ns.map Value.type) = some c) (k : Q (.bl c) H) : rIsiT K [x, .ref p] H Q :=
  ⟨x, p, _, _, _, c, rfl, hp, cls_tys ns, ty, e, k⟩
theorem w_isB {b c : Bool} (k : Q (.bl (decide (b = c))) H) : rIsB (.bl b) (.bl c) H Q := ⟨b, c, rfl, rfl, k⟩
theorem w_same1 (h : scal x y = true) (k : Q (.bl (decide (x = y))) H) : rSame K x y H Q := .inl ⟨h, k⟩
theorem w_all {bs : List Bool} (h : H a = some (.lst (bs.map V.bl))) (k : Q (.bl (bs.all id)) H) : rAll K [.ref a] H Q := ⟨a, bs, rfl, SqL.of h, k⟩
theorem w_any {bs : List Bool} (h : H a = some (.lst (bs.map V.bl))) (k : Q (.bl (bs.any id)) H) : rAny K [.ref a] H Q := ⟨a, bs, rfl, SqL.of h, k⟩
theorem w_iZA {ta : TA} {RI : It → Hp → Prop} (k : ta σ H fun vs H1 => ∃ a b xs ys, vs = [.ref a, .ref b] ∧ ((SqL K H1 a xs ∧ SqL K H1 b ys ∧ RI (Itz K a b) H1) ∨ (SqT K H1 a xs ∧ SqT K H1 b ys ∧ RI (ItzT K a b) H1))) : iZipA K ta σ H RI := k
theorem w_yes {QT : Bool → Hp → Prop} (k : QT true H) : tYes σ H QT := k
theorem w_cat (h : H a = some (.lst xs)) (h2 : H b = some (.lst ys)) (hz : xs.length + ys.length ≤ 100000) (k : ∀ p, H p = none → Q (.ref p) (upd H p (.lst (xs ++ ys)))) : rCat (.ref a) (.ref b) H Q := ⟨a, b, xs, ys, rfl, rfl, h, h2, Nat.le_trans hz (by decide), k⟩
theorem walk_zipT {m : Nat} (hm : m = min xs.length ys.length) : Walk (ItzT K a b) m (fun H => SqT K H a xs ∧ SqT K H b ys) (YPair (fun i => xs[i]?) (fun i => ys[i]?)) := by
  subst hm
  refine ⟨fun i _ hi q => ?_, fun _ q => ⟨xs, ys, q.1, q.2, by omega⟩, fun i H v H' _ q y => ?_⟩
  · have h1 : i < xs.length := by omega
    have h2 : i < ys.length := by omega
    exact ⟨xs, ys, xs[i], ys[i], q.1, q.2, List.getElem?_eq_getElem h1, List.getElem?_eq_getElem h2⟩
  · obtain ⟨T, x, z, h1, h2, h3, h4, h5⟩ := y
    exact ⟨T, x, z, h1, h2, h3, h4 xs q.1, h5 ys q.2⟩
end
/-- none, a bool, an int, a text -/
def isFl : V → Bool
  | .non => true
  | .bl _ => true
  | .int _ => true
  | .str _ => true
  | _ => false
/-- the same data, down to depth n; a dict is its own -/
def Sm (H : Hp) : Nat → V → V → Prop
  | 0 => fun _ _ => False
  | n + 1 => fun x y => (x = y ∧ isFl x = true) ∨ (∃ a b xs ys, x = .ref a ∧ y = .ref b ∧ H a = some (.lst xs) ∧ H b = some (.lst ys) ∧ xs.length ≤ 100000 ∧ Paired (Sm H n) xs ys) ∨
    (∃ a b xs ys, x = .ref a ∧ y = .ref b ∧ H a = some (.tup xs) ∧ H b = some (.tup ys) ∧ xs.length ≤ 100000 ∧ Paired (Sm H n) xs ys) ∨ ∃ a kvs, x = .ref a ∧ y = .ref a ∧ H a = some (.dK kvs) ∧ ∀ p ∈ kvs, valV kvs p.1 = some p.2 ∧ ∃ b, p.2 = .ref b
theorem Paired.mapR {α β : Type} {F G : α → β → Prop} (f : ∀ a b, F a b → G a b) : ∀ {l : List α} {m : List β}, Paired F l m → Paired G l m
  | _, _, .nil => .nil
  | _, _, .cons h t => .cons (f _ _ h) (Paired.mapR f t)
theorem Sm.mono {H H' : Hp} (e : Ext H H') : ∀ (n : Nat) (x y : V), Sm H n x y → Sm H' n x y
  | 0, _, _, h => h.elim
  | n + 1, x, y, h => by
    rcases h with h | ⟨a, b, xs, ys, h1, h2, h3, h4, h5, h6⟩ | ⟨a, b, xs, ys, h1, h2, h3, h4, h5, h6⟩ | ⟨a, kvs, h1, h2, h3, h4⟩
    · exact .inl h
    · exact .inr (.inl ⟨a, b, xs, ys, h1, h2, e _ _ h3, e _ _ h4, h5, Paired.mapR (Sm.mono e n) h6⟩)
    · exact .inr (.inr (.inl ⟨a, b, xs, ys, h1, h2, e _ _ h3, e _ _ h4, h5, Paired.mapR (Sm.mono e n) h6⟩))
    · exact .inr (.inr (.inr ⟨a, kvs, h1, h2, e _ _ h3, h4⟩))
def sp_l_same (n : Nat) : Sp := fun vs H Q _ => ∃ x y, vs = [x, y] ∧ Sm H n x y ∧ ∀ H', Ext H H' → Q (.bl true) H'
theorem all_rep (n : Nat) : (List.replicate n true).all id = true := by
  induction n with
  | zero => rfl
  | succ n ih => rw [List.replicate_succ, List.all_cons, ih]; rfl
theorem Paired.at {α β : Type} {F : α → β → Prop} : ∀ {l : List α} {m : List β} {i : Nat} {a : α} {b : β}, Paired F l m → l[i]? = some a → m[i]? = some b → F a b
  | _, _, i, _, _, .nil, h, _ => by simp at h
  | _, _, 0, _, _, .cons h _, h1, h2 => by
    simp at h1 h2
    subst h1 h2
    exact h
  | _, _, i + 1, _, _, .cons _ t, h1, h2 => Paired.at (i := i) t (by simpa using h1) (by simpa using h2)
section
variable {K : PySem.W.Frag} {n : Nat} {H : Hp} {Q : VK} {a b : Addr} {xs ys : List V}
/-- the comprehension of the rows' items -/
theorem same_lc {J : It} {Gd : Hp → Prop} (hw : Walk J xs.length Gd (YPair (fun i => xs[i]?) (fun i => ys[i]?))) (hg : ∀ H', Ext H H' → Gd H') (p : Paired (Sm H n) xs ys) (hz : xs.length ≤ 100000) {σ : L2.St} {x y : V} {u v : Option V} (hσ : σ = [some x, some y, u, v])
    {Dl : Addr} (hD : H Dl = none) (k : ∀ H', Ext H H' → H' Dl = some (.lst ((List.replicate xs.length true).map V.bl)) → Q (.ref Dl) H') :
    Lc J (gTup K 2 (gCons (gName 2) (gCons (gName 3) gNil))) tYes (tCall (sp_l_same n) [] E0 (tCons (tVar 2) (tCons (tVar 3) tNil))) [2, 3] σ Dl Q H := by
  subst hσ
  refine lc_of hw (fun i H' => Ext H H' ∧ H' Dl = some (.lst ((List.replicate i true).map V.bl))) ⟨Ext.new hD, upd_same⟩ (fun i H' _ q => hg H' q.1) ?_ (fun H' q => k H' q.1 q.2)
  rintro i z H1 H2 hi ⟨e1, hl⟩ ⟨T, x', y', rfl, hT, rfl, hx, hy⟩
  have e2 := e1.trans (Ext.new (o := .tup [x', y']) hT)
  have sm := Sm.mono e2 n _ _ (Paired.at p hx hy)
  refine w_gtup upd_same rfl ?_
  refine w_gcons (w_gname (w_gcons (w_gname (w_gnil ⟨rfl, w_yes (iteT ?_)⟩))))
  refine w_call (w_cons (w_var (by rfl) (w_cons (w_var (by rfl) (w_nil ?_)))))
  refine ⟨x', y', rfl, sm, fun H3 e3 => ?_⟩
  have hl3 : H3 Dl = some (.lst ((List.replicate i true).map V.bl)) := e3 _ _ (Ext.new hT _ _ hl)
  refine ⟨_, hl3, ?_, (e2.trans e3).mut hD, ?_⟩
  · rw [List.length_map, List.length_replicate]
    exact Nat.lt_of_lt_of_le hi (Nat.le_trans hz (by decide))
  · rw [upd_same, List.replicate_succ', List.map_append]
    rfl
theorem rd_l_same {vs : List V} {E : XK} (h : sp_l_same (n + 1) vs H Q E) : t_l_same K (sp_l_same n) (fin Q) (start ["_law_found", "_law_due", "_law_a", "_law_b"] vs) H := by
  obtain ⟨x, y, rfl, hm, k⟩ := h
  show t_l_same K (sp_l_same n) (fin Q) [some x, some y, none, none] H
  unfold t_l_same
  walk_at "w"
  refine w_newT (show 2 ≤ 100000 by decide) fun p hp => ?_
  have e1 := Ext.new (o := .tup [.ty "list", .ty "tuple"]) hp
  walk_at "w"
  rcases hm with ⟨rfl, hf⟩ | ⟨a, b, xs, ys, rfl, rfl, ha, hb, hz, hp6⟩ | ⟨a, b, xs, ys, rfl, rfl, ha, hb, hz, hp6⟩ | ⟨a, kvs, rfl, rfl, ha, hv⟩
  · obtain ⟨t, ty, h1, c, h2, h3, h4, hs⟩ : ∃ t : String, (∀ H, TyX K H x (.type t)) ∧ PySem.W.kitAny K (.type t) (["list", "tuple"].map Value.type) = some false ∧
        ∃ c, PySem.W.kitOne K (.type t) (.type "int") = some c ∧ (c = true → ∃ d, PySem.W.kitOne K (.type t) (.type "bool") = some d) ∧ (c = false → PySem.W.kitAny K (.type t) (["bool", "int", "list", "tuple"].map Value.type) = some false) ∧ scal x x = true := by
      cases x with
      | non => exact ⟨"NoneType", fun _ => .base .non, by kernel_rfl, false, by kernel_rfl, (fun z => nomatch z), (fun _ => by kernel_rfl), rfl⟩
      | bl c => exact ⟨"bool", fun _ => .base (.bl c), by kernel_rfl, true, by kernel_rfl, (fun _ => ⟨true, by kernel_rfl⟩), (fun z => nomatch z), rfl⟩
      | int c => exact ⟨"int", fun _ => .base (.int c), by kernel_rfl, true, by kernel_rfl, (fun _ => ⟨false, by kernel_rfl⟩), (fun z => nomatch z), rfl⟩
      | str c => exact ⟨"str", fun _ => .base (.str c), by kernel_rfl, false, by kernel_rfl, (fun z => nomatch z), (fun _ => by kernel_rfl), rfl⟩
      | _ => cases hf
    refine w_isiT ["list", "tuple"] upd_same (ty _) h1 ?_
    refine w_bl (iteF ?_)
    walk_at "w"
    refine w_isi (ty _) h2 ?_
    refine w_bl ?_
    refine w_itb (fun hc => ?_) (fun hc => ?_)
    · subst hc
      obtain ⟨d, h5⟩ := h3 rfl
      walk_at "w"
      refine w_isi (ty _) h2 ?_
      refine w_bl (iteT ?_)
      walk_at "w"
      refine w_isi (ty _) h5 ?_
      walk_at "w"
      refine w_isi (ty _) h5 ?_
      refine w_eq (by rfl) ?_
      refine w_bl ?_
      rw [decide_eq_true rfl]
      refine iteT ?_
      walk_at "w"
      refine w_same1 hs ?_
      rw [decide_eq_true rfl]
      exact k _ e1
    · subst hc
      walk_at "w"
      refine w_newT (show 4 ≤ 100000 by decide) fun p2 hp2 => ?_
      walk_at "w"
      refine w_isiT ["bool", "int", "list", "tuple"] upd_same (ty _) (h4 rfl) ?_
      walk_at "w"
      refine w_isB ?_
      refine w_bl ?_
      rw [decide_eq_true rfl]
      refine iteT ?_
      walk_at "w"
      refine w_same1 hs ?_
      rw [decide_eq_true rfl]
      exact k _ (e1.trans (Ext.new hp2))
  · have ty : ∀ {H'}, Ext H H' → TyX K H' (.ref a) (.type "list") := fun e => .base (.lst (e _ _ ha))
    have ty2 : ∀ {H'}, Ext H H' → TyX K H' (.ref b) (.type "list") := fun e => .base (.lst (e _ _ hb))
    have hlen := Paired.length hp6
    refine w_isiT ["list", "tuple"] upd_same (ty2 e1) (c := true) (by kernel_rfl) ?_
    refine w_bl (iteT ?_)
    walk_at "w"
    refine w_isi (ty e1) (c := true) (by kernel_rfl) ?_
    walk_at "w"
    refine w_isi (ty2 e1) (c := true) (by kernel_rfl) ?_
    refine w_ne (by rfl) ?_
    refine w_bl ?_
    rw [decide_eq_true rfl]
    refine iteF ?_
    walk_at "w"
    refine w_isi (ty e1) (c := false) (by kernel_rfl) ?_
    walk_at "w"
    refine w_isi (ty2 e1) (c := false) (by kernel_rfl) ?_
    refine w_ne (by rfl) ?_
    refine w_bl ?_
    rw [decide_eq_true rfl]
    refine iteF ?_
    walk_at "w"
    refine w_lenL (e1 _ _ ha) ?_
    walk_at "w"
    refine w_lenL (e1 _ _ hb) ?_
    refine w_eq (by rfl) ?_
    refine w_bl ?_
    rw [hlen, decide_eq_true rfl]
    refine iteT ?_
    walk_at "w"
    refine w_iZA ?_
    walk_at "w"
    refine ⟨a, b, xs, ys, rfl, .inl ⟨SqL.of (e1 _ _ ha), SqL.of (e1 _ _ hb), fun Dl hD => ?_⟩⟩
    refine same_lc (H := upd H p (.tup [.ty "list", .ty "tuple"])) (xs := xs) (ys := ys) (L2.walk_zip (by rw [← hlen, Nat.min_self])) (fun H' e => ⟨SqL.of (e _ _ (e1 _ _ ha)), SqL.of (e _ _ (e1 _ _ hb))⟩) (Paired.mapR (Sm.mono e1 n) hp6) hz rfl hD fun H2 e2 h2 => ?_
    walk_at "w"
    refine w_all h2 ?_
    rw [all_rep]
    exact k _ (e1.trans e2)
  · have ty : ∀ {H'}, Ext H H' → TyX K H' (.ref a) (.type "tuple") := fun e => .base (.tup (e _ _ ha))
    have ty2 : ∀ {H'}, Ext H H' → TyX K H' (.ref b) (.type "tuple") := fun e => .base (.tup (e _ _ hb))
    have hlen := Paired.length hp6
    refine w_isiT ["list", "tuple"] upd_same (ty2 e1) (c := true) (by kernel_rfl) ?_
    refine w_bl (iteT ?_)
    walk_at "w"
    refine w_isi (ty e1) (c := false) (by kernel_rfl) ?_
    walk_at "w"
    refine w_isi (ty2 e1) (c := false) (by kernel_rfl) ?_
    refine w_ne (by rfl) ?_
    refine w_bl ?_
    rw [decide_eq_true rfl]
    refine iteF ?_
    walk_at "w"
    refine w_isi (ty e1) (c := true) (by kernel_rfl) ?_
    walk_at "w"
    refine w_isi (ty2 e1) (c := true) (by kernel_rfl) ?_
    refine w_ne (by rfl) ?_
    refine w_bl ?_
    rw [decide_eq_true rfl]
    refine iteF ?_
    walk_at "w"
    refine w_lenT (e1 _ _ ha) ?_
    walk_at "w"
    refine w_lenT (e1 _ _ hb) ?_
    refine w_eq (by rfl) ?_
    refine w_bl ?_
    rw [hlen, decide_eq_true rfl]
    refine iteT ?_
    walk_at "w"
    refine w_iZA ?_
    walk_at "w"
    refine ⟨a, b, xs, ys, rfl, .inr ⟨SqT.of (e1 _ _ ha), SqT.of (e1 _ _ hb), fun Dl hD => ?_⟩⟩
    refine same_lc (H := upd H p (.tup [.ty "list", .ty "tuple"])) (xs := xs) (ys := ys) (walk_zipT (by rw [← hlen, Nat.min_self])) (fun H' e => ⟨SqT.of (e _ _ (e1 _ _ ha)), SqT.of (e _ _ (e1 _ _ hb))⟩) (Paired.mapR (Sm.mono e1 n) hp6) hz rfl hD fun H2 e2 h2 => ?_
    walk_at "w"
    refine w_all h2 ?_
    rw [all_rep]
    exact k _ (e1.trans e2)
  · have ty : ∀ {H'}, Ext H H' → TyX K H' (.ref a) (.type "dict") := fun e => .base (.dK (e _ _ ha))
    refine w_isiT ["list", "tuple"] upd_same (ty e1) (c := false) (by kernel_rfl) ?_
    refine w_bl (iteF ?_)
    walk_at "w"
    refine w_isi (ty e1) (c := false) (by kernel_rfl) ?_
    refine w_bl (iteF ?_)
    walk_at "w"
    refine w_newT (show 4 ≤ 100000 by decide) fun p2 hp2 => ?_
    walk_at "w"
    have e2 := e1.trans (Ext.new (o := .tup [.ty "bool", .ty "int", .ty "list", .ty "tuple"]) hp2)
    refine w_isiT ["bool", "int", "list", "tuple"] upd_same (ty e2) (c := false) (by kernel_rfl) ?_
    walk_at "w"
    refine w_isB ?_
    refine w_bl ?_
    rw [decide_eq_true rfl]
    refine iteT ?_
    walk_at "w"
    refine .inr ⟨1, by decide, .inr ⟨a, a, kvs, kvs, rfl, rfl, e2 _ _ ha, e2 _ _ ha, rfl, fun p hp => ?_⟩, k _ e2⟩
    obtain ⟨h1, b, h2⟩ := hv p hp
    exact ⟨p.2, h1, .inr (.inl ⟨b, h2, h2⟩)⟩
end
end G
namespace G
open PySem L2 RZ
local macro_rules | `(tactic| walk_at "wI") => `(tactic| first | exact mulL (by decide) | exact mulR (by decide) | exact powc (by decide) | assumption)
local macro_rules | `(tactic| walk_at "w1") => `(tactic| with_reducible (first | refine w_seq ?_ | refine w_asg ?_ | refine w_op ?_ | refine w_c ?_ | refine w_gname ?_ | refine w_cons ?_ | refine w_nil ?_ | refine w_cb ?_ | refine w_if ?_ | refine w_test ?_ | refine w_B ?_ | refine w_bl ?_ | refine w_ret ?_ | refine w_drop ?_ | refine w_gsub ?_ | refine w_I0 ?_ | refine w_int ?_ | refine w_and ?_ | refine w_or ?_ | refine w_not ?_ | refine w_andV ?_ | refine w_orV ?_ | refine w_notV ?_ | refine w_ifE ?_ | refine w_un ?_ | refine w_neg ?_ | refine w_call ?_ | refine w_lst ?_ | refine w_tup ?_ | refine w_ipI ?_ | refine w_par ?_ | refine w_pair ?_ | refine w_retN ?_ | refine w_next ?_ | refine w_bm ?_ | refine w_for ?_ | refine w_iL ?_ | refine w_iT ?_ | refine w_iS ?_ | refine w_itS ?_ | refine w_iR1 ?_ | refine w_iE ?_ | refine w_iET ?_ | refine w_iZ ?_ | refine w_gcons ?_ | refine w_gnil ?_ | refine w_lc ?_))
local macro_rules | `(tactic| walk_at "w2") => `(tactic| first | walk_at "w1" | refine w_var (by rfl) ?_ | refine w_aug (by rfl) ?_ | refine w_eq (by rfl) ?_ | refine w_ne (by rfl) ?_ | refine w_ixL (by assumption) (by rfl) ?_ | refine w_lenL (by assumption) ?_ | refine w_I (by walk_at "wI") ?_ | refine w_gtup (by assumption) (by rfl) ?_ | refine w_tyL (by assumption) ?_)
local macro_rules | `(tactic| walk_at "w") => `(tactic| repeat walk_at "w2")
theorem R.mut {A : Amb} {H H' : Hp} {l : Addr} {o : HO} (r : R A H H') (i : I A H) (hl : H l = none) : R A H (upd H' l o) := by
  obtain ⟨q1, n, k, b, q2⟩ := r.ds
  refine ⟨fun a u h1 h => ?_, ?_, n, k, b, ?_⟩
  · rw [upd_ne (ne_of_none h hl)]
    exact r.keep a u h1 h
  · rw [upd_ne (Ne.symm (i.nc hl))]
    exact q1
  · rw [upd_ne (Ne.symm (i.ne hl))]
    exact q2
theorem R.del {A : Amb} {H H' : Hp} {l : Addr} (r : R (A.add l) H H') : R A H H' := ⟨r.keep, r.ds⟩
theorem R.add {A : Amb} {H H' : Hp} {l : Addr} (r : R A H H') : R (A.add l) H H' := ⟨r.keep, r.ds⟩
theorem Amb.mem {A : Amb} {l : Addr} : l ∈ (A.add l).M := List.mem_cons_self ..
/-- data of depth n -/
def Sd : Nat → V → Hp → Prop
  | 0 => fun v _ => isFl v = true
  | n + 1 => fun v H => isFl v = true ∨ (∃ l xs, v = .ref l ∧ H l = some (.lst xs) ∧ xs.length ≤ 100 ∧ ∀ x ∈ xs, Sd n x H) ∨ (∃ l xs, v = .ref l ∧ H l = some (.tup xs) ∧ xs.length ≤ 100 ∧ ∀ x ∈ xs, Sd n x H) ∨ ∃ l p, v = .ref l ∧ H l = some (.dK [(.inr "inner", .ref p)])
theorem paired_self {F : V → V → Prop} : ∀ {xs : List V}, (∀ x ∈ xs, F x x) → Paired F xs xs
  | [], _ => .nil
  | x :: r, h => .cons (h x (List.mem_cons_self ..)) (paired_self fun y hy => h y (List.mem_cons_of_mem _ hy))
theorem Sd.sm : ∀ (n : Nat) (v : V) (H : Hp), Sd n v H → Sm H (n + 1) v v
  | 0, v, H, h => .inl ⟨rfl, h⟩
  | n + 1, v, H, h => by
    rcases h with h | ⟨l, xs, rfl, h1, h2, h3⟩ | ⟨l, xs, rfl, h1, h2, h3⟩ | ⟨l, p, rfl, h1⟩
    · exact .inl ⟨rfl, h⟩
    · exact .inr (.inl ⟨l, l, xs, xs, rfl, rfl, h1, h1, Nat.le_trans h2 (by decide), paired_self fun x hx => Sd.sm n x H (h3 x hx)⟩)
    · exact .inr (.inr (.inl ⟨l, l, xs, xs, rfl, rfl, h1, h1, Nat.le_trans h2 (by decide), paired_self fun x hx => Sd.sm n x H (h3 x hx)⟩))
    · refine .inr (.inr (.inr ⟨l, _, rfl, rfl, h1, fun q hq => ?_⟩))
      obtain rfl := List.mem_singleton.mp hq
      exact ⟨by rfl, p, rfl⟩
theorem Stb.all {A : Amb} {φ : V → Hp → Prop} {xs : List V} {H : Hp} (h : ∀ x ∈ xs, Stb A (φ x) H) : Stb A (fun H => ∀ x ∈ xs, φ x H) H := fun H' e x hx => h x hx H' e
/-- not a list -/
def NL (v : V) (H : Hp) : Prop := isFl v = true ∨ (∃ l xs, v = .ref l ∧ H l = some (.tup xs)) ∨ ∃ l kvs, v = .ref l ∧ H l = some (.dK kvs)
/-- what any gives: data that stands; or a new list, its items data that stand however the list is changed -/
def New (A : Amb) (H : Hp) (d : Nat) (v : V) (H' : Hp) : Prop := Stb A (fun H => Sd d v H ∧ NL v H) H' ∨ ∃ l xs, v = .ref l ∧ H l = none ∧ H' l = some (.lst xs) ∧ xs.length ≤ 2 ∧ 0 < d ∧ ∀ x ∈ xs, Stb (A.add l) (Sd (d - 1) x) H'
theorem New.stb {A : Amb} {H H' : Hp} {d : Nat} {v : V} (i : I A H) (n : New A H d v H') : Stb A (Sd d v) H' := by
  rcases n with n | ⟨l, xs, rfl, h0, h1, h2, h3, h4⟩
  · exact n.imp fun _ q => q.1
  · obtain ⟨d, rfl⟩ : ∃ e, d = e + 1 := ⟨d - 1, by omega⟩
    have a := Stb.at h1 (i.ne h0) (i.nM h0)
    have b : Stb A (fun H => ∀ x ∈ xs, Sd d x H) H' := Stb.all fun x hx => (h4 x hx).del
    exact (a.and b).imp fun H q => .inr (.inl ⟨l, xs, rfl, q.1, Nat.le_trans h2 (by decide), q.2⟩)
def sp_l_any (d : Nat) : Sp := fun vs H Q _ => ∃ A : Amb, vs = [.ref A.s, .int (d : Int)] ∧ I A H ∧ d ≤ 2 ∧ ∀ v H', R A H H' → New A H d v H' → Q v H'
theorem rd_l_any {K : PySem.W.Frag} {vs : List V} {H : Hp} {Q : VK} {E : XK} {d : Nat} {spr : Sp} (hr : d ≠ 0 → spr = sp_l_any (d - 1)) (h : sp_l_any d vs H Q E) :
    t_l_any K sp_l_take sp_l_one spr (fin Q) (start ["_law_state", "_law_deep", "_law_way", "_law_inner", "_law_k"] vs) H := by
  obtain ⟨A, rfl, i, hd, k⟩ := h
  show t_l_any K sp_l_take sp_l_one spr (fin Q) [some (.ref A.s), some (.int d), none, none, none] H
  unfold t_l_any
  walk_at "w"
  refine w_cut (Mid := fun σ' H' => ∃ n : Int, 0 ≤ n ∧ (d = 0 → n < 5) ∧ n < 8 ∧ σ' = [some (.ref A.s), some (.int d), some (.int n), none, none] ∧ R A H H' ∧ I A H') ?_ ?_
  · walk_at "w"
    refine w_ite (fun h0 => ?_) (fun h0 => ?_)
    · walk_at "w"
      refine ⟨A, 8, rfl, i, by decide, by decide, fun n H' n0 n1 r => ?_⟩
      walk_at "w"
      exact ⟨n, n0, fun z => absurd h0 (by omega), n1, rfl, r, i.run r⟩
    · walk_at "w"
      refine ⟨A, 5, rfl, i, by decide, by decide, fun n H' n0 n1 r => ?_⟩
      walk_at "w"
      exact ⟨n, n0, fun _ => n1, Int.lt_trans n1 (by decide), rfl, r, i.run r⟩
  · rintro σ1 H1 ⟨n, n0, n5, n8, rfl, r1, i1⟩
    walk_at "w"
    refine w_ite (fun h0 => ?_) (fun h0 => ?_)
    · walk_at "w"
      refine ⟨A, 10 ^ 9, rfl, i1, by decide, by decide, fun m H2 m0 m1 r2 => ?_⟩
      have i2 := i1.run r2
      walk_at "w"
      refine w_newL (show 4 ≤ 100000 by decide) fun p hp => ?_
      walk_at "w"
      have e3 := Ext.new (o := .lst [.str "", .str "a", .str "account", .str "A b"]) hp
      have r3 := R.ext i2 e3
      refine ⟨A, p, _, rfl, i2.run r3, upd_same, i2.ne hp, by decide, by decide, fun j v H3 hv r4 => ?_⟩
      have i3 := (i2.run r3).run r4
      have hs : ∃ z, v = .str z := by
        match j, hv with
        | 0, hv => exact ⟨_, (Option.some.inj hv).symm⟩
        | 1, hv => exact ⟨_, (Option.some.inj hv).symm⟩
        | 2, hv => exact ⟨_, (Option.some.inj hv).symm⟩
        | 3, hv => exact ⟨_, (Option.some.inj hv).symm⟩
        | j + 4, hv => simp at hv
      obtain ⟨z, rfl⟩ := hs
      walk_at "w"
      refine w_newL (show 5 ≤ 100000 by decide) fun q hq => ?_
      walk_at "w"
      obtain ⟨j, rfl⟩ := Int.eq_ofNat_of_zero_le n0
      have hj : j < 5 := by omega
      have hf : ∃ u, [V.int m, .bl true, .non, .str z, .int (-1)][j]? = some u ∧ isFl u = true := by
        match j, hj with
        | 0, _ => exact ⟨_, rfl, rfl⟩
        | 1, _ => exact ⟨_, rfl, rfl⟩
        | 2, _ => exact ⟨_, rfl, rfl⟩
        | 3, _ => exact ⟨_, rfl, rfl⟩
        | 4, _ => exact ⟨_, rfl, rfl⟩
      obtain ⟨u, hu, fu⟩ := hf
      refine w_ixL upd_same (at_of rfl hu) ?_
      refine k _ _ ((((r1.trans r2).trans r3).trans r4).trans (R.ext i3 (Ext.new hq))) (.inl (Stb.con (q := True) trivial |>.imp fun H _ => ?_))
      cases d with
      | zero => exact ⟨fu, .inl fu⟩
      | succ d => exact ⟨.inl fu, .inl fu⟩
    · have hd0 : d ≠ 0 := fun z => by
        have := n5 z
        omega
      obtain ⟨e, rfl⟩ : ∃ e, d = e + 1 := ⟨d - 1, by omega⟩
      have hspr : spr = sp_l_any e := hr hd0
      subst hspr
      walk_at "w"
      refine ⟨A, 3, rfl, i1, by decide, by decide, fun m H2 m0 m1 r2 => ?_⟩
      have i2 := i1.run r2
      walk_at "w"
      refine w_itR1 m0 (by omega) ?_
      intro Dl hD
      have rA := r1.trans r2
      refine lc_of (L2.walk_range (lo := 0) (n := m.toNat)) (fun j H' => R A H2 H' ∧ I (A.add Dl) H' ∧ ∃ xs, xs.length = j ∧ H' Dl = some (.lst xs) ∧ ∀ x ∈ xs, Stb (A.add Dl) (Sd e x) H') ?_ (fun _ _ _ _ => trivial) ?_ ?_
      · exact ⟨R.ext i2 (Ext.new hD), i2.add hD (Ext.new hD) (by rw [upd_same]; exact fun z => nomatch z), [], rfl, upd_same, fun x hx => nomatch hx⟩
      · rintro j x H3 H4 hj ⟨r3, i3, xs, hl, hx, hs⟩ ⟨rfl, rfl⟩
        have hDs := i2.ne hD
        walk_at "w"
        refine ⟨rfl, w_yes (iteT ?_)⟩
        walk_at "w"
        have ee : ((e + 1 : Nat) : Int) - 1 = (e : Int) := by omega
        rw [ee]
        refine ⟨A.add Dl, rfl, i3, by omega, fun v H5 r5 nw => ?_⟩
        have hx5 := r5.keep _ _ hDs hx
        have i5 := i3.run r5
        have mz : m.toNat ≤ 3 := by omega
        refine ⟨xs, hx5, by rw [hl]; exact Nat.lt_of_lt_of_le hj (Nat.le_trans mz (by decide)), (r3.trans r5.del).mut i2 hD, i5.mut Amb.mem, xs ++ [v], by rw [List.length_append, hl]; rfl, upd_same, fun y hy => ?_⟩
        rcases List.mem_append.mp hy with hy | hy
        · exact ((hs y hy).run r5).mono (S.mut Amb.mem)
        · obtain rfl := List.mem_singleton.mp hy
          exact (nw.stb i3).mono (S.mut Amb.mem)
      · rintro H3 ⟨r3, i3, xs, hl, hx, hs⟩
        have iA := i3.del
        have rB := rA.trans r3
        have hDs := i2.ne hD
        have hDs0 := hDs
        have lz : xs.length ≤ 2 := by omega
        walk_at "w"
        refine w_tupL hx fun T hT => ?_
        have e4 := Ext.new (o := .tup xs) hT
        have i4 := iA.run (R.ext iA e4)
        walk_at "w"
        intro Dd hDd
        walk_at "w"
        refine ⟨upd_same, [(.inr "inner", .ref Dl)], rfl, (by show 1 ≤ 15; decide), ?_⟩
        rw [upd_upd]
        have em : mergeK [] [((.inr "inner" : Key), V.ref Dl)] = [(.inr "inner", .ref Dl)] := by rfl
        rw [em]
        have e5 := Ext.new (o := .dK [(.inr "inner", .ref Dl)]) hDd
        have i5 := i4.run (R.ext i4 e5)
        walk_at "w"
        refine w_newL (show 3 ≤ 100000 by decide) fun L hL => ?_
        have e6 := Ext.new (o := .lst [.ref Dl, .ref T, .ref Dd]) hL
        have e46 := (e4.trans e5).trans e6
        have rC := rB.trans (R.ext iA e46)
        walk_at "w"
        obtain ⟨j, hj⟩ : ∃ j : Nat, n - 5 = (j : Int) := ⟨(n - 5).toNat, by omega⟩
        have hj3 : j < 3 := by omega
        rw [hj]
        match j, hj3 with
        | 0, _ =>
          refine w_ixL upd_same (at_of rfl rfl) ?_
          exact k _ _ rC (.inr ⟨Dl, xs, rfl, (by cases q : H Dl with
            | none => rfl
            | some o => exact absurd (rA.keep _ _ hDs0 q) (by rw [hD]; exact fun z => nomatch z)), e46 _ _ hx, lz, Nat.succ_pos _, fun x hx => (hs x hx).run (R.ext i3 e46)⟩)
        | 1, _ =>
          refine w_ixL upd_same (at_of rfl rfl) ?_
          refine k _ _ rC (.inl ?_)
          have a : Stb A (fun H => H T = some (.tup xs)) _ := (Stb.new iA hT).run (R.ext (iA.run (R.ext iA e4)) (e5.trans e6))
          have b : Stb A (fun H => ∀ x ∈ xs, Sd e x H) _ := Stb.all fun x hx => ((hs x hx).del).run (R.ext iA e46)
          exact (a.and b).imp fun H q => ⟨.inr (.inr (.inl ⟨T, xs, rfl, q.1, Nat.le_trans lz (by decide), q.2⟩)), .inr (.inl ⟨T, xs, rfl, q.1⟩)⟩
        | 2, _ =>
          refine w_ixL upd_same (at_of rfl rfl) ?_
          refine k _ _ rC (.inl ?_)
          have a : Stb A (fun H => H Dd = some (.dK [(.inr "inner", .ref Dl)])) _ := (Stb.new i4 hDd).run (R.ext i5 e6)
          exact a.imp fun H q => ⟨.inr (.inr (.inr ⟨Dd, Dl, rfl, q⟩)), .inr (.inr ⟨Dd, _, rfl, q⟩)⟩
end G
namespace G
open PySem L2 RZ
local macro_rules | `(tactic| walk_at "wI") => `(tactic| first | exact mulL (by decide) | exact mulR (by decide) | exact powc (by decide) | assumption)
local macro_rules | `(tactic| walk_at "w1") => `(tactic| with_reducible (first | refine w_seq ?_ | refine w_asg ?_ | refine w_op ?_ | refine w_c ?_ | refine w_gname ?_ | refine w_cons ?_ | refine w_nil ?_ | refine w_cb ?_ | refine w_if ?_ | refine w_test ?_ | refine w_B ?_ | refine w_bl ?_ | refine w_ret ?_ | refine w_drop ?_ | refine w_gsub ?_ | refine w_I0 ?_ | refine w_int ?_ | refine w_and ?_ | refine w_or ?_ | refine w_not ?_ | refine w_andV ?_ | refine w_orV ?_ | refine w_notV ?_ | refine w_ifE ?_ | refine w_un ?_ | refine w_neg ?_ | refine w_call ?_ | refine w_lst ?_ | refine w_tup ?_ | refine w_ipI ?_ | refine w_par ?_ | refine w_pair ?_ | refine w_retN ?_ | refine w_next ?_ | refine w_bm ?_ | refine w_for ?_ | refine w_iL ?_ | refine w_iT ?_ | refine w_iS ?_ | refine w_itS ?_ | refine w_iR1 ?_ | refine w_iE ?_ | refine w_iET ?_ | refine w_iZ ?_ | refine w_gcons ?_ | refine w_gnil ?_ | refine w_lc ?_))
local macro_rules | `(tactic| walk_at "w2") => `(tactic| first | walk_at "w1" | refine w_var (by rfl) ?_ | refine w_aug (by rfl) ?_ | refine w_eq (by rfl) ?_ | refine w_ne (by rfl) ?_ | refine w_ixL (by assumption) (by rfl) ?_ | refine w_lenL (by assumption) ?_ | refine w_I (by walk_at "wI") ?_ | refine w_gtup (by assumption) (by rfl) ?_ | refine w_tyL (by assumption) ?_)
local macro_rules | `(tactic| walk_at "w") => `(tactic| repeat walk_at "w2")
/-- an own error of the class at C stands at a, its fields fs hold xs -/
def ErrAt (a C : Addr) (fs : List Str) (xs : List V) (H : Hp) : Prop := ∃ d, H a = some (exo a C (some d)) ∧ H d = some (exd d (fs.zip xs).reverse)
theorem ErrAt.ext {a C : Addr} {fs : List Str} {xs : List V} {H H' : Hp} (h : ErrAt a C fs xs H) (e : Ext H H') : ErrAt a C fs xs H' := by
  obtain ⟨d, h1, h2⟩ := h
  exact ⟨d, e _ _ h1, e _ _ h2⟩
theorem w_made {A : Amb} {C : Addr} {fs : List Str} {xs : List V} {H : Hp} {Q : VK} (i : I A H) (k : ∀ a H', R A H H' → I A H' → Stb A (ErrAt a C fs xs) H' → Q (.ref a) H') : Made C fs xs H Q := fun a d ha hd hne => by
  have e1 := Ext.new (o := exd d (fs.zip xs).reverse) hd
  have ha2 : (upd H d (exd d (fs.zip xs).reverse)) a = none := by
    rw [upd_ne (Ne.symm hne)]
    exact ha
  have e2 := Ext.new (o := exo a C (some d)) ha2
  have r := R.ext i (e1.trans e2)
  refine k a _ r (i.run r) (fun H' s => ⟨d, s _ _ (i.ne ha) (i.nM ha) upd_same, s _ _ (i.ne hd) (i.nM hd) (e2 _ _ upd_same)⟩)
def Errs (K : PySem.W.Frag) (x : V) (as : List Addr) (cs : List (Str × Str)) (H : Hp) : Prop := Paired (fun a (c : Str × Str) => ErrAt a (He.ga K c.1) [c.2] [x] H) as cs
theorem Errs.append {K : PySem.W.Frag} {x : V} {H : Hp} : ∀ {as bs : List Addr} {cs ds : List (Str × Str)}, Errs K x as cs H → Errs K x bs ds H → Errs K x (as ++ bs) (cs ++ ds) H
  | _, _, _, _, .nil, h => h
  | _, _, _, _, .cons a t, h => .cons a (Errs.append t h)
/-- C(f = x), .. -/
def tEK (K : PySem.W.Frag) : List (Str × Str) → TA
  | [] => tNil
  | c :: r => tCons (tErrK (He.ga K c.1) [c.2] (tCons (tVar 0) tNil)) (tEK K r)
/-- C(x), .. -/
def tEP (K : PySem.W.Frag) : List (Str × Str) → TA
  | [] => tNil
  | c :: r => tCons (tErr (He.ga K c.1) [c.2] (tCons (tVar 0) tNil)) (tEP K r)
section
variable {K : PySem.W.Frag} {A : Amb} {x : V} {σ : L2.St}
theorem w_ek (hσ : σ[0]? = some (some x)) : ∀ {cs : List (Str × Str)} {H : Hp} {QA : List V → Hp → Prop}, I A H → (∀ as H', R A H H' → Stb A (Errs K x as cs) H' → as.length = cs.length → QA (as.map V.ref) H') → tEK K cs σ H QA
  | [], H, QA, i, k => k [] H (R.refl i) (fun _ _ => .nil) rfl
  | c :: r, H, QA, i, k => by
    refine w_cons ?_
    refine w_cons (w_var hσ (w_nil ⟨rfl, ?_⟩))
    refine w_made i fun a H1 r1 i1 s1 => ?_
    refine w_ek hσ i1 fun as H2 r2 s2 hl => ?_
    exact k (a :: as) H2 (r1.trans r2) ((s1.run r2).and s2 |>.imp fun H q => .cons q.1 q.2) (congrArg Nat.succ hl)
theorem w_ep (hσ : σ[0]? = some (some x)) : ∀ {cs : List (Str × Str)} {H : Hp} {QA : List V → Hp → Prop}, I A H → (∀ as H', R A H H' → Stb A (Errs K x as cs) H' → as.length = cs.length → QA (as.map V.ref) H') → tEP K cs σ H QA
  | [], H, QA, i, k => k [] H (R.refl i) (fun _ _ => .nil) rfl
  | c :: r, H, QA, i, k => by
    refine w_cons ?_
    refine w_cons (w_var hσ (w_nil ⟨rfl, ?_⟩))
    refine w_made i fun a H1 r1 i1 s1 => ?_
    refine w_ep hσ i1 fun as H2 r2 s2 hl => ?_
    exact k (a :: as) H2 (r1.trans r2) ((s1.run r2).and s2 |>.imp fun H q => .cons q.1 q.2) (congrArg Nat.succ hl)
end
def ones : List (Str × Str) := [("BadField", "index"), ("UnknownField", "field"), ("BadWord", "word"), ("BadKind", "index"), ("UnknownKind", "name"), ("BadResource", "resource"), ("BadCount", "count"), ("BadTag", "thing"), ("BadValue", "value"),
  ("Unlabelled", "number"), ("BadFlag", "flag"), ("BadCopies", "index"), ("UnknownTemplate", "name"), ("BadVariable", "variable"), ("BadStep", "index"), ("BadText", "line")]
def sp_ones (K : PySem.W.Frag) : Sp := fun vs H Q _ => ∃ (A : Amb) (x : V), vs = [x] ∧ I A H ∧ ∀ L as H', R A H H' → L ≠ A.s → L ∉ A.M → Stb A (fun H => H L = some (.lst (as.map V.ref))) H' → Stb A (Errs K x as ones) H' → Q (.ref L) H'
theorem rd_l_with_one {K : PySem.W.Frag} {vs : List V} {H : Hp} {Q : VK} {E : XK} (h : sp_ones K vs H Q E) : t_l_with_one K (fin Q) (start ["_law_x", "_law_found"] vs) H := by
  obtain ⟨A, x, rfl, i, k⟩ := h
  show t_l_with_one K (fin Q) [some x, none] H
  unfold t_l_with_one
  refine w_seq (w_asg (w_lst ?_))
  refine w_ek (A := A) (x := x) (by rfl) (cs := [("BadField", "index"), ("UnknownField", "field"), ("BadWord", "word"), ("BadKind", "index"), ("UnknownKind", "name")]) i fun as1 H1 r1 s1 l1 => ?_
  have i1 := i.run r1
  refine w_newL (by rw [List.length_map, l1]; decide) fun p1 h1 => ?_
  have e1 := Ext.new (o := .lst (as1.map V.ref)) h1
  have i1' := i1.run (R.ext i1 e1)
  with_reducible refine w_gname ?_
  with_reducible refine w_seq (w_asg (w_op ?_))
  refine w_var (by rfl) ?_
  with_reducible refine w_lst ?_
  refine w_ek (A := A) (x := x) (by rfl) (cs := [("BadResource", "resource"), ("BadCount", "count"), ("BadTag", "thing"), ("BadValue", "value")]) i1' fun as2 H2 r2 s2 l2 => ?_
  have i2 := i1'.run r2
  refine w_newL (by rw [List.length_map, l2]; decide) fun p2 h2 => ?_
  have e2 := Ext.new (o := .lst (as2.map V.ref)) h2
  have i2' := i2.run (R.ext i2 e2)
  refine w_cat (e2 _ _ (r2.keep _ _ (i1.ne h1) upd_same)) upd_same (by rw [List.length_map, List.length_map, l1, l2]; decide) fun p3 h3 => ?_
  rw [← List.map_append]
  have e3 := Ext.new (o := .lst ((as1 ++ as2).map V.ref)) h3
  have i3 := i2'.run (R.ext i2' e3)
  have r3 := (((r1.trans (R.ext i1 e1)).trans r2).trans (R.ext i2 e2)).trans (R.ext i2' e3)
  have t3 := ((s1.run ((((R.ext i1 e1).trans r2).trans (R.ext i2 e2)).trans (R.ext i2' e3))).and (s2.run ((R.ext i2 e2).trans (R.ext i2' e3)))).imp fun H q => q.1.append q.2
  with_reducible refine w_gname ?_
  with_reducible refine w_seq (w_asg (w_op ?_))
  refine w_var (by rfl) ?_
  with_reducible refine w_lst ?_
  refine w_ek (A := A) (x := x) (by rfl) (cs := [("Unlabelled", "number"), ("BadFlag", "flag"), ("BadCopies", "index"), ("UnknownTemplate", "name")]) i3 fun as4 H4 r4 s4 l4 => ?_
  have i4 := i3.run r4
  refine w_newL (by rw [List.length_map, l4]; decide) fun p4 h4 => ?_
  have e4 := Ext.new (o := .lst (as4.map V.ref)) h4
  have i4' := i4.run (R.ext i4 e4)
  refine w_cat (e4 _ _ (r4.keep _ _ (i2'.ne h3) upd_same)) upd_same (by rw [List.length_map, List.length_map, List.length_append, l1, l2, l4]; decide) fun p5 h5 => ?_
  rw [← List.map_append]
  have e5 := Ext.new (o := .lst ((as1 ++ as2 ++ as4).map V.ref)) h5
  have i5 := i4'.run (R.ext i4' e5)
  have r5 := ((r3.trans r4).trans (R.ext i4 e4)).trans (R.ext i4' e5)
  have t5 := ((t3.run ((r4.trans (R.ext i4 e4)).trans (R.ext i4' e5))).and (s4.run ((R.ext i4 e4).trans (R.ext i4' e5)))).imp fun H q => q.1.append q.2
  with_reducible refine w_gname ?_
  with_reducible refine w_ret (w_op ?_)
  refine w_var (by rfl) ?_
  with_reducible refine w_lst ?_
  refine w_ek (A := A) (x := x) (by rfl) (cs := [("BadVariable", "variable"), ("BadStep", "index"), ("BadText", "line")]) i5 fun as6 H6 r6 s6 l6 => ?_
  have i6 := i5.run r6
  refine w_newL (by rw [List.length_map, l6]; decide) fun p6 h6 => ?_
  have e6 := Ext.new (o := .lst (as6.map V.ref)) h6
  have i6' := i6.run (R.ext i6 e6)
  refine w_cat (e6 _ _ (r6.keep _ _ (i4'.ne h5) upd_same)) upd_same (by rw [List.length_map, List.length_map, List.length_append, List.length_append, l1, l2, l4, l6]; decide) fun p7 h7 => ?_
  rw [← List.map_append]
  have e7 := Ext.new (o := .lst ((as1 ++ as2 ++ as4 ++ as6).map V.ref)) h7
  have r7 := ((r5.trans r6).trans (R.ext i6 e6)).trans (R.ext i6' e7)
  have t7 := ((t5.run ((r6.trans (R.ext i6 e6)).trans (R.ext i6' e7))).and (s6.run ((R.ext i6 e6).trans (R.ext i6' e7)))).imp fun H q => q.1.append q.2
  exact k p7 _ _ r7 (i6'.ne h7) (i6'.nM h7) (Stb.new i6' h7) t7
end G
namespace G
open PySem L2 RZ
theorem rd_l_by_place {K : PySem.W.Frag} {vs : List V} {H : Hp} {Q : VK} {E : XK} (h : sp_ones K vs H Q E) : t_l_by_place K (fin Q) (start ["_law_x", "_law_found"] vs) H := by
  obtain ⟨A, x, rfl, i, k⟩ := h
  show t_l_by_place K (fin Q) [some x, none] H
  unfold t_l_by_place
  with_reducible refine w_seq (w_asg (w_lst ?_))
  refine w_ep (A := A) (x := x) (by rfl) (cs := [("BadField", "index"), ("UnknownField", "field"), ("BadWord", "word"), ("BadKind", "index"), ("UnknownKind", "name"), ("BadResource", "resource"), ("BadCount", "count")]) i fun as1 H1 r1 s1 l1 => ?_
  have i1 := i.run r1
  refine w_newL (by rw [List.length_map, l1]; decide) fun p1 h1 => ?_
  have e1 := Ext.new (o := .lst (as1.map V.ref)) h1
  have i1' := i1.run (R.ext i1 e1)
  with_reducible refine w_gname ?_
  with_reducible refine w_seq (w_asg (w_op ?_))
  refine w_var (by rfl) ?_
  with_reducible refine w_lst ?_
  refine w_ep (A := A) (x := x) (by rfl) (cs := [("BadTag", "thing"), ("BadValue", "value"), ("Unlabelled", "number"), ("BadFlag", "flag"), ("BadCopies", "index"), ("UnknownTemplate", "name")]) i1' fun as2 H2 r2 s2 l2 => ?_
  have i2 := i1'.run r2
  refine w_newL (by rw [List.length_map, l2]; decide) fun p2 h2 => ?_
  have e2 := Ext.new (o := .lst (as2.map V.ref)) h2
  have i2' := i2.run (R.ext i2 e2)
  refine w_cat (e2 _ _ (r2.keep _ _ (i1.ne h1) upd_same)) upd_same (by rw [List.length_map, List.length_map, l1, l2]; decide) fun p3 h3 => ?_
  rw [← List.map_append]
  have e3 := Ext.new (o := .lst ((as1 ++ as2).map V.ref)) h3
  have i3 := i2'.run (R.ext i2' e3)
  have r3 := (((r1.trans (R.ext i1 e1)).trans r2).trans (R.ext i2 e2)).trans (R.ext i2' e3)
  have t3 := ((s1.run ((((R.ext i1 e1).trans r2).trans (R.ext i2 e2)).trans (R.ext i2' e3))).and (s2.run ((R.ext i2 e2).trans (R.ext i2' e3)))).imp fun H q => q.1.append q.2
  with_reducible refine w_gname ?_
  with_reducible refine w_ret (w_op ?_)
  refine w_var (by rfl) ?_
  with_reducible refine w_lst ?_
  refine w_ep (A := A) (x := x) (by rfl) (cs := [("BadVariable", "variable"), ("BadStep", "index"), ("BadText", "line")]) i3 fun as6 H6 r6 s6 l6 => ?_
  have i6 := i3.run r6
  refine w_newL (by rw [List.length_map, l6]; decide) fun p6 h6 => ?_
  have e6 := Ext.new (o := .lst (as6.map V.ref)) h6
  have i6' := i6.run (R.ext i6 e6)
  refine w_cat (e6 _ _ (r6.keep _ _ (i2'.ne h3) upd_same)) upd_same (by rw [List.length_map, List.length_map, List.length_append, l1, l2, l6]; decide) fun p7 h7 => ?_
  rw [← List.map_append]
  have e7 := Ext.new (o := .lst ((as1 ++ as2 ++ as6).map V.ref)) h7
  have r7 := ((r3.trans r6).trans (R.ext i6 e6)).trans (R.ext i6' e7)
  have t7 := ((t3.run ((r6.trans (R.ext i6 e6)).trans (R.ext i6' e7))).and (s6.run ((R.ext i6 e6).trans (R.ext i6' e7)))).imp fun H q => q.1.append q.2
  exact k p7 _ _ r7 (i6'.ne h7) (i6'.nM h7) (Stb.new i6' h7) t7
/-! what the written part says of the errors -/
def more7 : List Str := ["NoWrite", "Rejected", "Offline", "BadTemplate", "BadValues", "BadCatalog", "BadCover"]
def all23 : List Str := ones.map (·.1) ++ more7
def all24 : List Str := all23 ++ [("SeenError" : Str)]
def twos8 : List (Str × Str) := [("NoWrite", "resource"), ("NoWrite", "field"), ("Rejected", "number"), ("Rejected", "stale"), ("BadTemplate", "index"), ("BadTemplate", "reason"), ("BadCatalog", "index"), ("BadCatalog", "reason")]
structure KF (K : PySem.W.Frag) : Prop where
  xf : ∀ c ∈ all24, XfC K (He.ga K c) ∧ ExcC K (He.ga K c)
  no : ∀ p ∈ ones ++ twos8, PySem.W.findIn K (.ref (He.ga K p.1)) p.2 = some none
  kit : ∀ c ∈ all24, ∀ c' ∈ all23, PySem.W.kitOne K (.ref (He.ga K c)) (.ref (He.ga K c')) = some (decide (c = c'))
  see : ∀ c ∈ all24, PySem.W.kitOne K (.ref (He.ga K c)) (.ref (He.ga K "SeenError")) = some true
  val : ∀ c ∈ all24, PySem.W.kitOne K (.ref (He.ga K c)) (.type "ValueError") = some true
/-! ### the fields, the classes -/
def tHF (K : PySem.W.Frag) : Nat → List Str → TA
  | _, [] => tNil
  | i, f :: r => tCons (tErrF K f (tOp (rIxL K) (tVar 0) (tC (.int (i : Int))))) (tHF K (i + 1) r)
def blc (c : Str) (cs : List Str) : List V := (cs.map fun c' => decide (c = c')).map V.bl
theorem blc_append {c : Str} {cs ds : List Str} : blc c cs ++ blc c ds = blc c (cs ++ ds) := by
  unfold blc
  rw [List.map_append, List.map_append]
def tKs (K : PySem.W.Frag) : List Str → TA
  | [] => tNil
  | c :: r => tCons (tCB (rIsErr K) (tCons (tVar 0) (tCons (tC (.ref (He.ga K c))) tNil))) (tKs K r)
theorem w_errF {K : PySem.W.Frag} {f : Str} {te : TE} {σ : L2.St} {H : Hp} {Q : VK} (k : te σ H fun x H1 => ∃ (a C d : Addr) (fs : List (Str × V)) (v : V), x = .ref a ∧ XfC K C ∧ PySem.W.findIn K (.ref C) f = some none ∧ H1 a = some (exo a C (some d)) ∧ H1 d = some (exd d fs) ∧ fs.lookup f = some v ∧ Q v H1) : tErrF K f te σ H Q := k
theorem ErrAt.field {K : PySem.W.Frag} {a C : Addr} {fs : List Str} {xs : List V} {f : Str} {v : V} {H : Hp} {Q : VK} (h : ErrAt a C fs xs H) (xf : XfC K C) (no : PySem.W.findIn K (.ref C) f = some none) (l : (fs.zip xs).reverse.lookup f = some v) (k : Q v H) :
    ∃ (a' C d : Addr) (fs : List (Str × V)) (v : V), V.ref a = .ref a' ∧ XfC K C ∧ PySem.W.findIn K (.ref C) f = some none ∧ H a' = some (exo a' C (some d)) ∧ H d = some (exd d fs) ∧ fs.lookup f = some v ∧ Q v H := by
  obtain ⟨d, h1, h2⟩ := h
  exact ⟨a, C, d, _, v, rfl, xf, no, h1, h2, l, k⟩
section
variable {K : PySem.W.Frag} {x : V} {σ : L2.St} {H : Hp}
theorem w_hf (kf : KF K) {L : Addr} {as : List Addr} (hσ : σ[0]? = some (some (.ref L))) (hL : H L = some (.lst (as.map V.ref))) : ∀ {cs : List (Str × Str)} {i : Nat} {QA : List V → Hp → Prop}, (∀ c ∈ cs, c ∈ ones) →
    (∀ j c, cs[j]? = some c → ∃ a, as[i + j]? = some a ∧ ErrAt a (He.ga K c.1) [c.2] [x] H) → QA (List.replicate cs.length x) H → tHF K i (cs.map (·.2)) σ H QA
  | [], i, QA, _, _, k => k
  | c :: r, i, QA, hm, h, k => by
    obtain ⟨a, ha, he⟩ := h 0 c rfl
    rw [Nat.add_zero] at ha
    have hc := hm c (List.mem_cons_self ..)
    have hc1 : c.1 ∈ all24 := List.mem_append_left _ (List.mem_append_left _ (List.mem_map_of_mem hc))
    refine w_cons (w_errF ?_)
    refine w_op (w_var hσ (w_c ?_))
    refine w_ixL (v := .ref a) hL (at_of rfl (by rw [List.getElem?_map, ha]; rfl)) ?_
    dsimp only
    refine he.field (Q := fun v H1 => tHF K (i + 1) (r.map (·.2)) σ H1 fun q H2 => QA (v :: q) H2) (kf.xf _ hc1).1 (kf.no _ (List.mem_append_left _ hc)) (v := x) (by show List.lookup c.2 [(c.2, x)] = some x; simp [List.lookup]) ?_
    refine w_hf kf hσ hL (fun c' h' => hm c' (List.mem_cons_of_mem _ h')) (fun j c' hj => ?_) ?_
    · obtain ⟨b, hb, hb2⟩ := h (j + 1) c' hj
      exact ⟨b, by rw [← hb]; congr 1; omega, hb2⟩
    · exact k
theorem w_ks (kf : KF K) {e : Addr} {c0 : Str} {d : Option Addr} (hσ : σ[0]? = some (some (.ref e))) (hc : c0 ∈ all24) (he : H e = some (exo e (He.ga K c0) d)) (hd : ∀ dx, d = some dx → ∃ fs, H dx = some (exd dx fs)) :
    ∀ {cs : List Str} {QA : List V → Hp → Prop}, (∀ c ∈ cs, c ∈ all23) → QA (blc c0 cs) H → tKs K cs σ H QA
  | [], _, _, k => k
  | c :: r, QA, hm, k => by
    refine w_cons (w_cb (w_cons (w_var hσ (w_cons (w_c (w_nil ?_))))))
    refine ⟨e, _, d, .ref (He.ga K c), _, _, rfl, .own _, (kf.xf _ hc).2, he, hd, kf.kit _ hc _ (hm c (List.mem_cons_self ..)), ?_⟩
    exact w_ks kf hσ hc he hd (fun c' h' => hm c' (List.mem_cons_of_mem _ h')) k
end
def sp_l_held (K : PySem.W.Frag) : Sp := fun vs H Q _ => ∃ (L : Addr) (as : List Addr) (x : V), vs = [.ref L] ∧ H L = some (.lst (as.map V.ref)) ∧ Errs K x as ones H ∧ ∀ L' H', Ext H H' → H L' = none → H' L' = some (.lst (List.replicate 16 x)) → Q (.ref L') H'
theorem Errs.at {K : PySem.W.Frag} {x : V} {H : Hp} : ∀ {as : List Addr} {cs : List (Str × Str)} {j : Nat} {c : Str × Str}, Errs K x as cs H → cs[j]? = some c → ∃ a, as[j]? = some a ∧ ErrAt a (He.ga K c.1) [c.2] [x] H
  | _, _, j, _, .nil, h => by simp at h
  | _, _, 0, _, .cons h _, e => by
    simp at e
    subst e
    exact ⟨_, rfl, h⟩
  | _, _, j + 1, _, .cons _ t, e => Errs.at (j := j) t (by simpa using e)
theorem Errs.ext {K : PySem.W.Frag} {x : V} {H H' : Hp} {as : List Addr} {cs : List (Str × Str)} (h : Errs K x as cs H) (e : Ext H H') : Errs K x as cs H' := Paired.mapR (fun _ _ q => q.ext e) h
theorem rd_l_held {K : PySem.W.Frag} (kf : KF K) {vs : List V} {H : Hp} {Q : VK} {E : XK} (h : sp_l_held K vs H Q E) : t_l_held K (fin Q) (start ["_law_made", "_law_found"] vs) H := by
  obtain ⟨L, as, x, rfl, hL, he, k⟩ := h
  show t_l_held K (fin Q) [some (.ref L), none] H
  unfold t_l_held
  with_reducible refine w_seq (w_asg (w_lst ?_))
  refine w_hf kf (L := L) (as := as) (x := x) (by rfl) hL (cs := ones.take 6) (i := 0) (fun c h => List.mem_of_mem_take h) (fun j c h => ?_) ?_
  · have h2 : ones[j]? = some c := by
      have hj : j < 6 := by
        have := (List.getElem?_eq_some_iff.mp h).1
        exact this
      rw [List.getElem?_take_of_lt hj] at h
      exact h
    rw [Nat.zero_add]
    exact he.at h2
  refine w_newL (by rw [List.length_replicate]; decide) fun p1 h1 => ?_
  have e1 := Ext.new (o := .lst (List.replicate 6 x)) h1
  with_reducible refine w_gname ?_
  with_reducible refine w_seq (w_asg (w_op ?_))
  refine w_var (by rfl) ?_
  with_reducible refine w_lst ?_
  refine w_hf kf (L := L) (as := as) (x := x) (by rfl) (e1 _ _ hL) (cs := (ones.drop 6).take 6) (i := 6) (fun c h => List.mem_of_mem_drop (List.mem_of_mem_take h)) (fun j c h => ?_) ?_
  · have h2 : ones[6 + j]? = some c := by
      have hj : j < 6 := by
        have := (List.getElem?_eq_some_iff.mp h).1
        exact this
      rw [List.getElem?_take_of_lt hj, List.getElem?_drop] at h
      exact h
    obtain ⟨a, ha, hb⟩ := he.at h2
    exact ⟨a, ha, hb.ext e1⟩
  refine w_newL (by rw [List.length_replicate]; decide) fun p2 h2 => ?_
  have e2 := e1.trans (Ext.new (o := .lst (List.replicate 6 x)) h2)
  refine w_cat (Ext.new h2 _ _ upd_same) upd_same (by rw [List.length_replicate, List.length_replicate]; decide) fun p3 h3 => ?_
  have e3 := e2.trans (Ext.new (o := .lst (List.replicate 6 x ++ List.replicate 6 x)) h3)
  with_reducible refine w_gname ?_
  with_reducible refine w_ret (w_op ?_)
  refine w_var (by rfl) ?_
  with_reducible refine w_lst ?_
  refine w_hf kf (L := L) (as := as) (x := x) (by rfl) (e3 _ _ hL) (cs := ones.drop 12) (i := 12) (fun c h => List.mem_of_mem_drop h) (fun j c h => ?_) ?_
  · rw [List.getElem?_drop] at h
    obtain ⟨a, ha, hb⟩ := he.at h
    exact ⟨a, ha, hb.ext e3⟩
  refine w_newL (by rw [List.length_replicate]; decide) fun p4 h4 => ?_
  have e4 := Ext.new (o := .lst (List.replicate 4 x)) h4
  refine w_cat (e4 _ _ upd_same) upd_same (by rw [List.length_append, List.length_replicate, List.length_replicate]; decide) fun p5 h5 => ?_
  have e5 := (e3.trans e4).trans (Ext.new (o := .lst (List.replicate 6 x ++ List.replicate 6 x ++ List.replicate 4 x)) h5)
  exact k p5 _ e5 ((e3.trans e4).back h5) upd_same
def sp_l_classes (K : PySem.W.Frag) : Sp := fun vs H Q _ => ∃ (e : Addr) (c : Str) (d : Option Addr), vs = [.ref e] ∧ c ∈ all24 ∧ H e = some (exo e (He.ga K c) d) ∧ (∀ dx, d = some dx → ∃ fs, H dx = some (exd dx fs)) ∧
  ∀ L H', Ext H H' → H L = none → H' L = some (.lst (blc c all23)) → Q (.ref L) H'
theorem rd_l_classes {K : PySem.W.Frag} (kf : KF K) {vs : List V} {H : Hp} {Q : VK} {E : XK} (h : sp_l_classes K vs H Q E) : t_l_classes K (fin Q) (start ["_law_e", "_law_found"] vs) H := by
  obtain ⟨e, c, d, rfl, hc, he, hd, k⟩ := h
  have hdx : ∀ {H'}, Ext H H' → ∀ dx, d = some dx → ∃ fs, H' dx = some (exd dx fs) := fun x dx q => by
    obtain ⟨fs, h⟩ := hd dx q
    exact ⟨fs, x _ _ h⟩
  show t_l_classes K (fin Q) [some (.ref e), none] H
  unfold t_l_classes
  with_reducible refine w_seq (w_asg (w_lst ?_))
  refine w_ks kf (e := e) (c0 := c) (d := d) (by rfl) hc he hd (cs := (["BadField", "UnknownField", "BadWord", "BadKind"] : List Str)) (by decide) ?_
  refine w_newL (by show 4 ≤ 100000; decide) fun p0 h0 => ?_
  have e0 := Ext.new (o := .lst (blc c (["BadField", "UnknownField", "BadWord", "BadKind"] : List Str))) h0
  with_reducible refine w_gname ?_
  with_reducible refine w_seq (w_asg (w_op ?_))
  refine w_var (by rfl) ?_
  with_reducible refine w_lst ?_
  refine w_ks kf (e := e) (c0 := c) (d := d) (by rfl) hc (e0 _ _ he) (hdx e0) (cs := (["UnknownKind", "BadResource", "BadCount"] : List Str)) (by decide) ?_
  refine w_newL (by show 3 ≤ 100000; decide) fun q1 g1 => ?_
  have f1 := Ext.new (o := .lst (blc c (["UnknownKind", "BadResource", "BadCount"] : List Str))) g1
  refine w_cat (f1 _ _ upd_same) upd_same (by show 4 + 3 ≤ 100000; decide) fun p1 h1 => ?_
  rw [blc_append]
  have e1 := (e0.trans f1).trans (Ext.new (o := .lst (blc c (["BadField", "UnknownField", "BadWord", "BadKind", "UnknownKind", "BadResource", "BadCount"] : List Str))) h1)
  with_reducible refine w_gname ?_
  with_reducible refine w_seq (w_asg (w_op ?_))
  refine w_var (by rfl) ?_
  with_reducible refine w_lst ?_
  refine w_ks kf (e := e) (c0 := c) (d := d) (by rfl) hc (e1 _ _ he) (hdx e1) (cs := (["BadTag", "BadValue", "Unlabelled"] : List Str)) (by decide) ?_
  refine w_newL (by show 3 ≤ 100000; decide) fun q2 g2 => ?_
  have f2 := Ext.new (o := .lst (blc c (["BadTag", "BadValue", "Unlabelled"] : List Str))) g2
  refine w_cat (f2 _ _ upd_same) upd_same (by show 7 + 3 ≤ 100000; decide) fun p2 h2 => ?_
  rw [blc_append]
  have e2 := (e1.trans f2).trans (Ext.new (o := .lst (blc c (["BadField", "UnknownField", "BadWord", "BadKind", "UnknownKind", "BadResource", "BadCount", "BadTag", "BadValue", "Unlabelled"] : List Str))) h2)
  with_reducible refine w_gname ?_
  with_reducible refine w_seq (w_asg (w_op ?_))
  refine w_var (by rfl) ?_
  with_reducible refine w_lst ?_
  refine w_ks kf (e := e) (c0 := c) (d := d) (by rfl) hc (e2 _ _ he) (hdx e2) (cs := (["BadFlag", "BadCopies", "UnknownTemplate"] : List Str)) (by decide) ?_
  refine w_newL (by show 3 ≤ 100000; decide) fun q3 g3 => ?_
  have f3 := Ext.new (o := .lst (blc c (["BadFlag", "BadCopies", "UnknownTemplate"] : List Str))) g3
  refine w_cat (f3 _ _ upd_same) upd_same (by show 10 + 3 ≤ 100000; decide) fun p3 h3 => ?_
  rw [blc_append]
  have e3 := (e2.trans f3).trans (Ext.new (o := .lst (blc c (["BadField", "UnknownField", "BadWord", "BadKind", "UnknownKind", "BadResource", "BadCount", "BadTag", "BadValue", "Unlabelled", "BadFlag", "BadCopies", "UnknownTemplate"] : List Str))) h3)
  with_reducible refine w_gname ?_
  with_reducible refine w_seq (w_asg (w_op ?_))
  refine w_var (by rfl) ?_
  with_reducible refine w_lst ?_
  refine w_ks kf (e := e) (c0 := c) (d := d) (by rfl) hc (e3 _ _ he) (hdx e3) (cs := (["BadVariable", "BadStep", "BadText"] : List Str)) (by decide) ?_
  refine w_newL (by show 3 ≤ 100000; decide) fun q4 g4 => ?_
  have f4 := Ext.new (o := .lst (blc c (["BadVariable", "BadStep", "BadText"] : List Str))) g4
  refine w_cat (f4 _ _ upd_same) upd_same (by show 13 + 3 ≤ 100000; decide) fun p4 h4 => ?_
  rw [blc_append]
  have e4 := (e3.trans f4).trans (Ext.new (o := .lst (blc c (["BadField", "UnknownField", "BadWord", "BadKind", "UnknownKind", "BadResource", "BadCount", "BadTag", "BadValue", "Unlabelled", "BadFlag", "BadCopies", "UnknownTemplate", "BadVariable", "BadStep", "BadText"] : List Str))) h4)
  with_reducible refine w_gname ?_
  with_reducible refine w_seq (w_asg (w_op ?_))
  refine w_var (by rfl) ?_
  with_reducible refine w_lst ?_
  refine w_ks kf (e := e) (c0 := c) (d := d) (by rfl) hc (e4 _ _ he) (hdx e4) (cs := (["NoWrite", "Rejected", "Offline"] : List Str)) (by decide) ?_
  refine w_newL (by show 3 ≤ 100000; decide) fun q5 g5 => ?_
  have f5 := Ext.new (o := .lst (blc c (["NoWrite", "Rejected", "Offline"] : List Str))) g5
  refine w_cat (f5 _ _ upd_same) upd_same (by show 16 + 3 ≤ 100000; decide) fun p5 h5 => ?_
  rw [blc_append]
  have e5 := (e4.trans f5).trans (Ext.new (o := .lst (blc c (["BadField", "UnknownField", "BadWord", "BadKind", "UnknownKind", "BadResource", "BadCount", "BadTag", "BadValue", "Unlabelled", "BadFlag", "BadCopies", "UnknownTemplate", "BadVariable", "BadStep", "BadText", "NoWrite", "Rejected", "Offline"] : List Str))) h5)
  with_reducible refine w_gname ?_
  with_reducible refine w_seq (w_asg (w_op ?_))
  refine w_var (by rfl) ?_
  with_reducible refine w_lst ?_
  refine w_ks kf (e := e) (c0 := c) (d := d) (by rfl) hc (e5 _ _ he) (hdx e5) (cs := (["BadTemplate", "BadValues", "BadCatalog"] : List Str)) (by decide) ?_
  refine w_newL (by show 3 ≤ 100000; decide) fun q6 g6 => ?_
  have f6 := Ext.new (o := .lst (blc c (["BadTemplate", "BadValues", "BadCatalog"] : List Str))) g6
  refine w_cat (f6 _ _ upd_same) upd_same (by show 19 + 3 ≤ 100000; decide) fun p6 h6 => ?_
  rw [blc_append]
  have e6 := (e5.trans f6).trans (Ext.new (o := .lst (blc c (["BadField", "UnknownField", "BadWord", "BadKind", "UnknownKind", "BadResource", "BadCount", "BadTag", "BadValue", "Unlabelled", "BadFlag", "BadCopies", "UnknownTemplate", "BadVariable", "BadStep", "BadText", "NoWrite", "Rejected", "Offline", "BadTemplate", "BadValues", "BadCatalog"] : List Str))) h6)
  with_reducible refine w_gname ?_
  with_reducible refine w_ret (w_op ?_)
  refine w_var (by rfl) ?_
  with_reducible refine w_lst ?_
  refine w_ks kf (e := e) (c0 := c) (d := d) (by rfl) hc (e6 _ _ he) (hdx e6) (cs := (["BadCover"] : List Str)) (by decide) ?_
  refine w_newL (by show 1 ≤ 100000; decide) fun q7 g7 => ?_
  have f7 := Ext.new (o := .lst (blc c (["BadCover"] : List Str))) g7
  refine w_cat (f7 _ _ upd_same) upd_same (by show 22 + 1 ≤ 100000; decide) fun p7 h7 => ?_
  rw [blc_append]
  have e7 := (e6.trans f7).trans (Ext.new (o := .lst (blc c (["BadField", "UnknownField", "BadWord", "BadKind", "UnknownKind", "BadResource", "BadCount", "BadTag", "BadValue", "Unlabelled", "BadFlag", "BadCopies", "UnknownTemplate", "BadVariable", "BadStep", "BadText", "NoWrite", "Rejected", "Offline", "BadTemplate", "BadValues", "BadCatalog", "BadCover"] : List Str))) h7)
  exact k p7 _ e7 ((e6.trans f7).back h7) upd_same
end G
namespace G
open PySem L2 RZ
local macro_rules | `(tactic| walk_at "wI") => `(tactic| first | exact mulL (by decide) | exact mulR (by decide) | exact powc (by decide) | assumption)
local macro_rules | `(tactic| walk_at "w1") => `(tactic| with_reducible (first | refine w_seq ?_ | refine w_asg ?_ | refine w_op ?_ | refine w_c ?_ | refine w_gname ?_ | refine w_cons ?_ | refine w_nil ?_ | refine w_cb ?_ | refine w_if ?_ | refine w_test ?_ | refine w_B ?_ | refine w_bl ?_ | refine w_ret ?_ | refine w_drop ?_ | refine w_gsub ?_ | refine w_I0 ?_ | refine w_int ?_ | refine w_and ?_ | refine w_or ?_ | refine w_not ?_ | refine w_andV ?_ | refine w_orV ?_ | refine w_notV ?_ | refine w_ifE ?_ | refine w_un ?_ | refine w_neg ?_ | refine w_call ?_ | refine w_lst ?_ | refine w_tup ?_ | refine w_ipI ?_ | refine w_par ?_ | refine w_pair ?_ | refine w_retN ?_ | refine w_next ?_ | refine w_bm ?_ | refine w_for ?_ | refine w_iL ?_ | refine w_iT ?_ | refine w_iS ?_ | refine w_itS ?_ | refine w_iR1 ?_ | refine w_iE ?_ | refine w_iET ?_ | refine w_iZ ?_ | refine w_gcons ?_ | refine w_gnil ?_ | refine w_lc ?_))
local macro_rules | `(tactic| walk_at "w2") => `(tactic| first | walk_at "w1" | refine w_var (by rfl) ?_ | refine w_aug (by rfl) ?_ | refine w_eq (by rfl) ?_ | refine w_ne (by rfl) ?_ | refine w_ixL (by assumption) (by rfl) ?_ | refine w_lenL (by assumption) ?_ | refine w_I (by walk_at "wI") ?_ | refine w_gtup (by assumption) (by rfl) ?_ | refine w_tyL (by assumption) ?_)
local macro_rules | `(tactic| walk_at "w") => `(tactic| repeat walk_at "w2")
/-! ### a wider surrounding -/
theorem Stb.addR {A : Amb} {φ : Hp → Prop} {H H1 : Hp} {l : Addr} (f : Stb A φ H) (r : R A H H1) (hl : H l = none) : Stb (A.add l) φ H1 := fun H2 y => f H2 fun a o h1 h2 h =>
  y a o h1 (fun z => by
    rcases List.mem_cons.mp z with z | z
    · rw [z, hl] at h
      cases h
    · exact h2 z) (r.keep a o h1 h)
theorem I.addR {A : Amb} {H H1 : Hp} {l : Addr} (i : I A H) (r : R A H H1) (hl : H l = none) (h1 : H1 l ≠ none) : I (A.add l) H1 := by
  have j := i.run r
  refine ⟨j.ds, fun a ha => ?_, fun z => ?_, fun z => ?_, j.cs, j.nl⟩
  · rcases List.mem_cons.mp ha with z | z
    · rw [z]
      exact h1
    · exact j.al a z
  · rcases List.mem_cons.mp z with z | z
    · exact i.ne hl z.symm
    · exact j.sM z
  · rcases List.mem_cons.mp z with z | z
    · exact i.nc hl z.symm
    · exact j.cM z
structure Up (A B : Amb) (H H' : Hp) : Prop where
  s : B.s = A.s
  c : B.c = A.c
  ns : B.ns = A.ns
  st : ∀ φ : Hp → Prop, Stb A φ H → Stb B φ H'
  mem : ∀ a ∈ A.M, a ∈ B.M
theorem Up.r {A B : Amb} {H H' X Y : Hp} (u : Up A B H H') (r : R B X Y) : R A X Y := by
  refine ⟨fun a o h1 h => r.keep a o (by rw [u.s]; exact h1) h, ?_⟩
  have d := r.ds
  unfold DS at d ⊢
  rw [u.s, u.c, u.ns] at d
  exact d
/-- a drawn thing: a list may be changed -/
def Xp (A : Amb) (n : Nat) (v : V) (H : Hp) : Prop := Stb A (fun H => Sd 2 v H ∧ NL v H) H ∨ ∃ l xs, v = .ref l ∧ l ∈ A.M ∧ H l = some (.lst xs) ∧ xs.length ≤ n ∧ ∀ x ∈ xs, Stb A (Sd 1 x) H
theorem Xp.run {A : Amb} {n : Nat} {v : V} {H H' : Hp} (x : Xp A n v H) (i : I A H) (r : R A H H') : Xp A n v H' := by
  rcases x with x | ⟨l, xs, rfl, h1, h2, h3, h4⟩
  · exact .inl (x.run r)
  · exact .inr ⟨l, xs, rfl, h1, r.keep _ _ (fun z => i.sM (by rw [← z]; exact h1)) h2, h3, fun y hy => (h4 y hy).run r⟩
theorem Xp.up {A B : Amb} {n : Nat} {v : V} {H H' : Hp} (x : Xp A n v H) (u : Up A B H H') (i : I A H) (r : R A H H') : Xp B n v H' := by
  rcases x with x | ⟨l, xs, rfl, h1, h2, h3, h4⟩
  · exact .inl (u.st _ x)
  · exact .inr ⟨l, xs, rfl, u.mem _ h1, r.keep _ _ (fun z => i.sM (by rw [← z]; exact h1)) h2, h3, fun y hy => u.st _ (h4 y hy)⟩
theorem Xp.mono {A : Amb} {n m : Nat} {v : V} {H : Hp} (x : Xp A n v H) (h : n ≤ m) : Xp A m v H := by
  rcases x with x | ⟨l, xs, rfl, h1, h2, h3, h4⟩
  · exact .inl x
  · exact .inr ⟨l, xs, rfl, h1, h2, Nat.le_trans h3 h, h4⟩
theorem new_up {A : Amb} {H H' : Hp} {v : V} (i : I A H) (r : R A H H') (nw : New A H 2 v H') : ∃ B, Up A B H H' ∧ I B H' ∧ Xp B 2 v H' := by
  rcases nw with nw | ⟨l, xs, rfl, h0, h1, h2, h3, h4⟩
  · exact ⟨A, ⟨rfl, rfl, rfl, fun φ f => f.run r, fun _ h => h⟩, i.run r, .inl nw⟩
  · exact ⟨A.add l, ⟨rfl, rfl, rfl, fun φ f => f.addR r h0, fun _ h => List.mem_cons_of_mem _ h⟩, i.addR r h0 (by rw [h1]; exact fun z => nomatch z), .inr ⟨l, xs, rfl, Amb.mem, h1, h2, h4⟩⟩
theorem Sm.up : ∀ (n : Nat) (H : Hp) (x y : V), Sm H n x y → Sm H (n + 1) x y
  | 0, _, _, _, h => h.elim
  | n + 1, H, x, y, h => by
    rcases h with h | ⟨a, b, xs, ys, h1, h2, h3, h4, h5, h6⟩ | ⟨a, b, xs, ys, h1, h2, h3, h4, h5, h6⟩ | h
    · exact .inl h
    · exact .inr (.inl ⟨a, b, xs, ys, h1, h2, h3, h4, h5, Paired.mapR (Sm.up n H) h6⟩)
    · exact .inr (.inr (.inl ⟨a, b, xs, ys, h1, h2, h3, h4, h5, Paired.mapR (Sm.up n H) h6⟩))
    · exact .inr (.inr (.inr h))
theorem Xp.sm {A : Amb} {n : Nat} {v : V} {H : Hp} (x : Xp A n v H) (h : n ≤ 100) : Sm H 3 v v := by
  rcases x with x | ⟨l, xs, rfl, h1, h2, h3, h4⟩
  · exact Sd.sm 2 v H x.now.1
  · exact .inr (.inl ⟨l, l, xs, xs, rfl, rfl, h2, h2, by omega, paired_self fun y hy => Sd.sm 1 y H (h4 y hy).now⟩)
/-! ### errors of two fields -/
def Errs2 (K : PySem.W.Frag) (x y : V) (as : List Addr) (cs : List (Str × Str × Str)) (H : Hp) : Prop := Paired (fun a (c : Str × Str × Str) => ErrAt a (He.ga K c.1) [c.2.1, c.2.2] [x, y] H) as cs
def tE2P (K : PySem.W.Frag) : List (Str × Str × Str) → TA
  | [] => tNil
  | c :: r => tCons (tErr (He.ga K c.1) [c.2.1, c.2.2] (tCons (tVar 11) (tCons (tVar 12) tNil))) (tE2P K r)
def tE2K (K : PySem.W.Frag) : List (Str × Str × Str) → TA
  | [] => tNil
  | c :: r => tCons (tErrK (He.ga K c.1) [c.2.1, c.2.2] (tCons (tVar 12) (tCons (tVar 11) tNil))) (tE2K K r)
section
variable {K : PySem.W.Frag} {A : Amb} {x y : V} {σ : L2.St}
theorem w_e2p (hx : σ[11]? = some (some x)) (hy : σ[12]? = some (some y)) : ∀ {cs : List (Str × Str × Str)} {H : Hp} {QA : List V → Hp → Prop}, I A H → (∀ as H', R A H H' → Stb A (Errs2 K x y as cs) H' → as.length = cs.length → QA (as.map V.ref) H') → tE2P K cs σ H QA
  | [], H, QA, i, k => k [] H (R.refl i) (fun _ _ => .nil) rfl
  | c :: r, H, QA, i, k => by
    refine w_cons ?_
    refine w_cons (w_var hx (w_cons (w_var hy (w_nil ⟨rfl, ?_⟩))))
    refine w_made i fun a H1 r1 i1 s1 => ?_
    refine w_e2p hx hy i1 fun as H2 r2 s2 hl => ?_
    exact k (a :: as) H2 (r1.trans r2) ((s1.run r2).and s2 |>.imp fun H q => .cons q.1 q.2) (congrArg Nat.succ hl)
theorem w_e2k (hx : σ[11]? = some (some x)) (hy : σ[12]? = some (some y)) : ∀ {cs : List (Str × Str × Str)} {H : Hp} {QA : List V → Hp → Prop}, I A H → (∀ as H', R A H H' → Stb A (Errs2 K x y as cs) H' → as.length = cs.length → QA (as.map V.ref) H') → tE2K K cs σ H QA
  | [], H, QA, i, k => k [] H (R.refl i) (fun _ _ => .nil) rfl
  | c :: r, H, QA, i, k => by
    refine w_cons ?_
    refine w_cons (w_var hy (w_cons (w_var hx (w_nil ⟨rfl, ?_⟩))))
    refine w_made i fun a H1 r1 i1 s1 => ?_
    refine w_e2k hx hy i1 fun as H2 r2 s2 hl => ?_
    exact k (a :: as) H2 (r1.trans r2) ((s1.run r2).and s2 |>.imp fun H q => .cons q.1 q.2) (congrArg Nat.succ hl)
theorem w_err0 {C : Addr} {H : Hp} {Q : VK} (i : I A H) (k : ∀ a H', R A H H' → I A H' → Stb A (fun H => H a = some (exo a C none)) H' → Q (.ref a) H') : tErr0 C σ H Q := fun a ha => by
  have r := R.ext i (Ext.new (o := exo a C none) ha)
  exact k a _ r (i.run r) (Stb.new i ha)
end
def four : List (Str × Str × Str) := [("NoWrite", "resource", "field"), ("Rejected", "number", "stale"), ("BadTemplate", "index", "reason"), ("BadCatalog", "index", "reason")]
/-- an error of the class named c -/
def Cl (K : PySem.W.Frag) (a : Addr) (c : Str) (H : Hp) : Prop := ∃ d, H a = some (exo a (He.ga K c) d) ∧ ∀ dx, d = some dx → ∃ fs, H dx = some (exd dx fs)
theorem ErrAt.cl {K : PySem.W.Frag} {a : Addr} {c : Str} {fs : List Str} {xs : List V} {H : Hp} (h : ErrAt a (He.ga K c) fs xs H) : Cl K a c H := by
  obtain ⟨d, h1, h2⟩ := h
  exact ⟨_, h1, fun dx e => ⟨_, by cases e; exact h2⟩⟩
/-! ### lists of bools -/
theorem bools_lay : ∀ bs : List Bool, PyData.canLayAll0 (bs.map PyData.bool) = true ∧ PyData.depthAll (bs.map PyData.bool) ≤ 1
  | [] => ⟨by simp [PyData.canLayAll0], by simp [PyData.depthAll]⟩
  | b :: bs => by
    obtain ⟨h1, h2⟩ := bools_lay bs
    exact ⟨by simp [PyData.canLayAll0, PyData.canLay0, h1], by simp [PyData.depthAll, PyData.depth]; omega⟩
theorem bools_dp (K : PySem.W.Frag) (H : Hp) : ∀ bs : List Bool, DpAll K H (bs.map V.bl) (bs.map PyData.bool)
  | [] => .nil
  | b :: bs => .cons (.bl b) (bools_dp K H bs)
theorem bools_shaped (bs : List Bool) : SeqAt.shaped (.list (bs.map PyData.bool)) = true := by
  obtain ⟨h1, h2⟩ := bools_lay bs
  unfold SeqAt.shaped
  rw [Bool.and_eq_true]
  exact ⟨by simp [PyData.canLay0, h1], decide_eq_true (by simp [PyData.depth]; omega)⟩
theorem w_neB {K : PySem.W.Frag} {H : Hp} {Q : VK} {a b : Addr} {bs : List Bool} (h : H a = some (.lst (bs.map V.bl))) (h2 : H b = some (.lst (bs.map V.bl))) (k : Q (.bl false) H) : rNeD K (.ref a) (.ref b) H Q := by
  refine ⟨_, _, .lst (SqL.of h) (bools_dp K H bs), .lst (SqL.of h2) (bools_dp K H bs), bools_shaped bs, bools_shaped bs, ?_⟩
  have e : PyData.eqv (.list (bs.map PyData.bool)) (.list (bs.map PyData.bool)) = true := SeqAt.eqv_refl _ (SeqAt.canLay_of_shaped (bools_shaped bs))
  rw [e]
  exact k
end G
namespace G
open PySem L2 RZ
local macro_rules | `(tactic| walk_at "wI") => `(tactic| first | exact mulL (by decide) | exact mulR (by decide) | exact powc (by decide) | assumption)
local macro_rules | `(tactic| walk_at "w1") => `(tactic| with_reducible (first | refine w_seq ?_ | refine w_asg ?_ | refine w_op ?_ | refine w_c ?_ | refine w_gname ?_ | refine w_cons ?_ | refine w_nil ?_ | refine w_cb ?_ | refine w_if ?_ | refine w_test ?_ | refine w_B ?_ | refine w_bl ?_ | refine w_ret ?_ | refine w_drop ?_ | refine w_gsub ?_ | refine w_I0 ?_ | refine w_int ?_ | refine w_and ?_ | refine w_or ?_ | refine w_not ?_ | refine w_andV ?_ | refine w_orV ?_ | refine w_notV ?_ | refine w_ifE ?_ | refine w_un ?_ | refine w_neg ?_ | refine w_call ?_ | refine w_lst ?_ | refine w_tup ?_ | refine w_ipI ?_ | refine w_par ?_ | refine w_pair ?_ | refine w_retN ?_ | refine w_next ?_ | refine w_bm ?_ | refine w_for ?_ | refine w_iL ?_ | refine w_iT ?_ | refine w_iS ?_ | refine w_itS ?_ | refine w_iR1 ?_ | refine w_iE ?_ | refine w_iET ?_ | refine w_iZ ?_ | refine w_gcons ?_ | refine w_gnil ?_ | refine w_lc ?_))
local macro_rules | `(tactic| walk_at "w2") => `(tactic| first | walk_at "w1" | refine w_var (by rfl) ?_ | refine w_aug (by rfl) ?_ | refine w_eq (by rfl) ?_ | refine w_ne (by rfl) ?_ | refine w_ixL (by assumption) (by rfl) ?_ | refine w_lenL (by assumption) ?_ | refine w_I (by walk_at "wI") ?_ | refine w_gtup (by assumption) (by rfl) ?_ | refine w_tyL (by assumption) ?_)
local macro_rules | `(tactic| walk_at "w") => `(tactic| repeat walk_at "w2")
theorem Up.i {A B : Amb} {H H' X : Hp} (u : Up A B H H') (i : I B X) : I A X := by
  have d := i.ds
  unfold DS at d
  rw [u.s, u.c, u.ns] at d
  exact ⟨d, fun a h => i.al a (u.mem a h), fun z => i.sM (u.mem _ (by rw [u.s]; exact z)), fun z => i.cM (u.mem _ (by rw [u.c]; exact z)), by rw [← u.s, ← u.c]; exact i.cs, by rw [← u.ns]; exact i.nl⟩
theorem Xp.grow {K : PySem.W.Frag} {D : Amb} {n : Nat} {z : V} {H : Hp} (xz : Xp D n z H) : (∃ t, TyX K H z (.type t) ∧ PySem.W.kitOne K (.type t) (.type "list") = some false) ∨
    ∃ l xs, z = .ref l ∧ l ∈ D.M ∧ H l = some (.lst xs) ∧ xs.length ≤ n ∧ ∀ w, Xp D n w H → Xp D (n + 1) w (upd H l (.lst (xs ++ [.str "more"]))) := by
  rcases xz with xz | ⟨l, xs, rfl, h1, h2, h3, h4⟩
  · refine .inl ?_
    rcases xz.now.2 with hf | ⟨l, xs, rfl, h1⟩ | ⟨l, kvs, rfl, h1⟩
    · cases z with
      | non => exact ⟨"NoneType", .base .non, by kernel_rfl⟩
      | bl c => exact ⟨"bool", .base (.bl c), by kernel_rfl⟩
      | int c => exact ⟨"int", .base (.int c), by kernel_rfl⟩
      | str c => exact ⟨"str", .base (.str c), by kernel_rfl⟩
      | _ => cases hf
    · exact ⟨"tuple", .base (.tup h1), by kernel_rfl⟩
    · exact ⟨"dict", .base (.dK h1), by kernel_rfl⟩
  · refine .inr ⟨l, xs, rfl, h1, h2, h3, fun w hw => ?_⟩
    rcases hw with hw | ⟨l', ys, rfl, g1, g2, g3, g4⟩
    · exact .inl (hw.mono (S.mut h1))
    · by_cases e : l' = l
      · subst e
        rw [h2] at g2
        cases g2
        refine .inr ⟨l', _, rfl, g1, upd_same, by rw [List.length_append]; exact Nat.succ_le_succ g3, fun y hy => ?_⟩
        rcases List.mem_append.mp hy with hy | hy
        · exact (g4 y hy).mono (S.mut h1)
        · obtain rfl := List.mem_singleton.mp hy
          exact fun _ _ => .inl rfl
      · exact .inr ⟨l', ys, rfl, g1, by rw [upd_ne e]; exact g2, Nat.le_succ_of_le g3, fun y hy => (g4 y hy).mono (S.mut h1)⟩
section
variable {K : PySem.W.Frag} {D : Ends} {H : Hp} {x y : V} {v0 v1 v2 v3 v4 v5 v6 v7 v8 v9 v10 v13 v14 v15 v16 v17 v18 : Option V} {p3 L1 M2 : Addr} {as1 as2 : List Addr}
theorem step8 (kf : KF K) (h3 : H p3 = some (.lst [.ref L1, .ref M2])) (hL1 : H L1 = some (.lst (as1.map V.ref))) (hL2 : H M2 = some (.lst (as2.map V.ref))) (e1 : Errs K x as1 ones H) (e2 : Errs K x as2 ones H) (sx : Sm H 4 x x)
    (hk : ∀ w8 H', Ext H H' → D.nx [v0, v1, v2, some (.ref p3), v4, v5, v6, v7, w8, v9, v10, some x, some y, v13, v14, v15, v16, v17, v18] H') :
    tFor (iList K (tVar 3)) (gName 8) (tIfS (tNot (tB (tCB (rAll K) (tCons (tLc (iList K (tCall (sp_l_held K) [] E0 (tCons (tVar 8) tNil))) (gName 17) tYes (tCall (sp_l_same 4) [] E0 (tCons (tVar 17) (tCons (tVar 11) tNil))) [17]) tNil)))) (tRet (tC (.bl false))) tNext) D
      [v0, v1, v2, some (.ref p3), v4, v5, v6, v7, v8, v9, v10, some x, some y, v13, v14, v15, v16, v17, v18] H := by
  with_reducible refine w_for (w_iL ?_)
  refine w_var (by rfl) ?_
  refine w_itL (SqL.of h3) ?_
  refine lp_list (xs := [.ref L1, .ref M2]) (fun _ σ H' => ∃ w8, σ = [v0, v1, v2, some (.ref p3), v4, v5, v6, v7, w8, v9, v10, some x, some y, v13, v14, v15, v16, v17, v18] ∧ Ext H H') ⟨v8, rfl, Ext.refl⟩ (fun _ _ _ _ q => by
    obtain ⟨_, _, e⟩ := q
    exact SqL.of (e _ _ h3)) ?_ (fun σ H' q => by
    obtain ⟨w8, rfl, e⟩ := q
    exact hk w8 H' e)
  rintro i z σ H1 hz ⟨w8, rfl, e⟩
  obtain ⟨L, as, rfl, hL, he⟩ : ∃ L as, z = .ref L ∧ H1 L = some (.lst (as.map V.ref)) ∧ Errs K x as ones H1 := by
    match i, hz with
    | 0, hz => exact ⟨L1, as1, (Option.some.inj hz).symm, e _ _ hL1, e1.ext e⟩
    | 1, hz => exact ⟨M2, as2, (Option.some.inj hz).symm, e _ _ hL2, e2.ext e⟩
    | i + 2, hz => simp at hz
  with_reducible refine w_gname (w_if (w_not (w_B (w_cb (w_cons (w_lc (w_iL (w_call (w_cons ?_)))))))))
  refine w_var (by rfl) (w_nil ?_)
  refine ⟨L, as, x, rfl, hL, he, fun L' H2 e2' n2 h2 => ?_⟩
  refine w_itL (SqL.of h2) ?_
  intro Dl hD
  refine lc_of (L2.walk_list (a := L') (xs := List.replicate 16 x)) (fun j H' => Ext H2 H' ∧ H' Dl = some (.lst ((List.replicate j true).map V.bl))) ⟨Ext.new hD, upd_same⟩ (fun _ H' _ q => SqL.of (q.1 _ _ h2)) ?_ ?_
  · rintro j z H3 H4 hj ⟨e3, hl⟩ ⟨rfl, hz⟩
    obtain rfl : z = x := by
      rw [List.getElem?_replicate] at hz
      split at hz
      · exact (Option.some.inj hz).symm
      · cases hz
    with_reducible refine w_gname ?_
    refine ⟨rfl, w_yes (iteT ?_)⟩
    with_reducible refine w_call (w_cons ?_)
    refine w_var (v := z) (by rfl) ?_
    with_reducible refine w_cons ?_
    refine w_var (v := z) (by rfl) (w_nil ?_)
    refine ⟨z, z, rfl, Sm.mono ((e.trans e2').trans e3) 4 _ _ sx, fun H5 e5 => ?_⟩
    refine ⟨_, e5 _ _ hl, ?_, (e3.trans e5).mut hD, ?_⟩
    · rw [List.length_map, List.length_replicate]
      exact Nat.lt_of_lt_of_le hj (by rw [List.length_replicate]; decide)
    · rw [upd_same, List.replicate_succ', List.map_append]
      rfl
  · rintro H3 ⟨e3, hl⟩
    with_reducible refine w_nil ?_
    refine w_all hl ?_
    rw [all_rep]
    refine w_bl ?_
    refine iteF ?_
    with_reducible refine w_next ?_
    exact ⟨_, rfl, (e.trans e2').trans e3⟩
end
end G
namespace G
open PySem L2 RZ
local macro_rules | `(tactic| walk_at "wI") => `(tactic| first | exact mulL (by decide) | exact mulR (by decide) | exact powc (by decide) | assumption)
local macro_rules | `(tactic| walk_at "w1") => `(tactic| with_reducible (first | refine w_seq ?_ | refine w_asg ?_ | refine w_op ?_ | refine w_c ?_ | refine w_gname ?_ | refine w_cons ?_ | refine w_nil ?_ | refine w_cb ?_ | refine w_if ?_ | refine w_test ?_ | refine w_B ?_ | refine w_bl ?_ | refine w_ret ?_ | refine w_drop ?_ | refine w_gsub ?_ | refine w_I0 ?_ | refine w_int ?_ | refine w_and ?_ | refine w_or ?_ | refine w_not ?_ | refine w_andV ?_ | refine w_orV ?_ | refine w_notV ?_ | refine w_ifE ?_ | refine w_un ?_ | refine w_neg ?_ | refine w_call ?_ | refine w_lst ?_ | refine w_tup ?_ | refine w_ipI ?_ | refine w_par ?_ | refine w_pair ?_ | refine w_retN ?_ | refine w_next ?_ | refine w_bm ?_ | refine w_for ?_ | refine w_iL ?_ | refine w_iT ?_ | refine w_iS ?_ | refine w_itS ?_ | refine w_iR1 ?_ | refine w_iE ?_ | refine w_iET ?_ | refine w_iZ ?_ | refine w_gcons ?_ | refine w_gnil ?_ | refine w_lc ?_))
local macro_rules | `(tactic| walk_at "w2") => `(tactic| first | walk_at "w1" | refine w_var (by rfl) ?_ | refine w_aug (by rfl) ?_ | refine w_eq (by rfl) ?_ | refine w_ne (by rfl) ?_ | refine w_ixL (by assumption) (by rfl) ?_ | refine w_lenL (by assumption) ?_ | refine w_I (by walk_at "wI") ?_ | refine w_gtup (by assumption) (by rfl) ?_ | refine w_tyL (by assumption) ?_)
local macro_rules | `(tactic| walk_at "w") => `(tactic| repeat walk_at "w2")
section
variable {K : PySem.W.Frag} {D : Ends} {B : Amb} {H : Hp} {x y : V} {v0 v1 v2 v3 v4 v5 v6 v7 v8 v9 v10 v13 v14 v15 v16 v17 v18 : Option V}
theorem step7 (i : I B H) (hx : Xp B 2 x H) (hy : Xp B 2 y H)
    (hk : ∀ w7 H', I B H' → S B H H' → Xp B 4 x H' → Xp B 4 y H' → D.nx [v0, v1, v2, v3, v4, v5, v6, w7, v8, v9, v10, some x, some y, v13, v14, v15, v16, v17, v18] H') :
    tFor (iList K (tLst (tCons (tVar 11) (tCons (tVar 12) tNil)))) (gName 7) (tIfS (tB (tCB (rIsi K) (tCons (tVar 7) (tCons (tC (.ty "list")) tNil)))) (tDrop (tBM K "list" rAppend (tVar 7) (tCons (tC (.str "more")) tNil))) tNext) D
      [v0, v1, v2, v3, v4, v5, v6, v7, v8, v9, v10, some x, some y, v13, v14, v15, v16, v17, v18] H := by
  with_reducible refine w_for (w_iL (w_lst (w_cons ?_)))
  refine w_var (v := x) (by rfl) ?_
  with_reducible refine w_cons ?_
  refine w_var (v := y) (by rfl) (w_nil ?_)
  refine w_newL (by show 2 ≤ 100000; decide) fun p hp => ?_
  refine w_itL (SqL.of upd_same) ?_
  have e := Ext.new (o := .lst [x, y]) hp
  have r := R.ext i e
  have nM := i.nM hp
  refine lp_list (xs := [x, y]) (fun j σ H' => j ≤ 2 ∧ ∃ w7, σ = [v0, v1, v2, v3, v4, v5, v6, w7, v8, v9, v10, some x, some y, v13, v14, v15, v16, v17, v18] ∧ I B H' ∧ S B H H' ∧ Xp B (2 + j) x H' ∧ Xp B (2 + j) y H' ∧ H' p = some (.lst [x, y]))
    ⟨by decide, v7, rfl, i.run r, r.toS, hx.run i r, hy.run i r, upd_same⟩ (fun _ _ _ _ q => by
    obtain ⟨_, _, _, _, _, _, _, q⟩ := q
    exact SqL.of q) ?_ (fun σ H' q => by
    obtain ⟨_, w7, rfl, i', s', x', y', _⟩ := q
    exact hk w7 H' i' s' x' y')
  rintro j z σ H1 hz ⟨hj, w7, rfl, i1, s1, x1, y1, hp1⟩
  have xz : Xp B (2 + j) z H1 ∧ j < 2 := by
    match j, hz with
    | 0, hz =>
      obtain rfl : x = z := Option.some.inj hz
      exact ⟨x1, by decide⟩
    | 1, hz =>
      obtain rfl : y = z := Option.some.inj hz
      exact ⟨y1, by decide⟩
    | j + 2, hz => simp at hz
  with_reducible refine w_gname (w_if (w_B (w_cb (w_cons ?_))))
  refine w_var (v := z) (by rfl) ?_
  with_reducible refine w_cons (w_c (w_nil ?_))
  rcases xz.1.grow (K := K) with ⟨t, ty, hkit⟩ | ⟨l, xs, rfl, hm, hl, hn, hg⟩
  · refine w_isi ty hkit ?_
    refine w_bl (iteF ?_)
    with_reducible refine w_next ?_
    exact ⟨by omega, _, rfl, i1, s1, x1.mono (by omega), y1.mono (by omega), hp1⟩
  · refine w_isi (.base (.lst hl)) (c := true) (by kernel_rfl) ?_
    refine w_bl (iteT ?_)
    with_reducible refine w_drop (w_bm ?_)
    refine w_var (v := .ref l) (by rfl) ?_
    refine w_tyL hl ?_
    with_reducible refine w_cons (w_c (w_nil ?_))
    refine w_append hl (by omega) ?_
    refine ⟨by omega, _, rfl, i1.mut hm, s1.trans (S.mut hm), hg _ x1, hg _ y1, ?_⟩
    rw [upd_ne (fun z => nM (by rw [z]; exact hm))]
    exact hp1
theorem w_row {σ : L2.St} {Q : VK} {R a : Addr} {as : List Addr} {j : Nat} {c f g : Str} (hσ : σ[9]? = some (some (.ref R))) (hR : H R = some (.lst (as.map V.ref))) (ha : as[j]? = some a) (he : ErrAt a (He.ga K c) [f, g] [x, y] H) (xf : XfC K (He.ga K c))
    (nf : PySem.W.findIn K (.ref (He.ga K c)) f = some none) (ng : PySem.W.findIn K (.ref (He.ga K c)) g = some none) (hfg : (f == g) = false) (k : ∀ p, H p = none → Q (.ref p) (upd H p (.tup [x, y]))) :
    tTup (tCons (tErrF K f (tOp (rIxL K) (tVar 9) (tC (.int (j : Int))))) (tCons (tErrF K g (tOp (rIxL K) (tVar 9) (tC (.int (j : Int))))) tNil)) σ H Q := by
  have hj : atI (as.map V.ref) (j : Int) = some (.ref a) := at_of rfl (by rw [List.getElem?_map, ha]; rfl)
  with_reducible refine w_tup (w_cons (w_errF (w_op ?_)))
  refine w_var hσ (w_c ?_)
  refine w_ixL hR hj ?_
  refine he.field (Q := fun v H1 => _) xf nf (v := x) (by show List.lookup f [(g, y), (f, x)] = some x; simp [List.lookup, hfg]) ?_
  with_reducible refine w_cons (w_errF (w_op ?_))
  refine w_var hσ (w_c ?_)
  refine w_ixL hR hj ?_
  refine he.field (Q := fun v H1 => _) xf ng (v := y) (by show List.lookup g [(g, y), (f, x)] = some y; simp [List.lookup]) ?_
  exact w_newT (by show 2 ≤ 100000; decide) k
theorem Errs2.at : ∀ {as : List Addr} {cs : List (Str × Str × Str)} {j : Nat} {c : Str × Str × Str}, Errs2 K x y as cs H → cs[j]? = some c → ∃ a, as[j]? = some a ∧ ErrAt a (He.ga K c.1) [c.2.1, c.2.2] [x, y] H
  | _, _, j, _, .nil, h => by simp at h
  | _, _, 0, _, .cons h _, e => by
    simp at e
    subst e
    exact ⟨_, rfl, h⟩
  | _, _, j + 1, _, .cons _ t, e => Errs2.at (j := j) t (by simpa using e)
theorem Errs2.ext {H' : Hp} {as : List Addr} {cs : List (Str × Str × Str)} (h : Errs2 K x y as cs H) (e : Ext H H') : Errs2 K x y as cs H' := Paired.mapR (fun _ _ q => q.ext e) h
theorem step9 (kf : KF K) {p4 p5 : Addr} {as3 as4 : List Addr} (h4 : H p4 = some (.lst (as3.map V.ref))) (h5 : H p5 = some (.lst (as4.map V.ref))) (e1 : Errs2 K x y as3 four H) (e2 : Errs2 K x y as4 four H) (sx : Sm H 3 x x) (sy : Sm H 3 y y)
    (hk : ∀ w9 w13 H', Ext H H' → D.nx [v0, v1, v2, v3, some (.ref p4), some (.ref p5), v6, v7, v8, w9, v10, some x, some y, w13, v14, v15, v16, v17, v18] H') :
    tFor (iList K (tLst (tCons (tVar 4) (tCons (tVar 5) tNil)))) (gName 9) (tSeq (tAsg (tLst (tCons (tTup (tCons (tErrF K "resource" (tOp (rIxL K) (tVar 9) (tC (.int 0)))) (tCons (tErrF K "field" (tOp (rIxL K) (tVar 9) (tC (.int 0)))) tNil))) (tCons (tTup (tCons (tErrF K "number" (tOp (rIxL K) (tVar 9) (tC (.int 1)))) (tCons (tErrF K "stale" (tOp (rIxL K) (tVar 9) (tC (.int 1)))) tNil))) tNil))) (gName 13))
      (tSeq (tAsg (tOp rCat (tVar 13) (tLst (tCons (tTup (tCons (tErrF K "index" (tOp (rIxL K) (tVar 9) (tC (.int 2)))) (tCons (tErrF K "reason" (tOp (rIxL K) (tVar 9) (tC (.int 2)))) tNil))) (tCons (tTup (tCons (tErrF K "index" (tOp (rIxL K) (tVar 9) (tC (.int 3)))) (tCons (tErrF K "reason" (tOp (rIxL K) (tVar 9) (tC (.int 3)))) tNil))) tNil)))) (gName 13))
      (tIfS (tNot (tB (tCB (rAll K) (tCons (tLc (iList K (tVar 13)) (gName 18) tYes (tCall (sp_l_same 4) [] E0 (tCons (tVar 18) (tCons (tTup (tCons (tVar 11) (tCons (tVar 12) tNil))) tNil))) [18]) tNil)))) (tRet (tC (.bl false))) tNext))) D
      [v0, v1, v2, v3, some (.ref p4), some (.ref p5), v6, v7, v8, v9, v10, some x, some y, v13, v14, v15, v16, v17, v18] H := by
  with_reducible refine w_for (w_iL (w_lst (w_cons ?_)))
  refine w_var (by rfl) ?_
  with_reducible refine w_cons ?_
  refine w_var (by rfl) (w_nil ?_)
  refine w_newL (by show 2 ≤ 100000; decide) fun p hp => ?_
  refine w_itL (SqL.of upd_same) ?_
  have e0 := Ext.new (o := .lst [.ref p4, .ref p5]) hp
  refine lp_list (xs := [.ref p4, .ref p5]) (fun _ σ H' => ∃ w9 w13, σ = [v0, v1, v2, v3, some (.ref p4), some (.ref p5), v6, v7, v8, w9, v10, some x, some y, w13, v14, v15, v16, v17, v18] ∧ Ext (upd H p (.lst [.ref p4, .ref p5])) H')
    ⟨v9, v13, rfl, Ext.refl⟩ (fun _ _ _ _ q => by
    obtain ⟨_, _, _, q⟩ := q
    exact SqL.of (q _ _ upd_same)) ?_ (fun σ H' q => by
    obtain ⟨w9, w13, rfl, q⟩ := q
    exact hk w9 w13 H' (e0.trans q))
  rintro i z σ H1 hz ⟨w9, w13, rfl, q1⟩
  have q0 := e0.trans q1
  obtain ⟨R, as, rfl, hR, he⟩ : ∃ R as, z = .ref R ∧ H1 R = some (.lst (as.map V.ref)) ∧ Errs2 K x y as four H1 := by
    match i, hz with
    | 0, hz => exact ⟨p4, as3, (Option.some.inj hz).symm, q0 _ _ h4, e1.ext q0⟩
    | 1, hz => exact ⟨p5, as4, (Option.some.inj hz).symm, q0 _ _ h5, e2.ext q0⟩
    | i + 2, hz => simp at hz
  have mm : ∀ {c}, c ∈ four.map (·.1) → c ∈ all24 := fun {c} h => (show ∀ c ∈ four.map (·.1), c ∈ all24 by decide) c h
  have nn : ∀ {q}, q ∈ twos8 → PySem.W.findIn K (.ref (He.ga K q.1)) q.2 = some none := fun {q} h => kf.no q (List.mem_append_right _ h)
  obtain ⟨a0, g0, t0⟩ := he.at (j := 0) rfl
  obtain ⟨a1, g1, t1⟩ := he.at (j := 1) rfl
  obtain ⟨a2, g2, t2⟩ := he.at (j := 2) rfl
  obtain ⟨a3, g3, t3⟩ := he.at (j := 3) rfl
  with_reducible refine w_gname (w_seq (w_asg (w_lst (w_cons ?_))))
  refine w_row (c := "NoWrite") (f := "resource") (g := "field") (j := 0) (x := x) (y := y) (by rfl) hR g0 t0 (kf.xf _ (mm (by decide))).1 (nn (q := ("NoWrite", "resource")) (by decide)) (nn (q := ("NoWrite", "field")) (by decide)) (by decide) fun T0 hT0 => ?_
  have x0 := Ext.new (o := .tup [x, y]) hT0
  with_reducible refine w_cons ?_
  refine w_row (c := "Rejected") (f := "number") (g := "stale") (j := 1) (x := x) (y := y) (by rfl) (x0 _ _ hR) g1 (t1.ext x0) (kf.xf _ (mm (by decide))).1 (nn (q := ("Rejected", "number")) (by decide)) (nn (q := ("Rejected", "stale")) (by decide)) (by decide) fun T1 hT1 => ?_
  have x1 := x0.trans (Ext.new (o := .tup [x, y]) hT1)
  have k1 : Ext (upd H1 T0 (.tup [x, y])) _ := Ext.new (o := .tup [x, y]) hT1
  with_reducible refine w_nil ?_
  refine w_newL (by show 2 ≤ 100000; decide) fun pa ha => ?_
  have xa := x1.trans (Ext.new (o := .lst [.ref T0, .ref T1]) ha)
  have ka := k1.trans (Ext.new (o := .lst [.ref T0, .ref T1]) ha)
  have la : Ext (upd (upd H1 T0 (.tup [x, y])) T1 (.tup [x, y])) _ := Ext.new (o := .lst [.ref T0, .ref T1]) ha
  with_reducible refine w_gname (w_seq (w_asg (w_op ?_)))
  refine w_var (by rfl) ?_
  with_reducible refine w_lst (w_cons ?_)
  refine w_row (c := "BadTemplate") (f := "index") (g := "reason") (j := 2) (x := x) (y := y) (by rfl) (xa _ _ hR) g2 (t2.ext xa) (kf.xf _ (mm (by decide))).1 (nn (q := ("BadTemplate", "index")) (by decide)) (nn (q := ("BadTemplate", "reason")) (by decide)) (by decide) fun T2 hT2 => ?_
  have x2 := Ext.new (o := .tup [x, y]) hT2
  with_reducible refine w_cons ?_
  refine w_row (c := "BadCatalog") (f := "index") (g := "reason") (j := 3) (x := x) (y := y) (by rfl) (x2 _ _ (xa _ _ hR)) g3 (t3.ext (xa.trans x2)) (kf.xf _ (mm (by decide))).1 (nn (q := ("BadCatalog", "index")) (by decide)) (nn (q := ("BadCatalog", "reason")) (by decide)) (by decide) fun T3 hT3 => ?_
  have x3 := Ext.new (o := .tup [x, y]) hT3
  with_reducible refine w_nil ?_
  refine w_newL (by show 2 ≤ 100000; decide) fun pb hb => ?_
  have xb := Ext.new (o := .lst [.ref T2, .ref T3]) hb
  have x23b := (x2.trans x3).trans xb
  refine w_cat (x23b _ _ upd_same) upd_same (by show 2 + 2 ≤ 100000; decide) fun pc hc => ?_
  have xc := Ext.new (o := .lst ([.ref T0, .ref T1] ++ [.ref T2, .ref T3])) hc
  have all := xa.trans (x23b.trans xc)
  with_reducible refine w_gname (w_if (w_not (w_B (w_cb (w_cons (w_lc (w_iL ?_)))))))
  refine w_var (by rfl) ?_
  refine w_itL (SqL.of upd_same) ?_
  intro Dl hD
  refine lc_of (L2.walk_list (a := pc) (xs := [.ref T0, .ref T1, .ref T2, .ref T3])) (fun j H' => Ext (upd (upd (upd (upd (upd (upd (upd H1 T0 (.tup [x, y])) T1 (.tup [x, y])) pa (.lst [.ref T0, .ref T1])) T2 (.tup [x, y])) T3 (.tup [x, y])) pb (.lst [.ref T2, .ref T3])) pc (.lst ([.ref T0, .ref T1] ++ [.ref T2, .ref T3]))) H' ∧ H' Dl = some (.lst ((List.replicate j true).map V.bl)))
    ⟨Ext.new hD, upd_same⟩ (fun _ H' _ q => SqL.of (q.1 _ _ upd_same)) ?_ ?_
  · rintro j z H3 H4 hj ⟨e3, hl⟩ ⟨rfl, hz⟩
    obtain ⟨T, rfl, hT⟩ : ∃ T, z = .ref T ∧ H4 T = some (.tup [x, y]) := by
      match j, hz with
      | 0, hz => exact ⟨T0, (Option.some.inj hz).symm, e3 _ _ (((ka.trans x23b).trans xc) _ _ upd_same)⟩
      | 1, hz => exact ⟨T1, (Option.some.inj hz).symm, e3 _ _ (((la.trans x23b).trans xc) _ _ upd_same)⟩
      | 2, hz => exact ⟨T2, (Option.some.inj hz).symm, e3 _ _ (((x3.trans xb).trans xc) _ _ upd_same)⟩
      | 3, hz => exact ⟨T3, (Option.some.inj hz).symm, e3 _ _ ((xb.trans xc) _ _ upd_same)⟩
      | j + 4, hz => simp at hz
    with_reducible refine w_gname ?_
    refine ⟨rfl, w_yes (iteT ?_)⟩
    with_reducible refine w_call (w_cons ?_)
    refine w_var (v := .ref T) (by rfl) ?_
    with_reducible refine w_cons (w_tup (w_cons ?_))
    refine w_var (v := x) (by rfl) ?_
    with_reducible refine w_cons ?_
    refine w_var (v := y) (by rfl) (w_nil ?_)
    refine w_newT (by show 2 ≤ 100000; decide) fun T' hT' => ?_
    with_reducible refine w_nil ?_
    have e4 := Ext.new (o := .tup [x, y]) hT'
    have eAll := ((q0.trans all).trans e3).trans e4
    refine ⟨_, _, rfl, .inr (.inr (.inl ⟨T, T', [x, y], [x, y], rfl, rfl, e4 _ _ hT, upd_same, by show 2 ≤ 100000; decide, .cons (Sm.mono eAll 3 _ _ sx) (.cons (Sm.mono eAll 3 _ _ sy) .nil)⟩)), fun H5 e5 => ?_⟩
    refine ⟨_, e5 _ _ (e4 _ _ hl), ?_, ((e3.trans e4).trans e5).mut hD, ?_⟩
    · rw [List.length_map, List.length_replicate]
      exact Nat.lt_of_lt_of_le hj (by show 4 ≤ sizeLine; decide)
    · rw [upd_same, List.replicate_succ', List.map_append]
      rfl
  · rintro H3 ⟨e3, hl⟩
    with_reducible refine w_nil ?_
    refine w_all hl ?_
    rw [all_rep]
    refine w_bl ?_
    refine iteF ?_
    with_reducible refine w_next ?_
    exact ⟨_, _, rfl, (q1.trans all).trans e3⟩
end
end G
namespace G
open PySem L2 RZ
local macro_rules | `(tactic| walk_at "wI") => `(tactic| first | exact mulL (by decide) | exact mulR (by decide) | exact powc (by decide) | assumption)
local macro_rules | `(tactic| walk_at "w1") => `(tactic| with_reducible (first | refine w_seq ?_ | refine w_asg ?_ | refine w_op ?_ | refine w_c ?_ | refine w_gname ?_ | refine w_cons ?_ | refine w_nil ?_ | refine w_cb ?_ | refine w_if ?_ | refine w_test ?_ | refine w_B ?_ | refine w_bl ?_ | refine w_ret ?_ | refine w_drop ?_ | refine w_gsub ?_ | refine w_I0 ?_ | refine w_int ?_ | refine w_and ?_ | refine w_or ?_ | refine w_not ?_ | refine w_andV ?_ | refine w_orV ?_ | refine w_notV ?_ | refine w_ifE ?_ | refine w_un ?_ | refine w_neg ?_ | refine w_call ?_ | refine w_lst ?_ | refine w_tup ?_ | refine w_ipI ?_ | refine w_par ?_ | refine w_pair ?_ | refine w_retN ?_ | refine w_next ?_ | refine w_bm ?_ | refine w_for ?_ | refine w_iL ?_ | refine w_iT ?_ | refine w_iS ?_ | refine w_itS ?_ | refine w_iR1 ?_ | refine w_iE ?_ | refine w_iET ?_ | refine w_iZ ?_ | refine w_gcons ?_ | refine w_gnil ?_ | refine w_lc ?_))
local macro_rules | `(tactic| walk_at "w2") => `(tactic| first | walk_at "w1" | refine w_var (by rfl) ?_ | refine w_aug (by rfl) ?_ | refine w_eq (by rfl) ?_ | refine w_ne (by rfl) ?_ | refine w_ixL (by assumption) (by rfl) ?_ | refine w_lenL (by assumption) ?_ | refine w_I (by walk_at "wI") ?_ | refine w_gtup (by assumption) (by rfl) ?_ | refine w_tyL (by assumption) ?_)
local macro_rules | `(tactic| walk_at "w") => `(tactic| repeat walk_at "w2")
theorem paired_at {F : Addr → Str → Prop} : ∀ {l : List Addr} {m : List Str} {i : Nat}, Paired F l m → i < m.length → ∃ a c, l[i]? = some a ∧ m[i]? = some c ∧ F a c
  | _, _, i, .nil, h => absurd h (Nat.not_lt_zero i)
  | _, _, 0, .cons h _, _ => ⟨_, _, rfl, rfl, h⟩
  | _, _, i + 1, .cons _ t, h => by
    obtain ⟨a, c, h1, h2, h3⟩ := paired_at (i := i) t (by simpa using h)
    exact ⟨a, c, by simpa using h1, by simpa using h2, h3⟩
theorem Cl.ext {K : PySem.W.Frag} {a : Addr} {c : Str} {H H' : Hp} (h : Cl K a c H) (e : Ext H H') : Cl K a c H' := by
  obtain ⟨d, h1, h2⟩ := h
  refine ⟨d, e _ _ h1, fun dx q => ?_⟩
  obtain ⟨fs, h3⟩ := h2 dx q
  exact ⟨fs, e _ _ h3⟩
theorem rows_eq : ∀ k : Nat, k < 23 → ∀ c, all23[k]? = some c → (all23.map fun c' => decide (c = c')) = (List.range 23).map fun (j : Nat) => decide (V.int (j : Int) = V.int (k : Int)) := by
  intro k hk c hc
  have h : ∀ k : Fin 23, (all23.map fun c' => decide ((all23[k.1]?.getD "") = c')) = (List.range 23).map fun (j : Nat) => decide (V.int (j : Int) = V.int ((k.1 : Nat) : Int)) := by
    decide +kernel
  have := h ⟨k, hk⟩
  dsimp only at this
  rw [hc] at this
  exact this
theorem base_any : (all23.map fun c' => decide (("SeenError" : Str) = c')).any id = false := by
  decide +kernel
section
variable {K : PySem.W.Frag} {D : Ends} {B : Amb} {H : Hp} {x y : V} {v0 v1 v2 v3 v4 v5 v6 v7 v8 v9 v10 v11 v12 v13 v14 v15 v16 v17 v18 : Option V}
theorem w_isE {a : Addr} {c c' : Str} {b : Bool} {Q : VK} (kf : KF K) (hc : c ∈ all24) (h : Cl K a c H) {cv : V} {u : Value} (k : ClsV cv u) (e : PySem.W.kitOne K (.ref (He.ga K c)) u = some b) (q : Q (.bl b) H) : rIsErr K [.ref a, cv] H Q := by
  obtain ⟨d, h1, h2⟩ := h
  exact ⟨a, _, d, cv, u, b, rfl, k, (kf.xf c hc).2, h1, h2, e, q⟩
theorem step11 (kf : KF K) {p8 : Addr} {es : List Addr} (h8 : H p8 = some (.lst (es.map V.ref))) (hc : Paired (fun a c => Cl K a c H) es all23)
    (hk : ∀ w14 w15 H', Ext H H' → D.nx [v0, v1, v2, v3, v4, v5, v6, v7, some (.ref p8), v9, v10, v11, v12, v13, w14, w15, v16, v17, v18] H') :
    tFor (iEnum K (tCons (tVar 8) tNil)) (gTup K 2 (gCons (gName 14) (gCons (gName 15) gNil))) (tSeq (tIfS (tOr (tNot (tB (tCB (rIsErr K) (tCons (tVar 15) (tCons (tC (.ref (He.ga K "SeenError"))) tNil))))) (tNot (tB (tCB (rIsErr K) (tCons (tVar 15) (tCons (tC (.ty "ValueError")) tNil)))))) (tRet (tC (.bl false))) tNext)
      (tIfS (tTest (tOp (rNeD K) (tCall (sp_l_classes K) [] E0 (tCons (tVar 15) tNil)) (tLc (iRng1 (tCons (tCB (rLenS K) (tCons (tVar 8) tNil)) tNil)) (gName 16) tYes (tOp rEq (tVar 16) (tVar 14)) [16]))) (tRet (tC (.bl false))) tNext)) D
      [v0, v1, v2, v3, v4, v5, v6, v7, some (.ref p8), v9, v10, v11, v12, v13, v14, v15, v16, v17, v18] H := by
  have les : es.length = 23 := Paired.length hc
  with_reducible refine w_for (w_iE (w_cons ?_))
  refine w_var (by rfl) (w_nil ?_)
  refine w_itE (SqL.of h8) ?_
  refine lp_of (walk_enumL (xs := es.map V.ref)) (fun _ σ H' => ∃ w14 w15, σ = [v0, v1, v2, v3, v4, v5, v6, v7, some (.ref p8), v9, v10, v11, v12, v13, w14, w15, v16, v17, v18] ∧ Ext H H') ⟨v14, v15, rfl, Ext.refl⟩ (fun _ _ _ _ q => by
    obtain ⟨_, _, _, e⟩ := q
    exact SqL.of (e _ _ h8)) ?_ (fun σ H' q => by
    obtain ⟨w14, w15, rfl, e⟩ := q
    exact hk w14 w15 H' e)
  rintro j z σ H1 H2 hj ⟨w14, w15, rfl, e1⟩ ⟨T, z', rfl, hT, rfl, hz⟩
  rw [List.length_map, les] at hj
  obtain ⟨a, c, ha, hcj, hcl⟩ := paired_at hc (i := j) hj
  have hz' : z' = .ref a := by
    rw [List.getElem?_map, ha] at hz
    exact (Option.some.inj hz).symm
  subst hz'
  have e2 := e1.trans (Ext.new (o := .tup [.int (j : Nat), .ref a]) hT)
  have hcl2 := hcl.ext e2
  have hm : c ∈ all24 := List.mem_append_left _ (List.mem_of_getElem? hcj)
  refine w_gtup upd_same rfl ?_
  with_reducible refine w_gcons (w_gname (w_gcons (w_gname (w_gnil ?_))))
  with_reducible refine w_seq (w_if (w_or (w_not (w_B (w_cb (w_cons ?_))))))
  refine w_var (v := .ref a) (by rfl) ?_
  with_reducible refine w_cons (w_c (w_nil ?_))
  refine w_isE (c' := c) kf hm hcl2 (.own _) (kf.see _ hm) ?_
  refine w_bl (iteF ?_)
  with_reducible refine w_not (w_B (w_cb (w_cons ?_)))
  refine w_var (v := .ref a) (by rfl) ?_
  with_reducible refine w_cons (w_c (w_nil ?_))
  refine w_isE (c' := c) kf hm hcl2 (.ty _) (kf.val _ hm) ?_
  refine w_bl (iteF ?_)
  with_reducible refine w_next ?_
  with_reducible refine w_if (w_test (w_op (w_call (w_cons ?_))))
  refine w_var (v := .ref a) (by rfl) (w_nil ?_)
  obtain ⟨d, he, hd⟩ := hcl2
  refine ⟨a, c, d, rfl, hm, he, hd, fun L H3 e3 n3 h3 => ?_⟩
  have h83 := e3 _ _ (e2 _ _ h8)
  with_reducible refine w_lc (w_iR1 (w_cons (w_cb (w_cons ?_))))
  refine w_var (v := .ref p8) (by rfl) (w_nil ?_)
  refine w_lenL h83 ?_
  with_reducible refine w_nil ?_
  rw [List.length_map, les]
  refine w_itR1 (by decide) (by decide) ?_
  intro Dl hD
  refine lc_of (L2.walk_range (lo := 0) (n := 23)) (fun i H' => Ext H3 H' ∧ H' Dl = some (.lst (((List.range i).map fun (q : Nat) => decide (V.int (q : Int) = V.int (j : Int))).map V.bl))) ⟨Ext.new hD, upd_same⟩ (fun _ _ _ _ => trivial) ?_ ?_
  · rintro i z H4 H5 hi ⟨e4, hl⟩ ⟨rfl, rfl⟩
    with_reducible refine w_gname ?_
    refine ⟨rfl, w_yes (iteT ?_)⟩
    with_reducible refine w_op ?_
    refine w_var (v := .int (0 + (i : Int))) (by rfl) ?_
    refine w_var (v := .int (j : Int)) (by rfl) ?_
    refine w_eq (by rfl) ?_
    refine ⟨_, hl, ?_, e4.mut hD, ?_⟩
    · rw [List.length_map, List.length_map, List.length_range]
      exact Nat.lt_of_lt_of_le hi (by decide)
    · rw [upd_same, List.range_succ, List.map_append, List.map_append, Int.zero_add]
      rfl
  · rintro H4 ⟨e4, hl⟩
    rw [← rows_eq j hj c hcj] at hl
    refine w_neB (bs := all23.map fun c' => decide (c = c')) (e4 _ _ h3) hl ?_
    refine w_bl (iteF ?_)
    with_reducible refine w_next ?_
    exact ⟨_, _, rfl, (e2.trans e3).trans e4⟩
theorem step12 (kf : KF K) (i : I B H) (hk : ∀ w10 H', I B H' → D.nx [v0, v1, v2, v3, v4, v5, v6, v7, v8, v9, w10, v11, v12, v13, v14, v15, v16, v17, v18] H') :
    tSeq (tAsg (tErr0 (He.ga K "SeenError")) (gName 10))
      (tIfS (tOr (tB (tCB (rAny K) (tCons (tCall (sp_l_classes K) [] E0 (tCons (tVar 10) tNil)) tNil))) (tNot (tB (tCB (rIsErr K) (tCons (tVar 10) (tCons (tC (.ty "ValueError")) tNil)))))) (tRet (tC (.bl false))) tNext) D
      [v0, v1, v2, v3, v4, v5, v6, v7, v8, v9, v10, v11, v12, v13, v14, v15, v16, v17, v18] H := by
  have hm : ("SeenError" : Str) ∈ all24 := by decide
  with_reducible refine w_seq (w_asg ?_)
  refine w_err0 i fun a H1 r1 i1 s1 => ?_
  with_reducible refine w_gname (w_if (w_or (w_B (w_cb (w_cons (w_call (w_cons ?_)))))))
  refine w_var (v := .ref a) (by rfl) (w_nil ?_)
  refine ⟨a, "SeenError", none, rfl, hm, s1.now, (fun dx q => nomatch q), fun L H2 e2 n2 h2 => ?_⟩
  with_reducible refine w_nil ?_
  refine w_any (bs := all23.map fun c' => decide (("SeenError" : Str) = c')) h2 ?_
  rw [base_any]
  refine w_bl (iteF ?_)
  with_reducible refine w_not (w_B (w_cb (w_cons ?_)))
  refine w_var (v := .ref a) (by rfl) ?_
  with_reducible refine w_cons (w_c (w_nil ?_))
  refine w_isE (c' := "SeenError") kf hm (⟨none, e2 _ _ s1.now, fun dx q => nomatch q⟩) (.ty _) (kf.val _ hm) ?_
  refine w_bl (iteF ?_)
  with_reducible refine w_next ?_
  exact hk _ _ (i1.run (R.ext i1 e2))
end
end G
namespace G
open PySem L2 RZ
local macro_rules | `(tactic| walk_at "wI") => `(tactic| first | exact mulL (by decide) | exact mulR (by decide) | exact powc (by decide) | assumption)
local macro_rules | `(tactic| walk_at "w1") => `(tactic| with_reducible (first | refine w_seq ?_ | refine w_asg ?_ | refine w_op ?_ | refine w_c ?_ | refine w_gname ?_ | refine w_cons ?_ | refine w_nil ?_ | refine w_cb ?_ | refine w_if ?_ | refine w_test ?_ | refine w_B ?_ | refine w_bl ?_ | refine w_ret ?_ | refine w_drop ?_ | refine w_gsub ?_ | refine w_I0 ?_ | refine w_int ?_ | refine w_and ?_ | refine w_or ?_ | refine w_not ?_ | refine w_andV ?_ | refine w_orV ?_ | refine w_notV ?_ | refine w_ifE ?_ | refine w_un ?_ | refine w_neg ?_ | refine w_call ?_ | refine w_lst ?_ | refine w_tup ?_ | refine w_ipI ?_ | refine w_par ?_ | refine w_pair ?_ | refine w_retN ?_ | refine w_next ?_ | refine w_bm ?_ | refine w_for ?_ | refine w_iL ?_ | refine w_iT ?_ | refine w_iS ?_ | refine w_itS ?_ | refine w_iR1 ?_ | refine w_iE ?_ | refine w_iET ?_ | refine w_iZ ?_ | refine w_gcons ?_ | refine w_gnil ?_ | refine w_lc ?_))
local macro_rules | `(tactic| walk_at "w2") => `(tactic| first | walk_at "w1" | refine w_var (by rfl) ?_ | refine w_aug (by rfl) ?_ | refine w_eq (by rfl) ?_ | refine w_ne (by rfl) ?_ | refine w_ixL (by assumption) (by rfl) ?_ | refine w_lenL (by assumption) ?_ | refine w_I (by walk_at "wI") ?_ | refine w_gtup (by assumption) (by rfl) ?_ | refine w_tyL (by assumption) ?_)
local macro_rules | `(tactic| walk_at "w") => `(tactic| repeat walk_at "w2")
theorem Paired.app {α β : Type} {F : α → β → Prop} : ∀ {as bs : List α} {cs ds : List β}, Paired F as cs → Paired F bs ds → Paired F (as ++ bs) (cs ++ ds)
  | _, _, _, _, .nil, h => h
  | _, _, _, _, .cons a t, h => .cons a (Paired.app t h)
theorem Errs2.app {K : PySem.W.Frag} {x y : V} {H : Hp} {as bs : List Addr} {cs ds : List (Str × Str × Str)} (h : Errs2 K x y as cs H) (g : Errs2 K x y bs ds H) : Errs2 K x y (as ++ bs) (cs ++ ds) H := Paired.app h g
theorem Errs.cls {K : PySem.W.Frag} {x : V} {H : Hp} : ∀ {as : List Addr} {cs : List (Str × Str)}, Errs K x as cs H → Paired (fun a c => Cl K a c H) as (cs.map (·.1))
  | _, _, .nil => .nil
  | _, _, .cons a t => .cons a.cl (Errs.cls t)
def sp_law (K : PySem.W.Frag) : Sp := fun vs H Q _ => ∃ (a : Addr) (ns : List Int), vs = [.ref a] ∧ SqL K H a (ns.map V.int) ∧ ns.length ≤ 63 ∧ ∀ H', Q (.bl true) H'
theorem rd_law {K : PySem.W.Frag} (kf : KF K) {vs : List V} {H : Hp} {Q : VK} {E : XK} (h : sp_law K vs H Q E) :
    t_law K (sp_l_fresh K) (sp_l_any 2) (sp_ones K) (sp_ones K) (sp_l_held K) (sp_l_same 4) (sp_l_classes K) (fin Q) (start ["_law_script", "_law_state", "_law_turn", "_law_ones", "_law_twos", "_law_named", "_law_bare", "_law_z", "_law_made", "_law_row", "_law_base", "_law_x", "_law_y", "_law_pairs", "_law_k", "_law_e", "_law_at", "_law_told", "_law_pair"] vs) H := by
  obtain ⟨a, ns, rfl, hs, hl, k⟩ := h
  show t_law K (sp_l_fresh K) (sp_l_any 2) (sp_ones K) (sp_ones K) (sp_l_held K) (sp_l_same 4) (sp_l_classes K) (fin Q) [some (.ref a), none, none, none, none, none, none, none, none, none, none, none, none, none, none, none, none, none, none] H
  unfold t_law
  with_reducible refine w_seq (w_asg (w_call (w_cons ?_)))
  refine w_var (by rfl) (w_nil ?_)
  refine ⟨a, ns, rfl, hs, hl, fun A H0 hM e0 i0 => ?_⟩
  with_reducible refine w_gname (w_seq (w_for (w_iR1 (w_cons (w_c (w_nil ?_))))))
  refine w_itR1 (by decide) (by decide) ?_
  refine lp_range (n := 3) (fun _ σ H' => ∃ v2 v3 v4 v5 v6 v7 v8 v9 v10 v11 v12 v13 v14 v15 v16 v17 v18, σ = [some (.ref a), some (.ref A.s), v2, v3, v4, v5, v6, v7, v8, v9, v10, v11, v12, v13, v14, v15, v16, v17, v18] ∧ I A H') ⟨_, _, _, _, _, _, _, _, _, _, _, _, _, _, _, _, _, rfl, i0⟩ ?_ ?_
  · rintro j σ H1 hj ⟨v2, v3, v4, v5, v6, v7, v8, v9, v10, v11, v12, v13, v14, v15, v16, v17, v18, rfl, i1⟩
    with_reducible refine w_gname (w_seq (w_asg (w_tup (w_cons (w_call (w_cons ?_))))))
    refine w_var (by rfl) (w_cons (w_c (w_nil ?_)))
    refine ⟨A, rfl, i1, by decide, fun x H2 r2 nx => ?_⟩
    obtain ⟨B, u2, i2, x2⟩ := new_up i1 r2 nx
    with_reducible refine w_cons (w_call (w_cons ?_))
    refine w_var (by rfl) (w_cons (w_c (w_nil ?_)))
    refine ⟨B, by rw [u2.s]; rfl, i2, by decide, fun y H3 r3 ny => ?_⟩
    obtain ⟨D, u3, i3, y3⟩ := new_up i2 r3 ny
    have x3 := x2.up u3 i2 r3
    with_reducible refine w_nil ?_
    refine w_newT (by show 2 ≤ 100000; decide) fun p4 h4 => ?_
    have e4 := Ext.new (o := .tup [x, y]) h4
    have i4 := i3.run (R.ext i3 e4)
    refine w_gtup upd_same rfl ?_
    with_reducible refine w_gcons (w_gname (w_gcons (w_gname (w_gnil ?_))))
    have x4 := x3.run i3 (R.ext i3 e4)
    have y4 := y3.run i3 (R.ext i3 e4)
    -- the errors of one field
    with_reducible refine w_seq (w_asg (w_lst (w_cons (w_call (w_cons ?_)))))
    refine w_var (v := x) (by rfl) (w_nil ?_)
    refine ⟨D, x, rfl, i4, fun L1 as1 H5 r5 nL1 mL1 sL1 sE1 => ?_⟩
    have i5 := i4.run r5
    with_reducible refine w_cons (w_call (w_cons ?_))
    refine w_var (v := x) (by rfl) (w_nil ?_)
    refine ⟨D, x, rfl, i5, fun L2 as2 H6 r6 nL2 mL2 sL2 sE2 => ?_⟩
    have i6 := i5.run r6
    with_reducible refine w_nil ?_
    refine w_newL (by show 2 ≤ 100000; decide) fun p6 h6 => ?_
    have e6 := Ext.new (o := .lst [.ref L1, .ref L2]) h6
    have i7 := i6.run (R.ext i6 e6)
    have s6 := Stb.new (o := .lst [.ref L1, .ref L2]) i6 h6
    have f7 := (((sL1.and sE1).run (r6.trans (R.ext i6 e6))).and ((sL2.and sE2).run (R.ext i6 e6))).and s6
    have r47 := (r5.trans r6).trans (R.ext i6 e6)
    have x7 := x4.run i4 r47
    have y7 := y4.run i4 r47
    -- of two fields
    with_reducible refine w_gname (w_seq (w_asg (w_lst ?_)))
    refine w_e2p (A := D) (x := x) (y := y) (by rfl) (by rfl) (cs := four) i7 fun as3 H8 r8 s8 l8 => ?_
    have i8 := i7.run r8
    refine w_newL (by rw [List.length_map, l8]; decide) fun p8 h8 => ?_
    have e8 := Ext.new (o := .lst (as3.map V.ref)) h8
    have i9 := i8.run (R.ext i8 e8)
    have f9 := (f7.run (r8.trans (R.ext i8 e8))).and ((s8.run (R.ext i8 e8)).and (Stb.new (o := .lst (as3.map V.ref)) i8 h8))
    have r79 := r8.trans (R.ext i8 e8)
    have x9 := x7.run i7 r79
    have y9 := y7.run i7 r79
    with_reducible refine w_gname (w_seq (w_asg (w_lst ?_)))
    refine w_e2k (A := D) (x := x) (y := y) (by rfl) (by rfl) (cs := four.take 3) i9 fun as4 H10 r10 s10 l10 => ?_
    have i10 := i9.run r10
    refine w_newL (by rw [List.length_map, l10]; decide) fun p10 h10 => ?_
    have e10 := Ext.new (o := .lst (as4.map V.ref)) h10
    have n10 := i10.ne h10
    have i11 := i10.add h10 e10 (by rw [upd_same]; exact fun z => nomatch z)
    have f10 := (f9.run r10).and s10
    have x10 := x9.run i9 r10
    have y10 := y9.run i9 r10
    with_reducible refine w_gname (w_seq (w_drop (w_bm ?_)))
    refine w_var (v := .ref p10) (by rfl) ?_
    refine w_tyL upd_same ?_
    refine w_e2k (A := D.add p10) (x := x) (y := y) (by rfl) (by rfl) (cs := four.drop 3) i11 fun as5 H12 r12 s12 l12 => ?_
    obtain ⟨a5, rfl⟩ : ∃ a, as5 = [a] := List.length_eq_one_iff.mp l12
    have g12 : H12 p10 = some (.lst (as4.map V.ref)) := r12.keep _ _ n10 upd_same
    have i12 := i11.run r12
    refine w_append g12 (by rw [List.length_map, l10]; decide) ?_
    have ea : as4.map V.ref ++ [V.ref a5] = (as4 ++ [a5]).map V.ref := by
      rw [List.map_append]
      rfl
    rw [ea]
    have r1013 : R D H10 (upd H12 p10 (.lst ((as4 ++ [a5]).map V.ref))) := ((R.ext i10 e10).trans r12.del).mut i10 h10
    have i13 : I D (upd H12 p10 (.lst ((as4 ++ [a5]).map V.ref))) := (i12.mut Amb.mem).del
    have f13 := (f10.run r1013).and ((s12.mono (S.mut Amb.mem)).del.and (Stb.at (A := D) (a := p10) (o := .lst ((as4 ++ [a5]).map V.ref)) upd_same n10 (i10.nM h10)))
    have x13 := x10.run i10 r1013
    have y13 := y10.run i10 r1013
    -- of none
    with_reducible refine w_seq (w_asg (w_lst (w_cons ?_)))
    refine w_err0 i13 fun b1 H14 r14 i14 s14 => ?_
    with_reducible refine w_cons ?_
    refine w_err0 i14 fun b2 H15 r15 i15 s15 => ?_
    with_reducible refine w_cons ?_
    refine w_err0 i15 fun b3 H16 r16 i16 s16 => ?_
    with_reducible refine w_nil ?_
    refine w_newL (by show 3 ≤ 100000; decide) fun p17 h17 => ?_
    have e17 := Ext.new (o := .lst [.ref b1, .ref b2, .ref b3]) h17
    have i17 := i16.run (R.ext i16 e17)
    have r1317 := ((r14.trans r15).trans r16).trans (R.ext i16 e17)
    have f17 := (f13.run r1317).and (((s14.run ((r15.trans r16).trans (R.ext i16 e17))).and ((s15.run (r16.trans (R.ext i16 e17))).and (s16.run (R.ext i16 e17)))).and (Stb.new (o := .lst [.ref b1, .ref b2, .ref b3]) i16 h17))
    have x17 := x13.run i13 r1317
    have y17 := y13.run i13 r1317
    -- the lists grow
    with_reducible refine w_gname (w_seq ?_)
    refine step7 (B := D) i17 x17 y17 fun w7 H18 i18 s18 x18 y18 => ?_
    obtain ⟨⟨⟨⟨⟨⟨⟨hL1, hE1⟩, hM2, hE2⟩, hp6⟩, hE3, hp8⟩, hE4⟩, hE5, hp10⟩, ⟨hb1, hb2, hb3⟩, hp17⟩ := f17 H18 s18
    have sx := x18.sm (by decide)
    have sy := y18.sm (by decide)
    with_reducible refine w_seq ?_
    refine step8 kf hp6 hL1 hM2 hE1 hE2 (Sm.up 3 _ _ _ sx) fun w8 H19 e19 => ?_
    with_reducible refine w_seq ?_
    refine step9 kf (e19 _ _ hp8) (e19 _ _ hp10) (hE3.ext e19) ((show Errs2 K x y (as4 ++ [a5]) four H18 from hE4.app hE5).ext e19) (Sm.mono e19 3 _ _ sx) (Sm.mono e19 3 _ _ sy) fun w9 w13 H20 e20 => ?_
    have e1820 := e19.trans e20
    obtain ⟨t0, t1, t2, t3, rfl⟩ : ∃ t0 t1 t2 t3, as3 = [t0, t1, t2, t3] := by
      match as3, l8 with
      | [t0, t1, t2, t3], _ => exact ⟨_, _, _, _, rfl⟩
    with_reducible refine w_seq (w_asg (w_op (w_op ?_)))
    refine w_var (by rfl) ?_
    with_reducible refine w_c ?_
    refine w_ixL (e1820 _ _ hp6) (by rfl) ?_
    with_reducible refine w_lst (w_cons (w_op ?_))
    refine w_var (by rfl) ?_
    with_reducible refine w_c ?_
    refine w_ixL (e1820 _ _ hp8) (by rfl) ?_
    with_reducible refine w_cons (w_op ?_)
    refine w_var (by rfl) ?_
    with_reducible refine w_c ?_
    refine w_ixL (e1820 _ _ hp8) (by rfl) ?_
    with_reducible refine w_cons (w_op ?_)
    refine w_var (by rfl) ?_
    with_reducible refine w_c ?_
    refine w_ixL (e1820 _ _ hp17) (by rfl) ?_
    with_reducible refine w_cons (w_op ?_)
    refine w_var (by rfl) ?_
    with_reducible refine w_c ?_
    refine w_ixL (e1820 _ _ hp8) (by rfl) ?_
    with_reducible refine w_cons (w_op ?_)
    refine w_var (by rfl) ?_
    with_reducible refine w_c ?_
    refine w_ixL (e1820 _ _ hp17) (by rfl) ?_
    with_reducible refine w_cons (w_op ?_)
    refine w_var (by rfl) ?_
    with_reducible refine w_c ?_
    refine w_ixL (e1820 _ _ hp8) (by rfl) ?_
    with_reducible refine w_cons (w_op ?_)
    refine w_var (by rfl) ?_
    with_reducible refine w_c ?_
    refine w_ixL (e1820 _ _ hp17) (by rfl) ?_
    with_reducible refine w_nil ?_
    refine w_newL (by show 7 ≤ 100000; decide) fun p21 h21 => ?_
    have e21 := e1820.trans (Ext.new (o := .lst [.ref t0, .ref t1, .ref b1, .ref t2, .ref b2, .ref t3, .ref b3]) h21)
    have las1 : as1.length = 16 := Paired.length hE1
    refine w_cat (e21 _ _ hL1) upd_same (by rw [List.length_map, las1]; show 16 + 7 ≤ 100000; decide) fun p22 h22 => ?_
    have em : as1.map V.ref ++ [V.ref t0, .ref t1, .ref b1, .ref t2, .ref b2, .ref t3, .ref b3] = (as1 ++ [t0, t1, b1, t2, b2, t3, b3]).map V.ref := by
      rw [List.map_append]
      rfl
    rw [em]
    have e22 := e21.trans (Ext.new (o := .lst ((as1 ++ [t0, t1, b1, t2, b2, t3, b3]).map V.ref)) h22)
    have hCl : Paired (fun a c => Cl K a c H18) (as1 ++ [t0, t1, b1, t2, b2, t3, b3]) all23 := by
      have z0 := hE3.at (j := 0) rfl
      have z1 := hE3.at (j := 1) rfl
      have z2 := hE3.at (j := 2) rfl
      have z3 := hE3.at (j := 3) rfl
      obtain ⟨q0, g0, z0⟩ := z0
      obtain ⟨q1, g1, z1⟩ := z1
      obtain ⟨q2, g2, z2⟩ := z2
      obtain ⟨q3, g3, z3⟩ := z3
      cases g0
      cases g1
      cases g2
      cases g3
      refine Paired.app hE1.cls ?_
      exact .cons z0.cl (.cons z1.cl (.cons ⟨none, hb1, fun dx q => nomatch q⟩ (.cons z2.cl (.cons ⟨none, hb2, fun dx q => nomatch q⟩ (.cons z3.cl (.cons ⟨none, hb3, fun dx q => nomatch q⟩ .nil))))))
    with_reducible refine w_gname (w_seq ?_)
    refine step11 kf upd_same (Paired.mapR (fun _ _ q => q.ext e22) hCl) fun w14 w15 H23 e23 => ?_
    have e1823 := e22.trans e23
    refine step12 (B := D) kf (i18.run (R.ext i18 e1823)) fun w10 H24 i24 => ?_
    exact ⟨_, _, _, _, _, _, _, _, _, _, _, _, _, _, _, _, _, rfl, u2.i (u3.i i24)⟩
  · rintro σ H1 ⟨v2, v3, v4, v5, v6, v7, v8, v9, v10, v11, v12, v13, v14, v15, v16, v17, v18, rfl, i1⟩
    with_reducible refine w_ret (w_c ?_)
    exact k _
end G
namespace G
open PySem L2 RZ
def top (i : Nat) : Stmt := PySem.Challenge.pw_seenmarks_k01_errors_made.main.body.getD i (.Pass ⟨0, 0, 0, 0⟩)
abbrev s_l_fresh : Stmt := top 26
abbrev s_l_fill : Stmt := top 27
abbrev s_l_take : Stmt := top 28
abbrev s_l_one : Stmt := top 29
abbrev s_l_same : Stmt := top 30
abbrev s_l_any : Stmt := top 31
abbrev s_l_with_one : Stmt := top 32
abbrev s_l_by_place : Stmt := top 33
abbrev s_l_held : Stmt := top 34
abbrev s_l_classes : Stmt := top 35
abbrev s_law : Stmt := top 36
structure Tx (P : Program) (w : World) (K : PySem.W.Frag) (mg : Str → Option Value) (base : Heap) : Prop where
  F_l_fresh : ∃ fd, FunD K "_law_fresh" "_law_fresh" (defArgs s_l_fresh) (defBody s_l_fresh) (defScope s_l_fresh) [] [] (He.ga K "_law_fresh") fd
  F_l_fill : ∃ fd, FunD K "_law_fill" "_law_fill" (defArgs s_l_fill) (defBody s_l_fill) (defScope s_l_fill) [] [] (He.ga K "_law_fill") fd
  F_l_take : ∃ fd, FunD K "_law_take" "_law_take" (defArgs s_l_take) (defBody s_l_take) (defScope s_l_take) [] [] (He.ga K "_law_take") fd
  F_l_one : ∃ fd, FunD K "_law_one" "_law_one" (defArgs s_l_one) (defBody s_l_one) (defScope s_l_one) [] [] (He.ga K "_law_one") fd
  F_l_same : ∃ fd, FunD K "_law_same" "_law_same" (defArgs s_l_same) (defBody s_l_same) (defScope s_l_same) [] [] (He.ga K "_law_same") fd
  F_l_any : ∃ fd, FunD K "_law_any" "_law_any" (defArgs s_l_any) (defBody s_l_any) (defScope s_l_any) [] [] (He.ga K "_law_any") fd
  F_l_with_one : ∃ fd, FunD K "_law_with_one" "_law_with_one" (defArgs s_l_with_one) (defBody s_l_with_one) (defScope s_l_with_one) [] [] (He.ga K "_law_with_one") fd
  F_l_by_place : ∃ fd, FunD K "_law_by_place" "_law_by_place" (defArgs s_l_by_place) (defBody s_l_by_place) (defScope s_l_by_place) [] [] (He.ga K "_law_by_place") fd
  F_l_held : ∃ fd, FunD K "_law_held" "_law_held" (defArgs s_l_held) (defBody s_l_held) (defScope s_l_held) [] [] (He.ga K "_law_held") fd
  F_l_classes : ∃ fd, FunD K "_law_classes" "_law_classes" (defArgs s_l_classes) (defBody s_l_classes) (defScope s_l_classes) [] [] (He.ga K "_law_classes") fd
  F_law : ∃ fd, FunD K "law" "law" (defArgs s_law) (defBody s_law) (defScope s_law) [] [] (He.ga K "law") fd
  gc_BadCatalog : mg "BadCatalog" = some (.ref (He.ga K "BadCatalog"))
  e_BadCatalog : Err P w K mg base "BadCatalog" (He.ga K "BadCatalog") ["index", "reason"]
  gc_BadCopies : mg "BadCopies" = some (.ref (He.ga K "BadCopies"))
  e_BadCopies : Err P w K mg base "BadCopies" (He.ga K "BadCopies") ["index"]
  gc_BadCount : mg "BadCount" = some (.ref (He.ga K "BadCount"))
  e_BadCount : Err P w K mg base "BadCount" (He.ga K "BadCount") ["count"]
  gc_BadField : mg "BadField" = some (.ref (He.ga K "BadField"))
  e_BadField : Err P w K mg base "BadField" (He.ga K "BadField") ["index"]
  gc_BadFlag : mg "BadFlag" = some (.ref (He.ga K "BadFlag"))
  e_BadFlag : Err P w K mg base "BadFlag" (He.ga K "BadFlag") ["flag"]
  gc_BadKind : mg "BadKind" = some (.ref (He.ga K "BadKind"))
  e_BadKind : Err P w K mg base "BadKind" (He.ga K "BadKind") ["index"]
  gc_BadResource : mg "BadResource" = some (.ref (He.ga K "BadResource"))
  e_BadResource : Err P w K mg base "BadResource" (He.ga K "BadResource") ["resource"]
  gc_BadStep : mg "BadStep" = some (.ref (He.ga K "BadStep"))
  e_BadStep : Err P w K mg base "BadStep" (He.ga K "BadStep") ["index"]
  gc_BadTag : mg "BadTag" = some (.ref (He.ga K "BadTag"))
  e_BadTag : Err P w K mg base "BadTag" (He.ga K "BadTag") ["thing"]
  gc_BadTemplate : mg "BadTemplate" = some (.ref (He.ga K "BadTemplate"))
  e_BadTemplate : Err P w K mg base "BadTemplate" (He.ga K "BadTemplate") ["index", "reason"]
  gc_BadText : mg "BadText" = some (.ref (He.ga K "BadText"))
  e_BadText : Err P w K mg base "BadText" (He.ga K "BadText") ["line"]
  gc_BadValue : mg "BadValue" = some (.ref (He.ga K "BadValue"))
  e_BadValue : Err P w K mg base "BadValue" (He.ga K "BadValue") ["value"]
  gc_BadVariable : mg "BadVariable" = some (.ref (He.ga K "BadVariable"))
  e_BadVariable : Err P w K mg base "BadVariable" (He.ga K "BadVariable") ["variable"]
  gc_BadWord : mg "BadWord" = some (.ref (He.ga K "BadWord"))
  e_BadWord : Err P w K mg base "BadWord" (He.ga K "BadWord") ["word"]
  gc_NoWrite : mg "NoWrite" = some (.ref (He.ga K "NoWrite"))
  e_NoWrite : Err P w K mg base "NoWrite" (He.ga K "NoWrite") ["resource", "field"]
  gc_Rejected : mg "Rejected" = some (.ref (He.ga K "Rejected"))
  e_Rejected : Err P w K mg base "Rejected" (He.ga K "Rejected") ["number", "stale"]
  gc_UnknownField : mg "UnknownField" = some (.ref (He.ga K "UnknownField"))
  e_UnknownField : Err P w K mg base "UnknownField" (He.ga K "UnknownField") ["field"]
  gc_UnknownKind : mg "UnknownKind" = some (.ref (He.ga K "UnknownKind"))
  e_UnknownKind : Err P w K mg base "UnknownKind" (He.ga K "UnknownKind") ["name"]
  gc_UnknownTemplate : mg "UnknownTemplate" = some (.ref (He.ga K "UnknownTemplate"))
  e_UnknownTemplate : Err P w K mg base "UnknownTemplate" (He.ga K "UnknownTemplate") ["name"]
  gc_Unlabelled : mg "Unlabelled" = some (.ref (He.ga K "Unlabelled"))
  e_Unlabelled : Err P w K mg base "Unlabelled" (He.ga K "Unlabelled") ["number"]
  gc_BadCover : mg "BadCover" = some (.ref (He.ga K "BadCover"))
  x0_BadCover : PySem.W.excIn K (He.ga K "BadCover") He.veBase "ValueError.__new__" = true
  kc_BadCover : PySem.W.keepIn K (.ref (He.ga K "BadCover")) = true
  gc_BadValues : mg "BadValues" = some (.ref (He.ga K "BadValues"))
  x0_BadValues : PySem.W.excIn K (He.ga K "BadValues") He.veBase "ValueError.__new__" = true
  kc_BadValues : PySem.W.keepIn K (.ref (He.ga K "BadValues")) = true
  gc_Offline : mg "Offline" = some (.ref (He.ga K "Offline"))
  x0_Offline : PySem.W.excIn K (He.ga K "Offline") He.veBase "ValueError.__new__" = true
  kc_Offline : PySem.W.keepIn K (.ref (He.ga K "Offline")) = true
  gc_SeenError : mg "SeenError" = some (.ref (He.ga K "SeenError"))
  x0_SeenError : PySem.W.excIn K (He.ga K "SeenError") He.veBase "ValueError.__new__" = true
  kc_SeenError : PySem.W.keepIn K (.ref (He.ga K "SeenError")) = true
  z_ValueError : mg "ValueError" = none
  z_all : mg "all" = none
  z_any : mg "any" = none
  z_bool : mg "bool" = none
  z_enumerate : mg "enumerate" = none
  z_int : mg "int" = none
  z_isinstance : mg "isinstance" = none
  z_len : mg "len" = none
  z_list : mg "list" = none
  z_range : mg "range" = none
  z_tuple : mg "tuple" = none
  z_zip : mg "zip" = none
  g_l_any : mg "_law_any" = some (.ref (He.ga K "_law_any"))
  g_l_by_place : mg "_law_by_place" = some (.ref (He.ga K "_law_by_place"))
  g_l_classes : mg "_law_classes" = some (.ref (He.ga K "_law_classes"))
  g_l_fill : mg "_law_fill" = some (.ref (He.ga K "_law_fill"))
  g_l_fresh : mg "_law_fresh" = some (.ref (He.ga K "_law_fresh"))
  g_l_held : mg "_law_held" = some (.ref (He.ga K "_law_held"))
  g_l_one : mg "_law_one" = some (.ref (He.ga K "_law_one"))
  g_l_same : mg "_law_same" = some (.ref (He.ga K "_law_same"))
  g_l_take : mg "_law_take" = some (.ref (He.ga K "_law_take"))
  g_l_with_one : mg "_law_with_one" = some (.ref (He.ga K "_law_with_one"))
  g_law : mg "law" = some (.ref (He.ga K "law"))
section
variable {P : Program} {w : World} {K : PySem.W.Frag} {mg : Str → Option Value} {base : Heap}
theorem sc_l_fresh : FnScope ["_law_script"] ["_law_script"] (defScope s_l_fresh) := ⟨rfl, rfl, rfl, by decide +kernel, rfl, by decide +kernel, by decide +kernel⟩
theorem der_l_fresh (T : Tx P w K mg base)  {sp : Sp} (hl : ∀ vs H Q E, sp vs H Q E → vs.length = 1)
    (rd : ∀ vs H Q E, sp vs H Q E → t_l_fresh K  (fin Q) (start ["_law_script"] vs) H) : FOk P w K mg base CX0 1 (He.ga K "_law_fresh") ["_law_script"] [] sp := by
  obtain ⟨fd, F⟩ := T.F_l_fresh
  refine ⟨⟨fd, [], F.ok sc_l_fresh hl (fun cdv A outer s H vs Q E hr h => ⟨t_l_fresh K , PSs.nox ?_, rd vs H Q E h⟩), .nil, F.bindsN fun _ _ _ _ _ _ us hl => match us, hl with | [_], _ => rfl⟩, F.kp⟩
  exact (pss_one (ps_ret (pe_lst (pa_cons (pe_slice sl_list (pv 0) po_none (po_some pe_int)) (pa_cons pe_int (pa_cons pe_int (pa_cons pe_bl pa_nil)))))))
theorem sc_l_fill : FnScope ["_law_state", "_law_seed", "_law_cells", "_law_nth", "_law_k", "_law_prime", "_law_far"] ["_law_state"] (defScope s_l_fill) := ⟨rfl, rfl, rfl, by decide +kernel, rfl, by decide +kernel, by decide +kernel⟩
theorem der_l_fill (T : Tx P w K mg base)  {sp : Sp} (hl : ∀ vs H Q E, sp vs H Q E → vs.length = 1)
    (rd : ∀ vs H Q E, sp vs H Q E → t_l_fill K  (fin Q) (start ["_law_state", "_law_seed", "_law_cells", "_law_nth", "_law_k", "_law_prime", "_law_far"] vs) H) : FOk P w K mg base CX0 1 (He.ga K "_law_fill") ["_law_state"] [] sp := by
  obtain ⟨fd, F⟩ := T.F_l_fill
  refine ⟨⟨fd, [], F.ok sc_l_fill hl (fun cdv A outer s H vs Q E hr h => ⟨t_l_fill K , PSs.nox ?_, rd vs H Q E h⟩), .nil, F.bindsN fun _ _ _ _ _ _ us hl => match us, hl with | [_], _ => rfl⟩, F.kp⟩
  exact (pss_cons (ps_par rfl sc_l_fill.nd rfl rfl (by decide) rfl rfl (pa_cons (pe_ix ix_list (pv 0) pe_int (fun _ _ => rfl)) (pa_cons (pe_ix ix_list (pv 0) pe_int (fun _ _ => rfl)) pa_nil)) rfl)
  (pss_cons (ps_set (i := 1) sc_l_fill.nd rfl (Or.inl rfl) (pe_op op_add (pe_op op_mul pe_int (pv 3)) pe_int))
  (Evl.pss_cut (ps_if (pt_cmpR op_gt (pe_callB cb_len (by rfl) T.z_len (by decide +kernel) (pa_cons (pv 2) pa_nil)) pe_int (nomark _)) (pss_one (ps_set (i := 1) sc_l_fill.nd rfl (Or.inl rfl) (pe_op op_add (pe_op op_mul pe_int (pe_op op_fdivW (pv 3) (pe_callB cb_len (by rfl) T.z_len (by decide +kernel) (pa_cons (pv 2) pa_nil)))) (pe_ix ix_list (pv 2) (pe_op op_mod (pe_callTy cb_int (by rfl) T.z_int (by decide +kernel) (pa_cons (pv 3) pa_nil)) (pe_callB cb_len (by rfl) T.z_len (by decide +kernel) (pa_cons (pv 2) pa_nil))) (fun _ _ => rfl))))) pss_nil)
  (pss_cons (ps_asg (pe_op op_add (pv 3) pe_int) (pg_sub (pv 0) pe_int set_list))
  (Evl.pss_cut (ps_asg (pe_or (pe_cmpR op_ge (pv 3) (pe_callB cb_len (by rfl) T.z_len (by decide +kernel) (pa_cons (pv 2) pa_nil)) (nomark _)) (pe_one (pe_cmpR op_lt (pv 1) (pe_op op_pow pe_int pe_int) (nomark _)))) (pg_sub (pv 0) pe_int set_list))
  (pss_cons (ps_asg (pe_op op_sub (pv 1) (pe_op op_pow pe_int pe_int)) (pg_sub (pv 0) pe_int set_list))
  (pss_one (ps_if (pt_val (pe_ix ix_list (pv 0) pe_int (fun _ _ => rfl))) (pss_cons (ps_asg pe_int (pg_sub (pv 0) pe_int set_list))
  (pss_one (ps_for PassesOwn.never rfl (pi_enumT (by rfl) T.z_enumerate (pa_cons (pe_tup (pa_cons pe_int (pa_cons pe_int (pa_cons pe_int (pa_cons pe_int (pa_cons pe_int pa_nil)))))) pa_nil)) (pg_tup rfl (pgs_cons (pg_name (i := 4) sc_l_fill.nd rfl (Or.inl rfl)) (pgs_cons (pg_name (i := 5) sc_l_fill.nd rfl (Or.inl rfl)) pgs_nil))) (pss_cons (ps_set (i := 6) sc_l_fill.nd rfl (Or.inl rfl) (pe_op op_mod (pe_callTy cb_int (by rfl) T.z_int (by decide +kernel) (pa_cons (pe_op op_mul (pe_op op_add (pe_op op_add (pv 1) (pe_op op_mul (pe_op op_mul pe_int (pv 4)) (pv 4))) (pe_op op_mul pe_int (pv 4))) (pe_op op_add pe_int (pe_op op_mul pe_int (pv 4)))) pa_nil)) (pv 5)))
  (pss_one (ps_asg (pe_op op_add (pe_op op_mul (pe_ix ix_list (pv 0) pe_int (fun _ _ => rfl)) (pv 5)) (pe_op op_mod (pe_callTy cb_int (by rfl) T.z_int (by decide +kernel) (pa_cons (pe_op op_pow (pv 6) pe_int) pa_nil)) (pv 5))) (pg_sub (pv 0) pe_int set_list))))))) pss_nil))))))))
theorem sc_l_take : FnScope ["_law_state", "_law_many", "_law_laps", "_law_digit"] ["_law_state", "_law_many"] (defScope s_l_take) := ⟨rfl, rfl, rfl, by decide +kernel, rfl, by decide +kernel, by decide +kernel⟩
theorem der_l_take {sp_l_fill : Sp} (T : Tx P w K mg base) (G0 : FOk P w K mg base CX0 1 (He.ga K "_law_fill") ["_law_state"] [] sp_l_fill) {sp : Sp} (hl : ∀ vs H Q E, sp vs H Q E → vs.length = 2)
    (rd : ∀ vs H Q E, sp vs H Q E → t_l_take K sp_l_fill (fin Q) (start ["_law_state", "_law_many", "_law_laps", "_law_digit"] vs) H) : FOk P w K mg base CX0 2 (He.ga K "_law_take") ["_law_state", "_law_many"] [] sp := by
  obtain ⟨⟨fd0, ds0, F0, h0, b0⟩, k0⟩ := G0
  obtain ⟨fd, F⟩ := T.F_l_take
  refine ⟨⟨fd, [], F.ok sc_l_take hl (fun cdv A outer s H vs Q E hr h => ⟨t_l_take K sp_l_fill, PSs.nox ?_, rd vs H Q E h⟩), .nil, F.bindsN fun _ _ _ _ _ _ us hl => match us, hl with | [_, _], _ => rfl⟩, F.kp⟩
  exact (pss_cons (ps_set (i := 2) sc_l_take.nd rfl (Or.inl rfl) pe_int)
  (pss_cons (ps_while PassesOwn.never (PW.pt (pw_and (pt_cmpR op_lt (pv 2) pe_int (nomark _)) (pw_and1 (PW.pt (pw_or (pt_cmpR op_eq (pe_ix ix_list (pv 0) pe_int (fun _ _ => rfl)) pe_int (nomark _)) (pw_or1 (PW.pt (pw_and (pt_val (pe_ix ix_list (pv 0) pe_int (fun _ _ => rfl))) (pw_and1 (pt_cmpR op_lt (pe_ix ix_list (pv 0) pe_int (fun _ _ => rfl)) (pe_op op_mul (pv 1) pe_int) (nomark _))))))))))) (pss_cons (ps_expr (pe_call F0 (hr.mono (by decide)) rfl T.g_l_fill k0 b0 h0 pass0 (pa_cons (pv 0) pa_nil)))
  (pss_cons (ps_aug (i := 2) sc_l_take.nd rfl (Or.inl rfl) pe_int ip_add)
  (pss_one (ps_if (PW.pt (pw_and (pt_val (pe_ix ix_list (pv 0) pe_int (fun _ _ => rfl))) (pw_and1 (pt_cmpR op_lt (pe_ix ix_list (pv 0) pe_int (fun _ _ => rfl)) (pe_op op_mul (pv 1) pe_int) (nomark _))))) (pss_one (ps_asg (pe_op op_add (pe_ix ix_list (pv 0) pe_int (fun _ _ => rfl)) (pe_op op_mul (pe_op op_mul (pv 1) pe_int) (pe_op op_add pe_int (pe_op op_mod (pe_callTy cb_int (by rfl) T.z_int (by decide +kernel) (pa_cons (pe_ix ix_list (pv 0) pe_int (fun _ _ => rfl)) pa_nil)) pe_int)))) (pg_sub (pv 0) pe_int set_list))) pss_nil)))))
  (pss_cons (ps_set (i := 3) sc_l_take.nd rfl (Or.inl rfl) (pe_op op_mod (pe_callTy cb_int (by rfl) T.z_int (by decide +kernel) (pa_cons (pe_ix ix_list (pv 0) pe_int (fun _ _ => rfl)) pa_nil)) (pv 1)))
  (pss_cons (ps_asg (pe_op op_fdivW (pe_ix ix_list (pv 0) pe_int (fun _ _ => rfl)) (pv 1)) (pg_sub (pv 0) pe_int set_list))
  (pss_one (ps_ret (pv 3)))))))
theorem sc_l_one : FnScope ["_law_state", "_law_things"] ["_law_state", "_law_things"] (defScope s_l_one) := ⟨rfl, rfl, rfl, by decide +kernel, rfl, by decide +kernel, by decide +kernel⟩
theorem der_l_one {sp_l_take : Sp} (T : Tx P w K mg base) (G0 : FOk P w K mg base CX0 2 (He.ga K "_law_take") ["_law_state", "_law_many"] [] sp_l_take) {sp : Sp} (hl : ∀ vs H Q E, sp vs H Q E → vs.length = 2)
    (rd : ∀ vs H Q E, sp vs H Q E → t_l_one K sp_l_take (fin Q) (start ["_law_state", "_law_things"] vs) H) : FOk P w K mg base CX0 3 (He.ga K "_law_one") ["_law_state", "_law_things"] [] sp := by
  obtain ⟨⟨fd0, ds0, F0, h0, b0⟩, k0⟩ := G0
  obtain ⟨fd, F⟩ := T.F_l_one
  refine ⟨⟨fd, [], F.ok sc_l_one hl (fun cdv A outer s H vs Q E hr h => ⟨t_l_one K sp_l_take, PSs.nox ?_, rd vs H Q E h⟩), .nil, F.bindsN fun _ _ _ _ _ _ us hl => match us, hl with | [_, _], _ => rfl⟩, F.kp⟩
  exact (pss_one (ps_ret (pe_ix ix_list (pv 1) (pe_call F0 (hr.mono (by decide)) rfl T.g_l_take k0 b0 h0 pass0 (pa_cons (pv 0) (pa_cons (pe_callB cb_len (by rfl) T.z_len (by decide +kernel) (pa_cons (pv 1) pa_nil)) pa_nil))) (fun _ _ => rfl))))
theorem sc_l_same : FnScope ["_law_found", "_law_due", "_law_a", "_law_b"] ["_law_found", "_law_due"] (defScope s_l_same) := ⟨rfl, rfl, rfl, by decide +kernel, rfl, by decide +kernel, by decide +kernel⟩
theorem der_l_same {sp_l_same : Sp} (T : Tx P w K mg base) {n : Nat} (hn : 0 ≤ n) (G0 : FOk P w K mg base CX0 n (He.ga K "_law_same") ["_law_found", "_law_due"] [] sp_l_same) {sp : Sp} (hl : ∀ vs H Q E, sp vs H Q E → vs.length = 2)
    (rd : ∀ vs H Q E, sp vs H Q E → t_l_same K sp_l_same (fin Q) (start ["_law_found", "_law_due", "_law_a", "_law_b"] vs) H) : FOk P w K mg base CX0 (n + 1) (He.ga K "_law_same") ["_law_found", "_law_due"] [] sp := by
  obtain ⟨⟨fd0, ds0, F0, h0, b0⟩, k0⟩ := G0
  obtain ⟨fd, F⟩ := T.F_l_same
  refine ⟨⟨fd, [], F.ok sc_l_same hl (fun cdv A outer s H vs Q E hr h => ⟨t_l_same K sp_l_same, PSs.nox ?_, rd vs H Q E h⟩), .nil, F.bindsN fun _ _ _ _ _ _ us hl => match us, hl with | [_, _], _ => rfl⟩, F.kp⟩
  exact (pss_cons (ps_if (pt_val (pe_callB call_isiT (by rfl) T.z_isinstance (by decide +kernel) (pa_cons (pv 1) (pa_cons (pe_tup (pa_cons (pe_bltn (by rfl) T.z_list (by decide +kernel) rfl) (pa_cons (pe_bltn (by rfl) T.z_tuple (by decide +kernel) rfl) pa_nil))) pa_nil)))) (pss_cons (ps_if (PW.pt (pw_or (pt_cmpR op_ne (pe_callB call_isi (by rfl) T.z_isinstance (by decide +kernel) (pa_cons (pv 0) (pa_cons (pe_bltn (by rfl) T.z_list (by decide +kernel) rfl) pa_nil))) (pe_callB call_isi (by rfl) T.z_isinstance (by decide +kernel) (pa_cons (pv 1) (pa_cons (pe_bltn (by rfl) T.z_list (by decide +kernel) rfl) pa_nil))) (nomark _)) (pw_or1 (pt_cmpR op_ne (pe_callB call_isi (by rfl) T.z_isinstance (by decide +kernel) (pa_cons (pv 0) (pa_cons (pe_bltn (by rfl) T.z_tuple (by decide +kernel) rfl) pa_nil))) (pe_callB call_isi (by rfl) T.z_isinstance (by decide +kernel) (pa_cons (pv 1) (pa_cons (pe_bltn (by rfl) T.z_tuple (by decide +kernel) rfl) pa_nil))) (nomark _))))) (pss_one (ps_ret pe_bl)) pss_nil)
  (pss_one (ps_ret (pe_and (pe_cmpR op_eq (pe_callB cb_len (by rfl) T.z_len (by decide +kernel) (pa_cons (pv 0) pa_nil)) (pe_callB cb_len (by rfl) T.z_len (by decide +kernel) (pa_cons (pv 1) pa_nil)) (nomark _)) (pe_one (pe_callB (cr_all rfl) (by rfl) T.z_all (by decide +kernel) (pa_cons (pe_lc (own := [("_law_a", 2), ("_law_b", 3)]) rfl sc_l_same.nd (pi_zipA (by rfl) T.z_zip (pa_cons (pv 0) (pa_cons (pv 1) pa_nil))) (blkOk_by (own := [("_law_a", 2), ("_law_b", 3)]) (N := ["_law_found", "_law_due", "_law_a", "_law_b"]) (sc := defScope s_l_same) (by decide +kernel)) (fun _ _ _ _ _ => (pg_tup rfl (pgs_cons (pg_name (i := 2) sc_l_same.nd rfl (Or.inl rfl)) (pgs_cons (pg_name (i := 3) sc_l_same.nd rfl (Or.inl rfl)) pgs_nil)))) (fun _ _ _ _ _ => pts_nil) (fun _ _ _ _ _ => (pe_call F0 hr rfl T.g_l_same k0 b0 h0 pass0 (pa_cons (pv 2) (pa_cons (pv 3) pa_nil))))) pa_nil))))))) pss_nil)
  (pss_cons (ps_if (pt_val (pe_callB call_isi (by rfl) T.z_isinstance (by decide +kernel) (pa_cons (pv 1) (pa_cons (pe_bltn (by rfl) T.z_int (by decide +kernel) rfl) pa_nil)))) (pss_one (ps_ret (pe_and (pe_callB call_isi (by rfl) T.z_isinstance (by decide +kernel) (pa_cons (pv 0) (pa_cons (pe_bltn (by rfl) T.z_int (by decide +kernel) rfl) pa_nil))) (pe_and (pe_cmpR op_eq (pe_callB call_isi (by rfl) T.z_isinstance (by decide +kernel) (pa_cons (pv 0) (pa_cons (pe_bltn (by rfl) T.z_bool (by decide +kernel) rfl) pa_nil))) (pe_callB call_isi (by rfl) T.z_isinstance (by decide +kernel) (pa_cons (pv 1) (pa_cons (pe_bltn (by rfl) T.z_bool (by decide +kernel) rfl) pa_nil))) (nomark _)) (pe_one (pe_cmpR (op_same hr.units) (pv 0) (pv 1) (nomark _))))))) pss_nil)
  (pss_one (ps_ret (pe_and (pe_cmpR op_isBl (pe_callB call_isiT (by rfl) T.z_isinstance (by decide +kernel) (pa_cons (pv 0) (pa_cons (pe_tup (pa_cons (pe_bltn (by rfl) T.z_bool (by decide +kernel) rfl) (pa_cons (pe_bltn (by rfl) T.z_int (by decide +kernel) rfl) (pa_cons (pe_bltn (by rfl) T.z_list (by decide +kernel) rfl) (pa_cons (pe_bltn (by rfl) T.z_tuple (by decide +kernel) rfl) pa_nil))))) pa_nil))) pe_bl (nomark _)) (pe_one (pe_cmpR (op_same hr.units) (pv 0) (pv 1) (nomark _))))))))
theorem sc_l_any : FnScope ["_law_state", "_law_deep", "_law_way", "_law_inner", "_law_k"] ["_law_state", "_law_deep"] (defScope s_l_any) := ⟨rfl, rfl, rfl, by decide +kernel, rfl, by decide +kernel, by decide +kernel⟩
theorem der_l_any {sp_l_take sp_l_one sp_l_any : Sp} (T : Tx P w K mg base) {n : Nat} (hn : 3 ≤ n) (G0 : FOk P w K mg base CX0 2 (He.ga K "_law_take") ["_law_state", "_law_many"] [] sp_l_take) (G1 : FOk P w K mg base CX0 3 (He.ga K "_law_one") ["_law_state", "_law_things"] [] sp_l_one) (G2 : FOk P w K mg base CX0 n (He.ga K "_law_any") ["_law_state", "_law_deep"] [] sp_l_any) {sp : Sp} (hl : ∀ vs H Q E, sp vs H Q E → vs.length = 2)
    (rd : ∀ vs H Q E, sp vs H Q E → t_l_any K sp_l_take sp_l_one sp_l_any (fin Q) (start ["_law_state", "_law_deep", "_law_way", "_law_inner", "_law_k"] vs) H) : FOk P w K mg base CX0 (n + 1) (He.ga K "_law_any") ["_law_state", "_law_deep"] [] sp := by
  obtain ⟨⟨fd0, ds0, F0, h0, b0⟩, k0⟩ := G0
  obtain ⟨⟨fd1, ds1, F1, h1, b1⟩, k1⟩ := G1
  obtain ⟨⟨fd2, ds2, F2, h2, b2⟩, k2⟩ := G2
  obtain ⟨fd, F⟩ := T.F_l_any
  refine ⟨⟨fd, [], F.ok sc_l_any hl (fun cdv A outer s H vs Q E hr h => ⟨t_l_any K sp_l_take sp_l_one sp_l_any, PSs.nox ?_, rd vs H Q E h⟩), .nil, F.bindsN fun _ _ _ _ _ _ us hl => match us, hl with | [_, _], _ => rfl⟩, F.kp⟩
  exact (Evl.pss_cut (ps_set (i := 2) sc_l_any.nd rfl (Or.inl rfl) (pe_call F0 (hr.mono (Nat.le_trans (by decide) hn)) rfl T.g_l_take k0 b0 h0 pass0 (pa_cons (pv 0) (pa_cons (pe_ifExp (pt_cmpR op_gt (pv 1) pe_int (nomark _)) pe_int pe_int) pa_nil))))
  (pss_cons (ps_if (pt_cmpR op_lt (pv 2) pe_int (nomark _)) (pss_one (ps_ret (pe_ix ix_list (pe_lst (pa_cons (pe_call F0 (hr.mono (Nat.le_trans (by decide) hn)) rfl T.g_l_take k0 b0 h0 pass0 (pa_cons (pv 0) (pa_cons (pe_op op_pow pe_int pe_int) pa_nil))) (pa_cons pe_bl (pa_cons pe_non (pa_cons (pe_call F1 (hr.mono (Nat.le_trans (by decide) hn)) rfl T.g_l_one k1 b1 h1 pass0 (pa_cons (pv 0) (pa_cons (pe_lst (pa_cons pe_str (pa_cons pe_str (pa_cons pe_str (pa_cons pe_str pa_nil))))) pa_nil))) (pa_cons (pe_un un_neg pe_int) pa_nil)))))) (pv 2) (fun _ _ => rfl)))) pss_nil)
  (pss_cons (ps_setLc (i := 3) (own := [("_law_k", 4)]) rfl sc_l_any.nd rfl rfl (sw_true rfl rfl rfl (by decide +kernel)) (pi_range1 (by rfl) T.z_range (pa_cons (pe_call F0 (hr.mono (Nat.le_trans (by decide) hn)) rfl T.g_l_take k0 b0 h0 pass0 (pa_cons (pv 0) (pa_cons pe_int pa_nil))) pa_nil)) (blkOk_by (own := [("_law_k", 4)]) (N := ["_law_state", "_law_deep", "_law_way", "_law_inner", "_law_k"]) (sc := defScope s_l_any) (by decide +kernel)) (fun _ _ _ _ _ => (pg_name (i := 4) sc_l_any.nd rfl (Or.inl rfl))) (fun _ _ _ _ _ => pts_nil) (fun _ _ _ _ _ => (pe_call F2 hr rfl T.g_l_any k2 b2 h2 pass0 (pa_cons (pv 0) (pa_cons (pe_op op_sub (pv 1) pe_int) pa_nil)))))
  (pss_one (ps_ret (pe_ix ix_list (pe_lst (pa_cons (pv 3) (pa_cons (pe_callTy cb_tuple (by rfl) T.z_tuple (by decide +kernel) (pa_cons (pv 3) pa_nil)) (pa_cons (pe_disp (pps_cons pe_str (pv 3) pps_nil) (by rfl) rfl (fun z => nomatch z) (by decide)) pa_nil)))) (pe_op op_sub (pv 2) pe_int) (fun _ _ => rfl)))))))
theorem sc_l_with_one : FnScope ["_law_x", "_law_found"] ["_law_x"] (defScope s_l_with_one) := ⟨rfl, rfl, rfl, by decide +kernel, rfl, by decide +kernel, by decide +kernel⟩
theorem der_l_with_one (T : Tx P w K mg base)  {sp : Sp} (hl : ∀ vs H Q E, sp vs H Q E → vs.length = 1)
    (rd : ∀ vs H Q E, sp vs H Q E → t_l_with_one K  (fin Q) (start ["_law_x", "_law_found"] vs) H) : FOk P w K mg base CX0 3 (He.ga K "_law_with_one") ["_law_x"] [] sp := by
  obtain ⟨fd, F⟩ := T.F_l_with_one
  refine ⟨⟨fd, [], F.ok sc_l_with_one hl (fun cdv A outer s H vs Q E hr h => ⟨t_l_with_one K , PSs.nox ?_, rd vs H Q E h⟩), .nil, F.bindsN fun _ _ _ _ _ _ us hl => match us, hl with | [_], _ => rfl⟩, F.kp⟩
  exact (pss_cons (ps_set (i := 1) sc_l_with_one.nd rfl (Or.inl rfl) (pe_lst (pa_cons (pe_errK T.e_BadField (hr.mono (by decide)) rfl (pk_cons (pv 0) pk_nil)) (pa_cons (pe_errK T.e_UnknownField (hr.mono (by decide)) rfl (pk_cons (pv 0) pk_nil)) (pa_cons (pe_errK T.e_BadWord (hr.mono (by decide)) rfl (pk_cons (pv 0) pk_nil)) (pa_cons (pe_errK T.e_BadKind (hr.mono (by decide)) rfl (pk_cons (pv 0) pk_nil)) (pa_cons (pe_errK T.e_UnknownKind (hr.mono (by decide)) rfl (pk_cons (pv 0) pk_nil)) pa_nil)))))))
  (pss_cons (ps_set (i := 1) sc_l_with_one.nd rfl (Or.inl rfl) (pe_op op_cat (pv 1) (pe_lst (pa_cons (pe_errK T.e_BadResource (hr.mono (by decide)) rfl (pk_cons (pv 0) pk_nil)) (pa_cons (pe_errK T.e_BadCount (hr.mono (by decide)) rfl (pk_cons (pv 0) pk_nil)) (pa_cons (pe_errK T.e_BadTag (hr.mono (by decide)) rfl (pk_cons (pv 0) pk_nil)) (pa_cons (pe_errK T.e_BadValue (hr.mono (by decide)) rfl (pk_cons (pv 0) pk_nil)) pa_nil)))))))
  (pss_cons (ps_set (i := 1) sc_l_with_one.nd rfl (Or.inl rfl) (pe_op op_cat (pv 1) (pe_lst (pa_cons (pe_errK T.e_Unlabelled (hr.mono (by decide)) rfl (pk_cons (pv 0) pk_nil)) (pa_cons (pe_errK T.e_BadFlag (hr.mono (by decide)) rfl (pk_cons (pv 0) pk_nil)) (pa_cons (pe_errK T.e_BadCopies (hr.mono (by decide)) rfl (pk_cons (pv 0) pk_nil)) (pa_cons (pe_errK T.e_UnknownTemplate (hr.mono (by decide)) rfl (pk_cons (pv 0) pk_nil)) pa_nil)))))))
  (pss_one (ps_ret (pe_op op_cat (pv 1) (pe_lst (pa_cons (pe_errK T.e_BadVariable (hr.mono (by decide)) rfl (pk_cons (pv 0) pk_nil)) (pa_cons (pe_errK T.e_BadStep (hr.mono (by decide)) rfl (pk_cons (pv 0) pk_nil)) (pa_cons (pe_errK T.e_BadText (hr.mono (by decide)) rfl (pk_cons (pv 0) pk_nil)) pa_nil))))))))))
theorem sc_l_by_place : FnScope ["_law_x", "_law_found"] ["_law_x"] (defScope s_l_by_place) := ⟨rfl, rfl, rfl, by decide +kernel, rfl, by decide +kernel, by decide +kernel⟩
theorem der_l_by_place (T : Tx P w K mg base)  {sp : Sp} (hl : ∀ vs H Q E, sp vs H Q E → vs.length = 1)
    (rd : ∀ vs H Q E, sp vs H Q E → t_l_by_place K  (fin Q) (start ["_law_x", "_law_found"] vs) H) : FOk P w K mg base CX0 3 (He.ga K "_law_by_place") ["_law_x"] [] sp := by
  obtain ⟨fd, F⟩ := T.F_l_by_place
  refine ⟨⟨fd, [], F.ok sc_l_by_place hl (fun cdv A outer s H vs Q E hr h => ⟨t_l_by_place K , PSs.nox ?_, rd vs H Q E h⟩), .nil, F.bindsN fun _ _ _ _ _ _ us hl => match us, hl with | [_], _ => rfl⟩, F.kp⟩
  exact (pss_cons (ps_set (i := 1) sc_l_by_place.nd rfl (Or.inl rfl) (pe_lst (pa_cons (pe_err T.e_BadField (hr.mono (by decide)) rfl (pa_cons (pv 0) pa_nil) (by decide)) (pa_cons (pe_err T.e_UnknownField (hr.mono (by decide)) rfl (pa_cons (pv 0) pa_nil) (by decide)) (pa_cons (pe_err T.e_BadWord (hr.mono (by decide)) rfl (pa_cons (pv 0) pa_nil) (by decide)) (pa_cons (pe_err T.e_BadKind (hr.mono (by decide)) rfl (pa_cons (pv 0) pa_nil) (by decide)) (pa_cons (pe_err T.e_UnknownKind (hr.mono (by decide)) rfl (pa_cons (pv 0) pa_nil) (by decide)) (pa_cons (pe_err T.e_BadResource (hr.mono (by decide)) rfl (pa_cons (pv 0) pa_nil) (by decide)) (pa_cons (pe_err T.e_BadCount (hr.mono (by decide)) rfl (pa_cons (pv 0) pa_nil) (by decide)) pa_nil)))))))))
  (pss_cons (ps_set (i := 1) sc_l_by_place.nd rfl (Or.inl rfl) (pe_op op_cat (pv 1) (pe_lst (pa_cons (pe_err T.e_BadTag (hr.mono (by decide)) rfl (pa_cons (pv 0) pa_nil) (by decide)) (pa_cons (pe_err T.e_BadValue (hr.mono (by decide)) rfl (pa_cons (pv 0) pa_nil) (by decide)) (pa_cons (pe_err T.e_Unlabelled (hr.mono (by decide)) rfl (pa_cons (pv 0) pa_nil) (by decide)) (pa_cons (pe_err T.e_BadFlag (hr.mono (by decide)) rfl (pa_cons (pv 0) pa_nil) (by decide)) (pa_cons (pe_err T.e_BadCopies (hr.mono (by decide)) rfl (pa_cons (pv 0) pa_nil) (by decide)) (pa_cons (pe_err T.e_UnknownTemplate (hr.mono (by decide)) rfl (pa_cons (pv 0) pa_nil) (by decide)) pa_nil)))))))))
  (pss_one (ps_ret (pe_op op_cat (pv 1) (pe_lst (pa_cons (pe_err T.e_BadVariable (hr.mono (by decide)) rfl (pa_cons (pv 0) pa_nil) (by decide)) (pa_cons (pe_err T.e_BadStep (hr.mono (by decide)) rfl (pa_cons (pv 0) pa_nil) (by decide)) (pa_cons (pe_err T.e_BadText (hr.mono (by decide)) rfl (pa_cons (pv 0) pa_nil) (by decide)) pa_nil)))))))))
theorem sc_l_held : FnScope ["_law_made", "_law_found"] ["_law_made"] (defScope s_l_held) := ⟨rfl, rfl, rfl, by decide +kernel, rfl, by decide +kernel, by decide +kernel⟩
theorem der_l_held (T : Tx P w K mg base)  {sp : Sp} (hl : ∀ vs H Q E, sp vs H Q E → vs.length = 1)
    (rd : ∀ vs H Q E, sp vs H Q E → t_l_held K  (fin Q) (start ["_law_made", "_law_found"] vs) H) : FOk P w K mg base CX0 1 (He.ga K "_law_held") ["_law_made"] [] sp := by
  obtain ⟨fd, F⟩ := T.F_l_held
  refine ⟨⟨fd, [], F.ok sc_l_held hl (fun cdv A outer s H vs Q E hr h => ⟨t_l_held K , PSs.nox ?_, rd vs H Q E h⟩), .nil, F.bindsN fun _ _ _ _ _ _ us hl => match us, hl with | [_], _ => rfl⟩, F.kp⟩
  exact (pss_cons (ps_set (i := 1) sc_l_held.nd rfl (Or.inl rfl) (pe_lst (pa_cons (pe_errF (pe_ix ix_list (pv 0) pe_int (fun _ _ => rfl))) (pa_cons (pe_errF (pe_ix ix_list (pv 0) pe_int (fun _ _ => rfl))) (pa_cons (pe_errF (pe_ix ix_list (pv 0) pe_int (fun _ _ => rfl))) (pa_cons (pe_errF (pe_ix ix_list (pv 0) pe_int (fun _ _ => rfl))) (pa_cons (pe_errF (pe_ix ix_list (pv 0) pe_int (fun _ _ => rfl))) (pa_cons (pe_errF (pe_ix ix_list (pv 0) pe_int (fun _ _ => rfl))) pa_nil))))))))
  (pss_cons (ps_set (i := 1) sc_l_held.nd rfl (Or.inl rfl) (pe_op op_cat (pv 1) (pe_lst (pa_cons (pe_errF (pe_ix ix_list (pv 0) pe_int (fun _ _ => rfl))) (pa_cons (pe_errF (pe_ix ix_list (pv 0) pe_int (fun _ _ => rfl))) (pa_cons (pe_errF (pe_ix ix_list (pv 0) pe_int (fun _ _ => rfl))) (pa_cons (pe_errF (pe_ix ix_list (pv 0) pe_int (fun _ _ => rfl))) (pa_cons (pe_errF (pe_ix ix_list (pv 0) pe_int (fun _ _ => rfl))) (pa_cons (pe_errF (pe_ix ix_list (pv 0) pe_int (fun _ _ => rfl))) pa_nil)))))))))
  (pss_one (ps_ret (pe_op op_cat (pv 1) (pe_lst (pa_cons (pe_errF (pe_ix ix_list (pv 0) pe_int (fun _ _ => rfl))) (pa_cons (pe_errF (pe_ix ix_list (pv 0) pe_int (fun _ _ => rfl))) (pa_cons (pe_errF (pe_ix ix_list (pv 0) pe_int (fun _ _ => rfl))) (pa_cons (pe_errF (pe_ix ix_list (pv 0) pe_int (fun _ _ => rfl))) pa_nil))))))))))
theorem sc_l_classes : FnScope ["_law_e", "_law_found"] ["_law_e"] (defScope s_l_classes) := ⟨rfl, rfl, rfl, by decide +kernel, rfl, by decide +kernel, by decide +kernel⟩
theorem der_l_classes (T : Tx P w K mg base)  {sp : Sp} (hl : ∀ vs H Q E, sp vs H Q E → vs.length = 1)
    (rd : ∀ vs H Q E, sp vs H Q E → t_l_classes K  (fin Q) (start ["_law_e", "_law_found"] vs) H) : FOk P w K mg base CX0 1 (He.ga K "_law_classes") ["_law_e"] [] sp := by
  obtain ⟨fd, F⟩ := T.F_l_classes
  refine ⟨⟨fd, [], F.ok sc_l_classes hl (fun cdv A outer s H vs Q E hr h => ⟨t_l_classes K , PSs.nox ?_, rd vs H Q E h⟩), .nil, F.bindsN fun _ _ _ _ _ _ us hl => match us, hl with | [_], _ => rfl⟩, F.kp⟩
  exact (pss_cons (ps_set (i := 1) sc_l_classes.nd rfl (Or.inl rfl) (pe_lst (pa_cons (pe_callB call_isErr (by rfl) T.z_isinstance (by decide +kernel) (pa_cons (pv 0) (pa_cons (pe_glob rfl T.gc_BadField rfl) pa_nil))) (pa_cons (pe_callB call_isErr (by rfl) T.z_isinstance (by decide +kernel) (pa_cons (pv 0) (pa_cons (pe_glob rfl T.gc_UnknownField rfl) pa_nil))) (pa_cons (pe_callB call_isErr (by rfl) T.z_isinstance (by decide +kernel) (pa_cons (pv 0) (pa_cons (pe_glob rfl T.gc_BadWord rfl) pa_nil))) (pa_cons (pe_callB call_isErr (by rfl) T.z_isinstance (by decide +kernel) (pa_cons (pv 0) (pa_cons (pe_glob rfl T.gc_BadKind rfl) pa_nil))) pa_nil))))))
  (pss_cons (ps_set (i := 1) sc_l_classes.nd rfl (Or.inl rfl) (pe_op op_cat (pv 1) (pe_lst (pa_cons (pe_callB call_isErr (by rfl) T.z_isinstance (by decide +kernel) (pa_cons (pv 0) (pa_cons (pe_glob rfl T.gc_UnknownKind rfl) pa_nil))) (pa_cons (pe_callB call_isErr (by rfl) T.z_isinstance (by decide +kernel) (pa_cons (pv 0) (pa_cons (pe_glob rfl T.gc_BadResource rfl) pa_nil))) (pa_cons (pe_callB call_isErr (by rfl) T.z_isinstance (by decide +kernel) (pa_cons (pv 0) (pa_cons (pe_glob rfl T.gc_BadCount rfl) pa_nil))) pa_nil))))))
  (pss_cons (ps_set (i := 1) sc_l_classes.nd rfl (Or.inl rfl) (pe_op op_cat (pv 1) (pe_lst (pa_cons (pe_callB call_isErr (by rfl) T.z_isinstance (by decide +kernel) (pa_cons (pv 0) (pa_cons (pe_glob rfl T.gc_BadTag rfl) pa_nil))) (pa_cons (pe_callB call_isErr (by rfl) T.z_isinstance (by decide +kernel) (pa_cons (pv 0) (pa_cons (pe_glob rfl T.gc_BadValue rfl) pa_nil))) (pa_cons (pe_callB call_isErr (by rfl) T.z_isinstance (by decide +kernel) (pa_cons (pv 0) (pa_cons (pe_glob rfl T.gc_Unlabelled rfl) pa_nil))) pa_nil))))))
  (pss_cons (ps_set (i := 1) sc_l_classes.nd rfl (Or.inl rfl) (pe_op op_cat (pv 1) (pe_lst (pa_cons (pe_callB call_isErr (by rfl) T.z_isinstance (by decide +kernel) (pa_cons (pv 0) (pa_cons (pe_glob rfl T.gc_BadFlag rfl) pa_nil))) (pa_cons (pe_callB call_isErr (by rfl) T.z_isinstance (by decide +kernel) (pa_cons (pv 0) (pa_cons (pe_glob rfl T.gc_BadCopies rfl) pa_nil))) (pa_cons (pe_callB call_isErr (by rfl) T.z_isinstance (by decide +kernel) (pa_cons (pv 0) (pa_cons (pe_glob rfl T.gc_UnknownTemplate rfl) pa_nil))) pa_nil))))))
  (pss_cons (ps_set (i := 1) sc_l_classes.nd rfl (Or.inl rfl) (pe_op op_cat (pv 1) (pe_lst (pa_cons (pe_callB call_isErr (by rfl) T.z_isinstance (by decide +kernel) (pa_cons (pv 0) (pa_cons (pe_glob rfl T.gc_BadVariable rfl) pa_nil))) (pa_cons (pe_callB call_isErr (by rfl) T.z_isinstance (by decide +kernel) (pa_cons (pv 0) (pa_cons (pe_glob rfl T.gc_BadStep rfl) pa_nil))) (pa_cons (pe_callB call_isErr (by rfl) T.z_isinstance (by decide +kernel) (pa_cons (pv 0) (pa_cons (pe_glob rfl T.gc_BadText rfl) pa_nil))) pa_nil))))))
  (pss_cons (ps_set (i := 1) sc_l_classes.nd rfl (Or.inl rfl) (pe_op op_cat (pv 1) (pe_lst (pa_cons (pe_callB call_isErr (by rfl) T.z_isinstance (by decide +kernel) (pa_cons (pv 0) (pa_cons (pe_glob rfl T.gc_NoWrite rfl) pa_nil))) (pa_cons (pe_callB call_isErr (by rfl) T.z_isinstance (by decide +kernel) (pa_cons (pv 0) (pa_cons (pe_glob rfl T.gc_Rejected rfl) pa_nil))) (pa_cons (pe_callB call_isErr (by rfl) T.z_isinstance (by decide +kernel) (pa_cons (pv 0) (pa_cons (pe_glob rfl T.gc_Offline rfl) pa_nil))) pa_nil))))))
  (pss_cons (ps_set (i := 1) sc_l_classes.nd rfl (Or.inl rfl) (pe_op op_cat (pv 1) (pe_lst (pa_cons (pe_callB call_isErr (by rfl) T.z_isinstance (by decide +kernel) (pa_cons (pv 0) (pa_cons (pe_glob rfl T.gc_BadTemplate rfl) pa_nil))) (pa_cons (pe_callB call_isErr (by rfl) T.z_isinstance (by decide +kernel) (pa_cons (pv 0) (pa_cons (pe_glob rfl T.gc_BadValues rfl) pa_nil))) (pa_cons (pe_callB call_isErr (by rfl) T.z_isinstance (by decide +kernel) (pa_cons (pv 0) (pa_cons (pe_glob rfl T.gc_BadCatalog rfl) pa_nil))) pa_nil))))))
  (pss_one (ps_ret (pe_op op_cat (pv 1) (pe_lst (pa_cons (pe_callB call_isErr (by rfl) T.z_isinstance (by decide +kernel) (pa_cons (pv 0) (pa_cons (pe_glob rfl T.gc_BadCover rfl) pa_nil))) pa_nil))))))))))))
theorem sc_law : FnScope ["_law_script", "_law_state", "_law_turn", "_law_ones", "_law_twos", "_law_named", "_law_bare", "_law_z", "_law_made", "_law_row", "_law_base", "_law_x", "_law_y", "_law_pairs", "_law_k", "_law_e", "_law_at", "_law_told", "_law_pair"] ["_law_script"] (defScope s_law) := ⟨rfl, rfl, rfl, by decide +kernel, rfl, by decide +kernel, by decide +kernel⟩
theorem der_law {sp_l_fresh sp_l_any sp_l_with_one sp_l_by_place sp_l_held sp_l_same sp_l_classes : Sp} (T : Tx P w K mg base) {fd : FuncData} (F : FunD K "law" "law" (defArgs s_law) (defBody s_law) (defScope s_law) [] [] (He.ga K "law") fd) (G0 : FOk P w K mg base CX0 1 (He.ga K "_law_fresh") ["_law_script"] [] sp_l_fresh) (G1 : FOk P w K mg base CX0 6 (He.ga K "_law_any") ["_law_state", "_law_deep"] [] sp_l_any) (G2 : FOk P w K mg base CX0 3 (He.ga K "_law_with_one") ["_law_x"] [] sp_l_with_one) (G3 : FOk P w K mg base CX0 3 (He.ga K "_law_by_place") ["_law_x"] [] sp_l_by_place) (G4 : FOk P w K mg base CX0 1 (He.ga K "_law_held") ["_law_made"] [] sp_l_held) (G5 : FOk P w K mg base CX0 4 (He.ga K "_law_same") ["_law_found", "_law_due"] [] sp_l_same) (G6 : FOk P w K mg base CX0 1 (He.ga K "_law_classes") ["_law_e"] [] sp_l_classes) {sp : Sp} (hl : ∀ vs H Q E, sp vs H Q E → vs.length = 1)
    (rd : ∀ vs H Q E, sp vs H Q E → t_law K sp_l_fresh sp_l_any sp_l_with_one sp_l_by_place sp_l_held sp_l_same sp_l_classes (fin Q) (start ["_law_script", "_law_state", "_law_turn", "_law_ones", "_law_twos", "_law_named", "_law_bare", "_law_z", "_law_made", "_law_row", "_law_base", "_law_x", "_law_y", "_law_pairs", "_law_k", "_law_e", "_law_at", "_law_told", "_law_pair"] vs) H) : FnOk P w K mg base CX0 7 (He.ga K "law") fd ["_law_script"] sp := by
  obtain ⟨⟨fd0, ds0, F0, h0, b0⟩, k0⟩ := G0
  obtain ⟨⟨fd1, ds1, F1, h1, b1⟩, k1⟩ := G1
  obtain ⟨⟨fd2, ds2, F2, h2, b2⟩, k2⟩ := G2
  obtain ⟨⟨fd3, ds3, F3, h3, b3⟩, k3⟩ := G3
  obtain ⟨⟨fd4, ds4, F4, h4, b4⟩, k4⟩ := G4
  obtain ⟨⟨fd5, ds5, F5, h5, b5⟩, k5⟩ := G5
  obtain ⟨⟨fd6, ds6, F6, h6, b6⟩, k6⟩ := G6
  refine F.ok sc_law hl (fun cdv A outer s H vs Q E hr h => ⟨t_law K sp_l_fresh sp_l_any sp_l_with_one sp_l_by_place sp_l_held sp_l_same sp_l_classes, PSs.nox ?_, rd vs H Q E h⟩)
  exact (pss_cons (ps_set (i := 1) sc_law.nd rfl (Or.inl rfl) (pe_call F0 (hr.mono (by decide)) rfl T.g_l_fresh k0 b0 h0 pass0 (pa_cons (pv 0) pa_nil)))
  (pss_cons (ps_for PassesOwn.never rfl (pi_range1 (by rfl) T.z_range (pa_cons pe_int pa_nil)) (pg_name (i := 2) sc_law.nd rfl (Or.inl rfl)) (pss_cons (ps_asg (pe_tup (pa_cons (pe_call F1 (hr.mono (by decide)) rfl T.g_l_any k1 b1 h1 pass0 (pa_cons (pv 1) (pa_cons pe_int pa_nil))) (pa_cons (pe_call F1 (hr.mono (by decide)) rfl T.g_l_any k1 b1 h1 pass0 (pa_cons (pv 1) (pa_cons pe_int pa_nil))) pa_nil))) (pg_tup rfl (pgs_cons (pg_name (i := 11) sc_law.nd rfl (Or.inr rfl)) (pgs_cons (pg_name (i := 12) sc_law.nd rfl (Or.inr rfl)) pgs_nil))))
  (pss_cons (ps_set (i := 3) sc_law.nd rfl (Or.inl rfl) (pe_lst (pa_cons (pe_call F2 (hr.mono (by decide)) rfl T.g_l_with_one k2 b2 h2 pass0 (pa_cons (pv 11) pa_nil)) (pa_cons (pe_call F3 (hr.mono (by decide)) rfl T.g_l_by_place k3 b3 h3 pass0 (pa_cons (pv 11) pa_nil)) pa_nil))))
  (pss_cons (ps_set (i := 4) sc_law.nd rfl (Or.inl rfl) (pe_lst (pa_cons (pe_err T.e_NoWrite (hr.mono (by decide)) rfl (pa_cons (pv 11) (pa_cons (pv 12) pa_nil)) (by decide)) (pa_cons (pe_err T.e_Rejected (hr.mono (by decide)) rfl (pa_cons (pv 11) (pa_cons (pv 12) pa_nil)) (by decide)) (pa_cons (pe_err T.e_BadTemplate (hr.mono (by decide)) rfl (pa_cons (pv 11) (pa_cons (pv 12) pa_nil)) (by decide)) (pa_cons (pe_err T.e_BadCatalog (hr.mono (by decide)) rfl (pa_cons (pv 11) (pa_cons (pv 12) pa_nil)) (by decide)) pa_nil))))))
  (pss_cons (ps_set (i := 5) sc_law.nd rfl (Or.inl rfl) (pe_lst (pa_cons (pe_errK T.e_NoWrite (hr.mono (by decide)) rfl (pk_cons (pv 12) (pk_cons (pv 11) pk_nil))) (pa_cons (pe_errK T.e_Rejected (hr.mono (by decide)) rfl (pk_cons (pv 12) (pk_cons (pv 11) pk_nil))) (pa_cons (pe_errK T.e_BadTemplate (hr.mono (by decide)) rfl (pk_cons (pv 12) (pk_cons (pv 11) pk_nil))) pa_nil)))))
  (pss_cons (ps_expr (pe_bm PySem.F.plainAttrs_list PySem.F.slot_list_append PySem.F.type_list_append mt_append (pv 5) (pa_cons (pe_errK T.e_BadCatalog (hr.mono (by decide)) rfl (pk_cons (pv 12) (pk_cons (pv 11) pk_nil))) pa_nil)))
  (pss_cons (ps_set (i := 6) sc_law.nd rfl (Or.inl rfl) (pe_lst (pa_cons (pe_err0 PySem.F.excBase_ValueError T.x0_Offline T.gc_Offline T.kc_Offline rfl) (pa_cons (pe_err0 PySem.F.excBase_ValueError T.x0_BadValues T.gc_BadValues T.kc_BadValues rfl) (pa_cons (pe_err0 PySem.F.excBase_ValueError T.x0_BadCover T.gc_BadCover T.kc_BadCover rfl) pa_nil)))))
  (pss_cons (ps_for PassesOwn.never rfl (pi_list (pe_lst (pa_cons (pv 11) (pa_cons (pv 12) pa_nil)))) (pg_name (i := 7) sc_law.nd rfl (Or.inl rfl)) (pss_one (ps_if (pt_val (pe_callB call_isi (by rfl) T.z_isinstance (by decide +kernel) (pa_cons (pv 7) (pa_cons (pe_bltn (by rfl) T.z_list (by decide +kernel) rfl) pa_nil)))) (pss_one (ps_expr (pe_bm PySem.F.plainAttrs_list PySem.F.slot_list_append PySem.F.type_list_append mt_append (pv 7) (pa_cons pe_str pa_nil)))) pss_nil)))
  (pss_cons (ps_for PassesOwn.never rfl (pi_list (pv 3)) (pg_name (i := 8) sc_law.nd rfl (Or.inl rfl)) (pss_one (ps_if (pt_not (pt_val (pe_callB (cr_all rfl) (by rfl) T.z_all (by decide +kernel) (pa_cons (pe_lc (own := [("_law_told", 17)]) rfl sc_law.nd (pi_list (pe_call F4 (hr.mono (by decide)) rfl T.g_l_held k4 b4 h4 pass0 (pa_cons (pv 8) pa_nil))) (blkOk_by (own := [("_law_told", 17)]) (N := ["_law_script", "_law_state", "_law_turn", "_law_ones", "_law_twos", "_law_named", "_law_bare", "_law_z", "_law_made", "_law_row", "_law_base", "_law_x", "_law_y", "_law_pairs", "_law_k", "_law_e", "_law_at", "_law_told", "_law_pair"]) (sc := defScope s_law) (by decide +kernel)) (fun _ _ _ _ _ => (pg_name (i := 17) sc_law.nd rfl (Or.inl rfl))) (fun _ _ _ _ _ => pts_nil) (fun _ _ _ _ _ => (pe_call F5 (hr.mono (by decide)) rfl T.g_l_same k5 b5 h5 pass0 (pa_cons (pv 17) (pa_cons (pv 11) pa_nil))))) pa_nil)))) (pss_one (ps_ret pe_bl)) pss_nil)))
  (pss_cons (ps_for PassesOwn.never rfl (pi_list (pe_lst (pa_cons (pv 4) (pa_cons (pv 5) pa_nil)))) (pg_name (i := 9) sc_law.nd rfl (Or.inl rfl)) (pss_cons (ps_set (i := 13) sc_law.nd rfl (Or.inl rfl) (pe_lst (pa_cons (pe_tup (pa_cons (pe_errF (pe_ix ix_list (pv 9) pe_int (fun _ _ => rfl))) (pa_cons (pe_errF (pe_ix ix_list (pv 9) pe_int (fun _ _ => rfl))) pa_nil))) (pa_cons (pe_tup (pa_cons (pe_errF (pe_ix ix_list (pv 9) pe_int (fun _ _ => rfl))) (pa_cons (pe_errF (pe_ix ix_list (pv 9) pe_int (fun _ _ => rfl))) pa_nil))) pa_nil))))
  (pss_cons (ps_set (i := 13) sc_law.nd rfl (Or.inl rfl) (pe_op op_cat (pv 13) (pe_lst (pa_cons (pe_tup (pa_cons (pe_errF (pe_ix ix_list (pv 9) pe_int (fun _ _ => rfl))) (pa_cons (pe_errF (pe_ix ix_list (pv 9) pe_int (fun _ _ => rfl))) pa_nil))) (pa_cons (pe_tup (pa_cons (pe_errF (pe_ix ix_list (pv 9) pe_int (fun _ _ => rfl))) (pa_cons (pe_errF (pe_ix ix_list (pv 9) pe_int (fun _ _ => rfl))) pa_nil))) pa_nil)))))
  (pss_one (ps_if (pt_not (pt_val (pe_callB (cr_all rfl) (by rfl) T.z_all (by decide +kernel) (pa_cons (pe_lc (own := [("_law_pair", 18)]) rfl sc_law.nd (pi_list (pv 13)) (blkOk_by (own := [("_law_pair", 18)]) (N := ["_law_script", "_law_state", "_law_turn", "_law_ones", "_law_twos", "_law_named", "_law_bare", "_law_z", "_law_made", "_law_row", "_law_base", "_law_x", "_law_y", "_law_pairs", "_law_k", "_law_e", "_law_at", "_law_told", "_law_pair"]) (sc := defScope s_law) (by decide +kernel)) (fun _ _ _ _ _ => (pg_name (i := 18) sc_law.nd rfl (Or.inl rfl))) (fun _ _ _ _ _ => pts_nil) (fun _ _ _ _ _ => (pe_call F5 (hr.mono (by decide)) rfl T.g_l_same k5 b5 h5 pass0 (pa_cons (pv 18) (pa_cons (pe_tup (pa_cons (pv 11) (pa_cons (pv 12) pa_nil))) pa_nil))))) pa_nil)))) (pss_one (ps_ret pe_bl)) pss_nil)))))
  (pss_cons (ps_set (i := 8) sc_law.nd rfl (Or.inl rfl) (pe_op op_cat (pe_ix ix_list (pv 3) pe_int (fun _ _ => rfl)) (pe_lst (pa_cons (pe_ix ix_list (pv 4) pe_int (fun _ _ => rfl)) (pa_cons (pe_ix ix_list (pv 4) pe_int (fun _ _ => rfl)) (pa_cons (pe_ix ix_list (pv 6) pe_int (fun _ _ => rfl)) (pa_cons (pe_ix ix_list (pv 4) pe_int (fun _ _ => rfl)) (pa_cons (pe_ix ix_list (pv 6) pe_int (fun _ _ => rfl)) (pa_cons (pe_ix ix_list (pv 4) pe_int (fun _ _ => rfl)) (pa_cons (pe_ix ix_list (pv 6) pe_int (fun _ _ => rfl)) pa_nil))))))))))
  (pss_cons (ps_for PassesOwn.never rfl (pi_enum (by rfl) T.z_enumerate (pa_cons (pv 8) pa_nil)) (pg_tup rfl (pgs_cons (pg_name (i := 14) sc_law.nd rfl (Or.inr rfl)) (pgs_cons (pg_name (i := 15) sc_law.nd rfl (Or.inl rfl)) pgs_nil))) (pss_cons (ps_if (PW.pt (pw_or (pt_not (pt_val (pe_callB call_isErr (by rfl) T.z_isinstance (by decide +kernel) (pa_cons (pv 15) (pa_cons (pe_glob rfl T.gc_SeenError rfl) pa_nil))))) (pw_or1 (pt_not (pt_val (pe_callB call_isErr (by rfl) T.z_isinstance (by decide +kernel) (pa_cons (pv 15) (pa_cons (pe_bltn (by rfl) T.z_ValueError (by decide +kernel) rfl) pa_nil)))))))) (pss_one (ps_ret pe_bl)) pss_nil)
  (pss_one (ps_if (pt_cmpR (op_neD hr.units) (pe_call F6 (hr.mono (by decide)) rfl T.g_l_classes k6 b6 h6 pass0 (pa_cons (pv 15) pa_nil)) (pe_lc (own := [("_law_at", 16)]) rfl sc_law.nd (pi_range1 (by rfl) T.z_range (pa_cons (pe_callB cb_len (by rfl) T.z_len (by decide +kernel) (pa_cons (pv 8) pa_nil)) pa_nil)) (blkOk_by (own := [("_law_at", 16)]) (N := ["_law_script", "_law_state", "_law_turn", "_law_ones", "_law_twos", "_law_named", "_law_bare", "_law_z", "_law_made", "_law_row", "_law_base", "_law_x", "_law_y", "_law_pairs", "_law_k", "_law_e", "_law_at", "_law_told", "_law_pair"]) (sc := defScope s_law) (by decide +kernel)) (fun _ _ _ _ _ => (pg_name (i := 16) sc_law.nd rfl (Or.inl rfl))) (fun _ _ _ _ _ => pts_nil) (fun _ _ _ _ _ => (pe_cmpR op_eq (pv 16) (pv 14) (nomark _)))) (nomark _)) (pss_one (ps_ret pe_bl)) pss_nil))))
  (pss_cons (ps_set (i := 10) sc_law.nd rfl (Or.inl rfl) (pe_err0 PySem.F.excBase_ValueError T.x0_SeenError T.gc_SeenError T.kc_SeenError rfl))
  (pss_one (ps_if (PW.pt (pw_or (pt_val (pe_callB (cr_any rfl) (by rfl) T.z_any (by decide +kernel) (pa_cons (pe_call F6 (hr.mono (by decide)) rfl T.g_l_classes k6 b6 h6 pass0 (pa_cons (pv 10) pa_nil)) pa_nil))) (pw_or1 (pt_not (pt_val (pe_callB call_isErr (by rfl) T.z_isinstance (by decide +kernel) (pa_cons (pv 10) (pa_cons (pe_bltn (by rfl) T.z_ValueError (by decide +kernel) rfl) pa_nil)))))))) (pss_one (ps_ret pe_bl)) pss_nil)))))))))))))))
  (pss_one (ps_ret pe_bl))))
end
end G
namespace G
open PySem L2 RZ NdefX
abbrev RR : PySem.W.OpenRow := PySem.W.OpenLaw.row PySem.Challenge.rw_seenmarks_k01_errors_made
def d_l_fresh : He.DefD := ⟨("_law_fresh", none), "_law_fresh", "_law_fresh", defArgs s_l_fresh, defBody s_l_fresh, defScope s_l_fresh, [], []⟩
def d_l_fill : He.DefD := ⟨("_law_fill", none), "_law_fill", "_law_fill", defArgs s_l_fill, defBody s_l_fill, defScope s_l_fill, [], []⟩
def d_l_take : He.DefD := ⟨("_law_take", none), "_law_take", "_law_take", defArgs s_l_take, defBody s_l_take, defScope s_l_take, [], []⟩
def d_l_one : He.DefD := ⟨("_law_one", none), "_law_one", "_law_one", defArgs s_l_one, defBody s_l_one, defScope s_l_one, [], []⟩
def d_l_same : He.DefD := ⟨("_law_same", none), "_law_same", "_law_same", defArgs s_l_same, defBody s_l_same, defScope s_l_same, [], []⟩
def d_l_any : He.DefD := ⟨("_law_any", none), "_law_any", "_law_any", defArgs s_l_any, defBody s_l_any, defScope s_l_any, [], []⟩
def d_l_with_one : He.DefD := ⟨("_law_with_one", none), "_law_with_one", "_law_with_one", defArgs s_l_with_one, defBody s_l_with_one, defScope s_l_with_one, [], []⟩
def d_l_by_place : He.DefD := ⟨("_law_by_place", none), "_law_by_place", "_law_by_place", defArgs s_l_by_place, defBody s_l_by_place, defScope s_l_by_place, [], []⟩
def d_l_held : He.DefD := ⟨("_law_held", none), "_law_held", "_law_held", defArgs s_l_held, defBody s_l_held, defScope s_l_held, [], []⟩
def d_l_classes : He.DefD := ⟨("_law_classes", none), "_law_classes", "_law_classes", defArgs s_l_classes, defBody s_l_classes, defScope s_l_classes, [], []⟩
def d_law : He.DefD := ⟨("law", none), "law", "law", defArgs s_law, defBody s_law, defScope s_law, [], []⟩
def fnL : List He.DefD := [d_l_fresh, d_l_fill, d_l_take, d_l_one, d_l_same, d_l_any, d_l_with_one, d_l_by_place, d_l_held, d_l_classes, d_law]
abbrev si_BadCatalog : Stmt := inClass (top 19) 0
def e_BadCatalog : DefS := ⟨"BadCatalog", "BadCatalog.__init__", defArgs si_BadCatalog, defBody si_BadCatalog, defScope si_BadCatalog⟩
abbrev si_BadCopies : Stmt := inClass (top 17) 0
def e_BadCopies : DefS := ⟨"BadCopies", "BadCopies.__init__", defArgs si_BadCopies, defBody si_BadCopies, defScope si_BadCopies⟩
abbrev si_BadCount : Stmt := inClass (top 8) 0
def e_BadCount : DefS := ⟨"BadCount", "BadCount.__init__", defArgs si_BadCount, defBody si_BadCount, defScope si_BadCount⟩
abbrev si_BadField : Stmt := inClass (top 2) 0
def e_BadField : DefS := ⟨"BadField", "BadField.__init__", defArgs si_BadField, defBody si_BadField, defScope si_BadField⟩
abbrev si_BadFlag : Stmt := inClass (top 14) 0
def e_BadFlag : DefS := ⟨"BadFlag", "BadFlag.__init__", defArgs si_BadFlag, defBody si_BadFlag, defScope si_BadFlag⟩
abbrev si_BadKind : Stmt := inClass (top 5) 0
def e_BadKind : DefS := ⟨"BadKind", "BadKind.__init__", defArgs si_BadKind, defBody si_BadKind, defScope si_BadKind⟩
abbrev si_BadResource : Stmt := inClass (top 7) 0
def e_BadResource : DefS := ⟨"BadResource", "BadResource.__init__", defArgs si_BadResource, defBody si_BadResource, defScope si_BadResource⟩
abbrev si_BadStep : Stmt := inClass (top 23) 0
def e_BadStep : DefS := ⟨"BadStep", "BadStep.__init__", defArgs si_BadStep, defBody si_BadStep, defScope si_BadStep⟩
abbrev si_BadTag : Stmt := inClass (top 9) 0
def e_BadTag : DefS := ⟨"BadTag", "BadTag.__init__", defArgs si_BadTag, defBody si_BadTag, defScope si_BadTag⟩
abbrev si_BadTemplate : Stmt := inClass (top 16) 0
def e_BadTemplate : DefS := ⟨"BadTemplate", "BadTemplate.__init__", defArgs si_BadTemplate, defBody si_BadTemplate, defScope si_BadTemplate⟩
abbrev si_BadText : Stmt := inClass (top 24) 0
def e_BadText : DefS := ⟨"BadText", "BadText.__init__", defArgs si_BadText, defBody si_BadText, defScope si_BadText⟩
abbrev si_BadValue : Stmt := inClass (top 10) 0
def e_BadValue : DefS := ⟨"BadValue", "BadValue.__init__", defArgs si_BadValue, defBody si_BadValue, defScope si_BadValue⟩
abbrev si_BadVariable : Stmt := inClass (top 21) 0
def e_BadVariable : DefS := ⟨"BadVariable", "BadVariable.__init__", defArgs si_BadVariable, defBody si_BadVariable, defScope si_BadVariable⟩
abbrev si_BadWord : Stmt := inClass (top 4) 0
def e_BadWord : DefS := ⟨"BadWord", "BadWord.__init__", defArgs si_BadWord, defBody si_BadWord, defScope si_BadWord⟩
abbrev si_NoWrite : Stmt := inClass (top 11) 0
def e_NoWrite : DefS := ⟨"NoWrite", "NoWrite.__init__", defArgs si_NoWrite, defBody si_NoWrite, defScope si_NoWrite⟩
abbrev si_Rejected : Stmt := inClass (top 12) 0
def e_Rejected : DefS := ⟨"Rejected", "Rejected.__init__", defArgs si_Rejected, defBody si_Rejected, defScope si_Rejected⟩
abbrev si_UnknownField : Stmt := inClass (top 3) 0
def e_UnknownField : DefS := ⟨"UnknownField", "UnknownField.__init__", defArgs si_UnknownField, defBody si_UnknownField, defScope si_UnknownField⟩
abbrev si_UnknownKind : Stmt := inClass (top 6) 0
def e_UnknownKind : DefS := ⟨"UnknownKind", "UnknownKind.__init__", defArgs si_UnknownKind, defBody si_UnknownKind, defScope si_UnknownKind⟩
abbrev si_UnknownTemplate : Stmt := inClass (top 20) 0
def e_UnknownTemplate : DefS := ⟨"UnknownTemplate", "UnknownTemplate.__init__", defArgs si_UnknownTemplate, defBody si_UnknownTemplate, defScope si_UnknownTemplate⟩
abbrev si_Unlabelled : Stmt := inClass (top 13) 0
def e_Unlabelled : DefS := ⟨"Unlabelled", "Unlabelled.__init__", defArgs si_Unlabelled, defBody si_Unlabelled, defScope si_Unlabelled⟩
def fsL : List DefS := [e_BadCatalog, e_BadCopies, e_BadCount, e_BadField, e_BadFlag, e_BadKind, e_BadResource, e_BadStep, e_BadTag, e_BadTemplate, e_BadText, e_BadValue, e_BadVariable, e_BadWord, e_NoWrite, e_Rejected, e_UnknownField, e_UnknownKind, e_UnknownTemplate, e_Unlabelled]
def fbL : List (PySem.W.Frag → Bool) := [gsB,
  fun K => (He.Fa.glo "BadCatalog").ok K,
  fun K => sfB RR.prog K "BadCatalog" "BadCatalog.__init__",
  fun K => clsB K (He.ga K "BadCatalog"),
  fun K => oexB K (He.ga K "BadCatalog"),
  fun K => oexB2 K (He.ga K "BadCatalog"),
  fun K => excB K (He.ga K "BadCatalog"),
  fun K => (He.Fa.meth "BadCatalog" "__init__").ok K,
  fun K => (He.Fa.noat "BadCatalog" "index").ok K,
  fun K => (He.Fa.noat "BadCatalog" "reason").ok K,
  fun K => (He.Fa.glo "BadCopies").ok K,
  fun K => sfB RR.prog K "BadCopies" "BadCopies.__init__",
  fun K => clsB K (He.ga K "BadCopies"),
  fun K => oexB K (He.ga K "BadCopies"),
  fun K => oexB2 K (He.ga K "BadCopies"),
  fun K => excB K (He.ga K "BadCopies"),
  fun K => (He.Fa.meth "BadCopies" "__init__").ok K,
  fun K => (He.Fa.noat "BadCopies" "index").ok K,
  fun K => (He.Fa.glo "BadCount").ok K,
  fun K => sfB RR.prog K "BadCount" "BadCount.__init__",
  fun K => clsB K (He.ga K "BadCount"),
  fun K => oexB K (He.ga K "BadCount"),
  fun K => oexB2 K (He.ga K "BadCount"),
  fun K => excB K (He.ga K "BadCount"),
  fun K => (He.Fa.meth "BadCount" "__init__").ok K,
  fun K => (He.Fa.noat "BadCount" "count").ok K,
  fun K => (He.Fa.glo "BadField").ok K,
  fun K => sfB RR.prog K "BadField" "BadField.__init__",
  fun K => clsB K (He.ga K "BadField"),
  fun K => oexB K (He.ga K "BadField"),
  fun K => oexB2 K (He.ga K "BadField"),
  fun K => excB K (He.ga K "BadField"),
  fun K => (He.Fa.meth "BadField" "__init__").ok K,
  fun K => (He.Fa.noat "BadField" "index").ok K,
  fun K => (He.Fa.glo "BadFlag").ok K,
  fun K => sfB RR.prog K "BadFlag" "BadFlag.__init__",
  fun K => clsB K (He.ga K "BadFlag"),
  fun K => oexB K (He.ga K "BadFlag"),
  fun K => oexB2 K (He.ga K "BadFlag"),
  fun K => excB K (He.ga K "BadFlag"),
  fun K => (He.Fa.meth "BadFlag" "__init__").ok K,
  fun K => (He.Fa.noat "BadFlag" "flag").ok K,
  fun K => (He.Fa.glo "BadKind").ok K,
  fun K => sfB RR.prog K "BadKind" "BadKind.__init__",
  fun K => clsB K (He.ga K "BadKind"),
  fun K => oexB K (He.ga K "BadKind"),
  fun K => oexB2 K (He.ga K "BadKind"),
  fun K => excB K (He.ga K "BadKind"),
  fun K => (He.Fa.meth "BadKind" "__init__").ok K,
  fun K => (He.Fa.noat "BadKind" "index").ok K,
  fun K => (He.Fa.glo "BadResource").ok K,
  fun K => sfB RR.prog K "BadResource" "BadResource.__init__",
  fun K => clsB K (He.ga K "BadResource"),
  fun K => oexB K (He.ga K "BadResource"),
  fun K => oexB2 K (He.ga K "BadResource"),
  fun K => excB K (He.ga K "BadResource"),
  fun K => (He.Fa.meth "BadResource" "__init__").ok K,
  fun K => (He.Fa.noat "BadResource" "resource").ok K,
  fun K => (He.Fa.glo "BadStep").ok K,
  fun K => sfB RR.prog K "BadStep" "BadStep.__init__",
  fun K => clsB K (He.ga K "BadStep"),
  fun K => oexB K (He.ga K "BadStep"),
  fun K => oexB2 K (He.ga K "BadStep"),
  fun K => excB K (He.ga K "BadStep"),
  fun K => (He.Fa.meth "BadStep" "__init__").ok K,
  fun K => (He.Fa.noat "BadStep" "index").ok K,
  fun K => (He.Fa.glo "BadTag").ok K,
  fun K => sfB RR.prog K "BadTag" "BadTag.__init__",
  fun K => clsB K (He.ga K "BadTag"),
  fun K => oexB K (He.ga K "BadTag"),
  fun K => oexB2 K (He.ga K "BadTag"),
  fun K => excB K (He.ga K "BadTag"),
  fun K => (He.Fa.meth "BadTag" "__init__").ok K,
  fun K => (He.Fa.noat "BadTag" "thing").ok K,
  fun K => (He.Fa.glo "BadTemplate").ok K,
  fun K => sfB RR.prog K "BadTemplate" "BadTemplate.__init__",
  fun K => clsB K (He.ga K "BadTemplate"),
  fun K => oexB K (He.ga K "BadTemplate"),
  fun K => oexB2 K (He.ga K "BadTemplate"),
  fun K => excB K (He.ga K "BadTemplate"),
  fun K => (He.Fa.meth "BadTemplate" "__init__").ok K,
  fun K => (He.Fa.noat "BadTemplate" "index").ok K,
  fun K => (He.Fa.noat "BadTemplate" "reason").ok K,
  fun K => (He.Fa.glo "BadText").ok K,
  fun K => sfB RR.prog K "BadText" "BadText.__init__",
  fun K => clsB K (He.ga K "BadText"),
  fun K => oexB K (He.ga K "BadText"),
  fun K => oexB2 K (He.ga K "BadText"),
  fun K => excB K (He.ga K "BadText"),
  fun K => (He.Fa.meth "BadText" "__init__").ok K,
  fun K => (He.Fa.noat "BadText" "line").ok K,
  fun K => (He.Fa.glo "BadValue").ok K,
  fun K => sfB RR.prog K "BadValue" "BadValue.__init__",
  fun K => clsB K (He.ga K "BadValue"),
  fun K => oexB K (He.ga K "BadValue"),
  fun K => oexB2 K (He.ga K "BadValue"),
  fun K => excB K (He.ga K "BadValue"),
  fun K => (He.Fa.meth "BadValue" "__init__").ok K,
  fun K => (He.Fa.noat "BadValue" "value").ok K,
  fun K => (He.Fa.glo "BadVariable").ok K,
  fun K => sfB RR.prog K "BadVariable" "BadVariable.__init__",
  fun K => clsB K (He.ga K "BadVariable"),
  fun K => oexB K (He.ga K "BadVariable"),
  fun K => oexB2 K (He.ga K "BadVariable"),
  fun K => excB K (He.ga K "BadVariable"),
  fun K => (He.Fa.meth "BadVariable" "__init__").ok K,
  fun K => (He.Fa.noat "BadVariable" "variable").ok K,
  fun K => (He.Fa.glo "BadWord").ok K,
  fun K => sfB RR.prog K "BadWord" "BadWord.__init__",
  fun K => clsB K (He.ga K "BadWord"),
  fun K => oexB K (He.ga K "BadWord"),
  fun K => oexB2 K (He.ga K "BadWord"),
  fun K => excB K (He.ga K "BadWord"),
  fun K => (He.Fa.meth "BadWord" "__init__").ok K,
  fun K => (He.Fa.noat "BadWord" "word").ok K,
  fun K => (He.Fa.glo "NoWrite").ok K,
  fun K => sfB RR.prog K "NoWrite" "NoWrite.__init__",
  fun K => clsB K (He.ga K "NoWrite"),
  fun K => oexB K (He.ga K "NoWrite"),
  fun K => oexB2 K (He.ga K "NoWrite"),
  fun K => excB K (He.ga K "NoWrite"),
  fun K => (He.Fa.meth "NoWrite" "__init__").ok K,
  fun K => (He.Fa.noat "NoWrite" "resource").ok K,
  fun K => (He.Fa.noat "NoWrite" "field").ok K,
  fun K => (He.Fa.glo "Rejected").ok K,
  fun K => sfB RR.prog K "Rejected" "Rejected.__init__",
  fun K => clsB K (He.ga K "Rejected"),
  fun K => oexB K (He.ga K "Rejected"),
  fun K => oexB2 K (He.ga K "Rejected"),
  fun K => excB K (He.ga K "Rejected"),
  fun K => (He.Fa.meth "Rejected" "__init__").ok K,
  fun K => (He.Fa.noat "Rejected" "number").ok K,
  fun K => (He.Fa.noat "Rejected" "stale").ok K,
  fun K => (He.Fa.glo "UnknownField").ok K,
  fun K => sfB RR.prog K "UnknownField" "UnknownField.__init__",
  fun K => clsB K (He.ga K "UnknownField"),
  fun K => oexB K (He.ga K "UnknownField"),
  fun K => oexB2 K (He.ga K "UnknownField"),
  fun K => excB K (He.ga K "UnknownField"),
  fun K => (He.Fa.meth "UnknownField" "__init__").ok K,
  fun K => (He.Fa.noat "UnknownField" "field").ok K,
  fun K => (He.Fa.glo "UnknownKind").ok K,
  fun K => sfB RR.prog K "UnknownKind" "UnknownKind.__init__",
  fun K => clsB K (He.ga K "UnknownKind"),
  fun K => oexB K (He.ga K "UnknownKind"),
  fun K => oexB2 K (He.ga K "UnknownKind"),
  fun K => excB K (He.ga K "UnknownKind"),
  fun K => (He.Fa.meth "UnknownKind" "__init__").ok K,
  fun K => (He.Fa.noat "UnknownKind" "name").ok K,
  fun K => (He.Fa.glo "UnknownTemplate").ok K,
  fun K => sfB RR.prog K "UnknownTemplate" "UnknownTemplate.__init__",
  fun K => clsB K (He.ga K "UnknownTemplate"),
  fun K => oexB K (He.ga K "UnknownTemplate"),
  fun K => oexB2 K (He.ga K "UnknownTemplate"),
  fun K => excB K (He.ga K "UnknownTemplate"),
  fun K => (He.Fa.meth "UnknownTemplate" "__init__").ok K,
  fun K => (He.Fa.noat "UnknownTemplate" "name").ok K,
  fun K => (He.Fa.glo "Unlabelled").ok K,
  fun K => sfB RR.prog K "Unlabelled" "Unlabelled.__init__",
  fun K => clsB K (He.ga K "Unlabelled"),
  fun K => oexB K (He.ga K "Unlabelled"),
  fun K => oexB2 K (He.ga K "Unlabelled"),
  fun K => excB K (He.ga K "Unlabelled"),
  fun K => (He.Fa.meth "Unlabelled" "__init__").ok K,
  fun K => (He.Fa.noat "Unlabelled" "number").ok K,
  fun K => (He.Fa.glo "BadCover").ok K,
  fun K => (He.Fa.exc "BadCover").ok K,
  fun K => (He.Fa.glo "BadValues").ok K,
  fun K => (He.Fa.exc "BadValues").ok K,
  fun K => (He.Fa.glo "Offline").ok K,
  fun K => (He.Fa.exc "Offline").ok K,
  fun K => (He.Fa.glo "SeenError").ok K,
  fun K => (He.Fa.exc "SeenError").ok K,
  fun K => (He.Fa.free "ValueError").ok K,
  fun K => (He.Fa.free "all").ok K,
  fun K => (He.Fa.free "any").ok K,
  fun K => (He.Fa.free "bool").ok K,
  fun K => (He.Fa.free "enumerate").ok K,
  fun K => (He.Fa.free "int").ok K,
  fun K => (He.Fa.free "isinstance").ok K,
  fun K => (He.Fa.free "len").ok K,
  fun K => (He.Fa.free "list").ok K,
  fun K => (He.Fa.free "range").ok K,
  fun K => (He.Fa.free "tuple").ok K,
  fun K => (He.Fa.free "zip").ok K,
  fun K => (He.Fa.glo "_law_any").ok K,
  fun K => (He.Fa.glo "_law_by_place").ok K,
  fun K => (He.Fa.glo "_law_classes").ok K,
  fun K => (He.Fa.glo "_law_fill").ok K,
  fun K => (He.Fa.glo "_law_fresh").ok K,
  fun K => (He.Fa.glo "_law_held").ok K,
  fun K => (He.Fa.glo "_law_one").ok K,
  fun K => (He.Fa.glo "_law_same").ok K,
  fun K => (He.Fa.glo "_law_take").ok K,
  fun K => (He.Fa.glo "_law_with_one").ok K,
  fun K => (He.Fa.glo "law").ok K,
  fun K => all24.all fun c => excB K (He.ga K c),
  fun K => (ones ++ twos8).all fun p => He.eqO (PySem.W.findIn K (.ref (He.ga K p.1)) p.2) (some none),
  fun K => all24.all fun c => all23.all fun c' => decide (PySem.W.kitOne K (.ref (He.ga K c)) (.ref (He.ga K c')) = some (decide (c = c'))),
  fun K => all24.all fun c => decide (PySem.W.kitOne K (.ref (He.ga K c)) (.ref (He.ga K "SeenError")) = some true),
  fun K => all24.all fun c => decide (PySem.W.kitOne K (.ref (He.ga K c)) (.type "ValueError") = some true)]
def names0 : List PySem.Str := [("__name__" : PySem.Str), ("SeenError" : PySem.Str), ("BadField" : PySem.Str), ("UnknownField" : PySem.Str), ("BadWord" : PySem.Str), ("BadKind" : PySem.Str), ("UnknownKind" : PySem.Str), ("BadResource" : PySem.Str), ("BadCount" : PySem.Str), ("BadTag" : PySem.Str), ("BadValue" : PySem.Str), ("NoWrite" : PySem.Str), ("Rejected" : PySem.Str), ("Unlabelled" : PySem.Str), ("BadFlag" : PySem.Str), ("Offline" : PySem.Str), ("BadTemplate" : PySem.Str), ("BadCopies" : PySem.Str), ("BadValues" : PySem.Str), ("BadCatalog" : PySem.Str)]
def names1 : List PySem.Str := [("UnknownTemplate" : PySem.Str), ("BadVariable" : PySem.Str), ("BadCover" : PySem.Str), ("BadStep" : PySem.Str), ("BadText" : PySem.Str), ("_law_fresh" : PySem.Str), ("_law_fill" : PySem.Str), ("_law_take" : PySem.Str), ("_law_one" : PySem.Str), ("_law_same" : PySem.Str), ("_law_any" : PySem.Str), ("_law_with_one" : PySem.Str), ("_law_by_place" : PySem.Str), ("_law_held" : PySem.Str), ("_law_classes" : PySem.Str)]
abbrev names : List PySem.Str := names0 ++ names1
abbrev hk : PySem.W.Hook := hookE 6 fbL fnL fsL
def ob (s : PySem.W.SharedT) : AlE := obsEG 6 fbL fnL fsL (HandSHeadRun.getT s)
theorem ob_eq (s : PySem.W.SharedT) : ob s = hk.obs s.abs := obsEG_eq (HandSHeadRun.getT_eq s)
theorem run (w : World) : HandSHeadRun.RunEq RR (PySem.W.view RR.prog [36]) hk ob 13000 names w := by
  intro os
  kernel_rfl
section
variable {w : World} {K : PySem.W.Frag} {h : Heap} {mg : Str → Option Value} {base : Heap}
theorem er_BadCatalog (X : K.In h) (G : h.Ns mainGlobals mg) (c : SaysE fbL fnL fsL K) : Err RR.prog w K mg base "BadCatalog" (He.ga K "BadCatalog") ["index", "reason"] := by
  obtain ⟨fd, F⟩ := sfun_of (P := RR.prog) (d := e_BadCatalog) (c.sup 0 (by rfl)) (c.fact 2 (by rfl)) (c.fact 3 (by rfl)) (c.fact 0 (by rfl)) (He.meth_ok (x := "BadCatalog") (m := "__init__") (c.fact 7 (by rfl))).kp (c.fact 4 (by rfl)) (by kernel_rfl)
  have T := oexB_ok (C := He.ga K "BadCatalog") (c.fact 4 (by rfl)) (c.fact 5 (by rfl))
  have M := He.meth_ok (x := "BadCatalog") (m := "__init__") (c.fact 7 (by rfl))
  have n_index := He.noat_ok (x := "BadCatalog") (f := "index") (c.fact 8 (by rfl))
  have n_reason := He.noat_ok (x := "BadCatalog") (f := "reason") (c.fact 9 (by rfl))
  refine ⟨T, ⟨ini K "BadCatalog", fd, M.at_, beq_iff_eq.mp M.fn, ?_, F.kb (fun _ _ _ _ _ _ _ us ws h1 h2 => match us, h1, ws, h2 with | [_, _, _], _, [], _ => rfl) (fun a _ => a), F.kb (fun _ _ _ _ _ _ _ us ws h1 h2 => match us, h1, ws, h2 with | [_], _, [_, _], _ => rfl) (fun a b => a.append (vals_rev b))⟩, He.glo_ok X G (c.fact 1 (by rfl)), (excB_ok (c.fact 6 (by rfl)) (c.fact 0 (by rfl))).1, fun f hf => ?_⟩
  · exact err_mk2 F T n_index n_reason ⟨_, rfl, rfl⟩ ⟨_, _, _, _, _, _, _, _, _, _, _, _, _, _, _, rfl, rfl⟩ (nscope_by (by decide +kernel)) (by decide +kernel) (by decide) (by decide) (by decide) (by decide)
  · simp only [List.mem_cons, List.not_mem_nil, or_false] at hf
    rcases hf with rfl | rfl
    · exact n_index
    · exact n_reason
theorem er_BadCopies (X : K.In h) (G : h.Ns mainGlobals mg) (c : SaysE fbL fnL fsL K) : Err RR.prog w K mg base "BadCopies" (He.ga K "BadCopies") ["index"] := by
  obtain ⟨fd, F⟩ := sfun_of (P := RR.prog) (d := e_BadCopies) (c.sup 1 (by rfl)) (c.fact 11 (by rfl)) (c.fact 12 (by rfl)) (c.fact 0 (by rfl)) (He.meth_ok (x := "BadCopies") (m := "__init__") (c.fact 16 (by rfl))).kp (c.fact 13 (by rfl)) (by kernel_rfl)
  have T := oexB_ok (C := He.ga K "BadCopies") (c.fact 13 (by rfl)) (c.fact 14 (by rfl))
  have M := He.meth_ok (x := "BadCopies") (m := "__init__") (c.fact 16 (by rfl))
  have n_index := He.noat_ok (x := "BadCopies") (f := "index") (c.fact 17 (by rfl))
  refine ⟨T, ⟨ini K "BadCopies", fd, M.at_, beq_iff_eq.mp M.fn, ?_, F.kb (fun _ _ _ _ _ _ _ us ws h1 h2 => match us, h1, ws, h2 with | [_, _], _, [], _ => rfl) (fun a _ => a), F.kb (fun _ _ _ _ _ _ _ us ws h1 h2 => match us, h1, ws, h2 with | [_], _, [_], _ => rfl) (fun a b => a.append (vals_rev b))⟩, He.glo_ok X G (c.fact 10 (by rfl)), (excB_ok (c.fact 15 (by rfl)) (c.fact 0 (by rfl))).1, fun f hf => ?_⟩
  · exact err_mk1 F T n_index ⟨_, rfl, rfl⟩ ⟨_, _, _, _, _, _, _, _, _, _, rfl, rfl⟩ (nscope_by (by decide +kernel)) (by decide +kernel) (by decide) (by decide)
  · simp only [List.mem_cons, List.not_mem_nil, or_false] at hf
    subst hf
    exact n_index
theorem er_BadCount (X : K.In h) (G : h.Ns mainGlobals mg) (c : SaysE fbL fnL fsL K) : Err RR.prog w K mg base "BadCount" (He.ga K "BadCount") ["count"] := by
  obtain ⟨fd, F⟩ := sfun_of (P := RR.prog) (d := e_BadCount) (c.sup 2 (by rfl)) (c.fact 19 (by rfl)) (c.fact 20 (by rfl)) (c.fact 0 (by rfl)) (He.meth_ok (x := "BadCount") (m := "__init__") (c.fact 24 (by rfl))).kp (c.fact 21 (by rfl)) (by kernel_rfl)
  have T := oexB_ok (C := He.ga K "BadCount") (c.fact 21 (by rfl)) (c.fact 22 (by rfl))
  have M := He.meth_ok (x := "BadCount") (m := "__init__") (c.fact 24 (by rfl))
  have n_count := He.noat_ok (x := "BadCount") (f := "count") (c.fact 25 (by rfl))
  refine ⟨T, ⟨ini K "BadCount", fd, M.at_, beq_iff_eq.mp M.fn, ?_, F.kb (fun _ _ _ _ _ _ _ us ws h1 h2 => match us, h1, ws, h2 with | [_, _], _, [], _ => rfl) (fun a _ => a), F.kb (fun _ _ _ _ _ _ _ us ws h1 h2 => match us, h1, ws, h2 with | [_], _, [_], _ => rfl) (fun a b => a.append (vals_rev b))⟩, He.glo_ok X G (c.fact 18 (by rfl)), (excB_ok (c.fact 23 (by rfl)) (c.fact 0 (by rfl))).1, fun f hf => ?_⟩
  · exact err_mk1 F T n_count ⟨_, rfl, rfl⟩ ⟨_, _, _, _, _, _, _, _, _, _, rfl, rfl⟩ (nscope_by (by decide +kernel)) (by decide +kernel) (by decide) (by decide)
  · simp only [List.mem_cons, List.not_mem_nil, or_false] at hf
    subst hf
    exact n_count
theorem er_BadField (X : K.In h) (G : h.Ns mainGlobals mg) (c : SaysE fbL fnL fsL K) : Err RR.prog w K mg base "BadField" (He.ga K "BadField") ["index"] := by
  obtain ⟨fd, F⟩ := sfun_of (P := RR.prog) (d := e_BadField) (c.sup 3 (by rfl)) (c.fact 27 (by rfl)) (c.fact 28 (by rfl)) (c.fact 0 (by rfl)) (He.meth_ok (x := "BadField") (m := "__init__") (c.fact 32 (by rfl))).kp (c.fact 29 (by rfl)) (by kernel_rfl)
  have T := oexB_ok (C := He.ga K "BadField") (c.fact 29 (by rfl)) (c.fact 30 (by rfl))
  have M := He.meth_ok (x := "BadField") (m := "__init__") (c.fact 32 (by rfl))
  have n_index := He.noat_ok (x := "BadField") (f := "index") (c.fact 33 (by rfl))
  refine ⟨T, ⟨ini K "BadField", fd, M.at_, beq_iff_eq.mp M.fn, ?_, F.kb (fun _ _ _ _ _ _ _ us ws h1 h2 => match us, h1, ws, h2 with | [_, _], _, [], _ => rfl) (fun a _ => a), F.kb (fun _ _ _ _ _ _ _ us ws h1 h2 => match us, h1, ws, h2 with | [_], _, [_], _ => rfl) (fun a b => a.append (vals_rev b))⟩, He.glo_ok X G (c.fact 26 (by rfl)), (excB_ok (c.fact 31 (by rfl)) (c.fact 0 (by rfl))).1, fun f hf => ?_⟩
  · exact err_mk1 F T n_index ⟨_, rfl, rfl⟩ ⟨_, _, _, _, _, _, _, _, _, _, rfl, rfl⟩ (nscope_by (by decide +kernel)) (by decide +kernel) (by decide) (by decide)
  · simp only [List.mem_cons, List.not_mem_nil, or_false] at hf
    subst hf
    exact n_index
theorem er_BadFlag (X : K.In h) (G : h.Ns mainGlobals mg) (c : SaysE fbL fnL fsL K) : Err RR.prog w K mg base "BadFlag" (He.ga K "BadFlag") ["flag"] := by
  obtain ⟨fd, F⟩ := sfun_of (P := RR.prog) (d := e_BadFlag) (c.sup 4 (by rfl)) (c.fact 35 (by rfl)) (c.fact 36 (by rfl)) (c.fact 0 (by rfl)) (He.meth_ok (x := "BadFlag") (m := "__init__") (c.fact 40 (by rfl))).kp (c.fact 37 (by rfl)) (by kernel_rfl)
  have T := oexB_ok (C := He.ga K "BadFlag") (c.fact 37 (by rfl)) (c.fact 38 (by rfl))
  have M := He.meth_ok (x := "BadFlag") (m := "__init__") (c.fact 40 (by rfl))
  have n_flag := He.noat_ok (x := "BadFlag") (f := "flag") (c.fact 41 (by rfl))
  refine ⟨T, ⟨ini K "BadFlag", fd, M.at_, beq_iff_eq.mp M.fn, ?_, F.kb (fun _ _ _ _ _ _ _ us ws h1 h2 => match us, h1, ws, h2 with | [_, _], _, [], _ => rfl) (fun a _ => a), F.kb (fun _ _ _ _ _ _ _ us ws h1 h2 => match us, h1, ws, h2 with | [_], _, [_], _ => rfl) (fun a b => a.append (vals_rev b))⟩, He.glo_ok X G (c.fact 34 (by rfl)), (excB_ok (c.fact 39 (by rfl)) (c.fact 0 (by rfl))).1, fun f hf => ?_⟩
  · exact err_mk1 F T n_flag ⟨_, rfl, rfl⟩ ⟨_, _, _, _, _, _, _, _, _, _, rfl, rfl⟩ (nscope_by (by decide +kernel)) (by decide +kernel) (by decide) (by decide)
  · simp only [List.mem_cons, List.not_mem_nil, or_false] at hf
    subst hf
    exact n_flag
theorem er_BadKind (X : K.In h) (G : h.Ns mainGlobals mg) (c : SaysE fbL fnL fsL K) : Err RR.prog w K mg base "BadKind" (He.ga K "BadKind") ["index"] := by
  obtain ⟨fd, F⟩ := sfun_of (P := RR.prog) (d := e_BadKind) (c.sup 5 (by rfl)) (c.fact 43 (by rfl)) (c.fact 44 (by rfl)) (c.fact 0 (by rfl)) (He.meth_ok (x := "BadKind") (m := "__init__") (c.fact 48 (by rfl))).kp (c.fact 45 (by rfl)) (by kernel_rfl)
  have T := oexB_ok (C := He.ga K "BadKind") (c.fact 45 (by rfl)) (c.fact 46 (by rfl))
  have M := He.meth_ok (x := "BadKind") (m := "__init__") (c.fact 48 (by rfl))
  have n_index := He.noat_ok (x := "BadKind") (f := "index") (c.fact 49 (by rfl))
  refine ⟨T, ⟨ini K "BadKind", fd, M.at_, beq_iff_eq.mp M.fn, ?_, F.kb (fun _ _ _ _ _ _ _ us ws h1 h2 => match us, h1, ws, h2 with | [_, _], _, [], _ => rfl) (fun a _ => a), F.kb (fun _ _ _ _ _ _ _ us ws h1 h2 => match us, h1, ws, h2 with | [_], _, [_], _ => rfl) (fun a b => a.append (vals_rev b))⟩, He.glo_ok X G (c.fact 42 (by rfl)), (excB_ok (c.fact 47 (by rfl)) (c.fact 0 (by rfl))).1, fun f hf => ?_⟩
  · exact err_mk1 F T n_index ⟨_, rfl, rfl⟩ ⟨_, _, _, _, _, _, _, _, _, _, rfl, rfl⟩ (nscope_by (by decide +kernel)) (by decide +kernel) (by decide) (by decide)
  · simp only [List.mem_cons, List.not_mem_nil, or_false] at hf
    subst hf
    exact n_index
theorem er_BadResource (X : K.In h) (G : h.Ns mainGlobals mg) (c : SaysE fbL fnL fsL K) : Err RR.prog w K mg base "BadResource" (He.ga K "BadResource") ["resource"] := by
  obtain ⟨fd, F⟩ := sfun_of (P := RR.prog) (d := e_BadResource) (c.sup 6 (by rfl)) (c.fact 51 (by rfl)) (c.fact 52 (by rfl)) (c.fact 0 (by rfl)) (He.meth_ok (x := "BadResource") (m := "__init__") (c.fact 56 (by rfl))).kp (c.fact 53 (by rfl)) (by kernel_rfl)
  have T := oexB_ok (C := He.ga K "BadResource") (c.fact 53 (by rfl)) (c.fact 54 (by rfl))
  have M := He.meth_ok (x := "BadResource") (m := "__init__") (c.fact 56 (by rfl))
  have n_resource := He.noat_ok (x := "BadResource") (f := "resource") (c.fact 57 (by rfl))
  refine ⟨T, ⟨ini K "BadResource", fd, M.at_, beq_iff_eq.mp M.fn, ?_, F.kb (fun _ _ _ _ _ _ _ us ws h1 h2 => match us, h1, ws, h2 with | [_, _], _, [], _ => rfl) (fun a _ => a), F.kb (fun _ _ _ _ _ _ _ us ws h1 h2 => match us, h1, ws, h2 with | [_], _, [_], _ => rfl) (fun a b => a.append (vals_rev b))⟩, He.glo_ok X G (c.fact 50 (by rfl)), (excB_ok (c.fact 55 (by rfl)) (c.fact 0 (by rfl))).1, fun f hf => ?_⟩
  · exact err_mk1 F T n_resource ⟨_, rfl, rfl⟩ ⟨_, _, _, _, _, _, _, _, _, _, rfl, rfl⟩ (nscope_by (by decide +kernel)) (by decide +kernel) (by decide) (by decide)
  · simp only [List.mem_cons, List.not_mem_nil, or_false] at hf
    subst hf
    exact n_resource
theorem er_BadStep (X : K.In h) (G : h.Ns mainGlobals mg) (c : SaysE fbL fnL fsL K) : Err RR.prog w K mg base "BadStep" (He.ga K "BadStep") ["index"] := by
  obtain ⟨fd, F⟩ := sfun_of (P := RR.prog) (d := e_BadStep) (c.sup 7 (by rfl)) (c.fact 59 (by rfl)) (c.fact 60 (by rfl)) (c.fact 0 (by rfl)) (He.meth_ok (x := "BadStep") (m := "__init__") (c.fact 64 (by rfl))).kp (c.fact 61 (by rfl)) (by kernel_rfl)
  have T := oexB_ok (C := He.ga K "BadStep") (c.fact 61 (by rfl)) (c.fact 62 (by rfl))
  have M := He.meth_ok (x := "BadStep") (m := "__init__") (c.fact 64 (by rfl))
  have n_index := He.noat_ok (x := "BadStep") (f := "index") (c.fact 65 (by rfl))
  refine ⟨T, ⟨ini K "BadStep", fd, M.at_, beq_iff_eq.mp M.fn, ?_, F.kb (fun _ _ _ _ _ _ _ us ws h1 h2 => match us, h1, ws, h2 with | [_, _], _, [], _ => rfl) (fun a _ => a), F.kb (fun _ _ _ _ _ _ _ us ws h1 h2 => match us, h1, ws, h2 with | [_], _, [_], _ => rfl) (fun a b => a.append (vals_rev b))⟩, He.glo_ok X G (c.fact 58 (by rfl)), (excB_ok (c.fact 63 (by rfl)) (c.fact 0 (by rfl))).1, fun f hf => ?_⟩
  · exact err_mk1 F T n_index ⟨_, rfl, rfl⟩ ⟨_, _, _, _, _, _, _, _, _, _, rfl, rfl⟩ (nscope_by (by decide +kernel)) (by decide +kernel) (by decide) (by decide)
  · simp only [List.mem_cons, List.not_mem_nil, or_false] at hf
    subst hf
    exact n_index
theorem er_BadTag (X : K.In h) (G : h.Ns mainGlobals mg) (c : SaysE fbL fnL fsL K) : Err RR.prog w K mg base "BadTag" (He.ga K "BadTag") ["thing"] := by
  obtain ⟨fd, F⟩ := sfun_of (P := RR.prog) (d := e_BadTag) (c.sup 8 (by rfl)) (c.fact 67 (by rfl)) (c.fact 68 (by rfl)) (c.fact 0 (by rfl)) (He.meth_ok (x := "BadTag") (m := "__init__") (c.fact 72 (by rfl))).kp (c.fact 69 (by rfl)) (by kernel_rfl)
  have T := oexB_ok (C := He.ga K "BadTag") (c.fact 69 (by rfl)) (c.fact 70 (by rfl))
  have M := He.meth_ok (x := "BadTag") (m := "__init__") (c.fact 72 (by rfl))
  have n_thing := He.noat_ok (x := "BadTag") (f := "thing") (c.fact 73 (by rfl))
  refine ⟨T, ⟨ini K "BadTag", fd, M.at_, beq_iff_eq.mp M.fn, ?_, F.kb (fun _ _ _ _ _ _ _ us ws h1 h2 => match us, h1, ws, h2 with | [_, _], _, [], _ => rfl) (fun a _ => a), F.kb (fun _ _ _ _ _ _ _ us ws h1 h2 => match us, h1, ws, h2 with | [_], _, [_], _ => rfl) (fun a b => a.append (vals_rev b))⟩, He.glo_ok X G (c.fact 66 (by rfl)), (excB_ok (c.fact 71 (by rfl)) (c.fact 0 (by rfl))).1, fun f hf => ?_⟩
  · exact err_mk1 F T n_thing ⟨_, rfl, rfl⟩ ⟨_, _, _, _, _, _, _, _, _, _, rfl, rfl⟩ (nscope_by (by decide +kernel)) (by decide +kernel) (by decide) (by decide)
  · simp only [List.mem_cons, List.not_mem_nil, or_false] at hf
    subst hf
    exact n_thing
theorem er_BadTemplate (X : K.In h) (G : h.Ns mainGlobals mg) (c : SaysE fbL fnL fsL K) : Err RR.prog w K mg base "BadTemplate" (He.ga K "BadTemplate") ["index", "reason"] := by
  obtain ⟨fd, F⟩ := sfun_of (P := RR.prog) (d := e_BadTemplate) (c.sup 9 (by rfl)) (c.fact 75 (by rfl)) (c.fact 76 (by rfl)) (c.fact 0 (by rfl)) (He.meth_ok (x := "BadTemplate") (m := "__init__") (c.fact 80 (by rfl))).kp (c.fact 77 (by rfl)) (by kernel_rfl)
  have T := oexB_ok (C := He.ga K "BadTemplate") (c.fact 77 (by rfl)) (c.fact 78 (by rfl))
  have M := He.meth_ok (x := "BadTemplate") (m := "__init__") (c.fact 80 (by rfl))
  have n_index := He.noat_ok (x := "BadTemplate") (f := "index") (c.fact 81 (by rfl))
  have n_reason := He.noat_ok (x := "BadTemplate") (f := "reason") (c.fact 82 (by rfl))
  refine ⟨T, ⟨ini K "BadTemplate", fd, M.at_, beq_iff_eq.mp M.fn, ?_, F.kb (fun _ _ _ _ _ _ _ us ws h1 h2 => match us, h1, ws, h2 with | [_, _, _], _, [], _ => rfl) (fun a _ => a), F.kb (fun _ _ _ _ _ _ _ us ws h1 h2 => match us, h1, ws, h2 with | [_], _, [_, _], _ => rfl) (fun a b => a.append (vals_rev b))⟩, He.glo_ok X G (c.fact 74 (by rfl)), (excB_ok (c.fact 79 (by rfl)) (c.fact 0 (by rfl))).1, fun f hf => ?_⟩
  · exact err_mk2 F T n_index n_reason ⟨_, rfl, rfl⟩ ⟨_, _, _, _, _, _, _, _, _, _, _, _, _, _, _, rfl, rfl⟩ (nscope_by (by decide +kernel)) (by decide +kernel) (by decide) (by decide) (by decide) (by decide)
  · simp only [List.mem_cons, List.not_mem_nil, or_false] at hf
    rcases hf with rfl | rfl
    · exact n_index
    · exact n_reason
theorem er_BadText (X : K.In h) (G : h.Ns mainGlobals mg) (c : SaysE fbL fnL fsL K) : Err RR.prog w K mg base "BadText" (He.ga K "BadText") ["line"] := by
  obtain ⟨fd, F⟩ := sfun_of (P := RR.prog) (d := e_BadText) (c.sup 10 (by rfl)) (c.fact 84 (by rfl)) (c.fact 85 (by rfl)) (c.fact 0 (by rfl)) (He.meth_ok (x := "BadText") (m := "__init__") (c.fact 89 (by rfl))).kp (c.fact 86 (by rfl)) (by kernel_rfl)
  have T := oexB_ok (C := He.ga K "BadText") (c.fact 86 (by rfl)) (c.fact 87 (by rfl))
  have M := He.meth_ok (x := "BadText") (m := "__init__") (c.fact 89 (by rfl))
  have n_line := He.noat_ok (x := "BadText") (f := "line") (c.fact 90 (by rfl))
  refine ⟨T, ⟨ini K "BadText", fd, M.at_, beq_iff_eq.mp M.fn, ?_, F.kb (fun _ _ _ _ _ _ _ us ws h1 h2 => match us, h1, ws, h2 with | [_, _], _, [], _ => rfl) (fun a _ => a), F.kb (fun _ _ _ _ _ _ _ us ws h1 h2 => match us, h1, ws, h2 with | [_], _, [_], _ => rfl) (fun a b => a.append (vals_rev b))⟩, He.glo_ok X G (c.fact 83 (by rfl)), (excB_ok (c.fact 88 (by rfl)) (c.fact 0 (by rfl))).1, fun f hf => ?_⟩
  · exact err_mk1 F T n_line ⟨_, rfl, rfl⟩ ⟨_, _, _, _, _, _, _, _, _, _, rfl, rfl⟩ (nscope_by (by decide +kernel)) (by decide +kernel) (by decide) (by decide)
  · simp only [List.mem_cons, List.not_mem_nil, or_false] at hf
    subst hf
    exact n_line
theorem er_BadValue (X : K.In h) (G : h.Ns mainGlobals mg) (c : SaysE fbL fnL fsL K) : Err RR.prog w K mg base "BadValue" (He.ga K "BadValue") ["value"] := by
  obtain ⟨fd, F⟩ := sfun_of (P := RR.prog) (d := e_BadValue) (c.sup 11 (by rfl)) (c.fact 92 (by rfl)) (c.fact 93 (by rfl)) (c.fact 0 (by rfl)) (He.meth_ok (x := "BadValue") (m := "__init__") (c.fact 97 (by rfl))).kp (c.fact 94 (by rfl)) (by kernel_rfl)
  have T := oexB_ok (C := He.ga K "BadValue") (c.fact 94 (by rfl)) (c.fact 95 (by rfl))
  have M := He.meth_ok (x := "BadValue") (m := "__init__") (c.fact 97 (by rfl))
  have n_value := He.noat_ok (x := "BadValue") (f := "value") (c.fact 98 (by rfl))
  refine ⟨T, ⟨ini K "BadValue", fd, M.at_, beq_iff_eq.mp M.fn, ?_, F.kb (fun _ _ _ _ _ _ _ us ws h1 h2 => match us, h1, ws, h2 with | [_, _], _, [], _ => rfl) (fun a _ => a), F.kb (fun _ _ _ _ _ _ _ us ws h1 h2 => match us, h1, ws, h2 with | [_], _, [_], _ => rfl) (fun a b => a.append (vals_rev b))⟩, He.glo_ok X G (c.fact 91 (by rfl)), (excB_ok (c.fact 96 (by rfl)) (c.fact 0 (by rfl))).1, fun f hf => ?_⟩
  · exact err_mk1 F T n_value ⟨_, rfl, rfl⟩ ⟨_, _, _, _, _, _, _, _, _, _, rfl, rfl⟩ (nscope_by (by decide +kernel)) (by decide +kernel) (by decide) (by decide)
  · simp only [List.mem_cons, List.not_mem_nil, or_false] at hf
    subst hf
    exact n_value
theorem er_BadVariable (X : K.In h) (G : h.Ns mainGlobals mg) (c : SaysE fbL fnL fsL K) : Err RR.prog w K mg base "BadVariable" (He.ga K "BadVariable") ["variable"] := by
  obtain ⟨fd, F⟩ := sfun_of (P := RR.prog) (d := e_BadVariable) (c.sup 12 (by rfl)) (c.fact 100 (by rfl)) (c.fact 101 (by rfl)) (c.fact 0 (by rfl)) (He.meth_ok (x := "BadVariable") (m := "__init__") (c.fact 105 (by rfl))).kp (c.fact 102 (by rfl)) (by kernel_rfl)
  have T := oexB_ok (C := He.ga K "BadVariable") (c.fact 102 (by rfl)) (c.fact 103 (by rfl))
  have M := He.meth_ok (x := "BadVariable") (m := "__init__") (c.fact 105 (by rfl))
  have n_variable := He.noat_ok (x := "BadVariable") (f := "variable") (c.fact 106 (by rfl))
  refine ⟨T, ⟨ini K "BadVariable", fd, M.at_, beq_iff_eq.mp M.fn, ?_, F.kb (fun _ _ _ _ _ _ _ us ws h1 h2 => match us, h1, ws, h2 with | [_, _], _, [], _ => rfl) (fun a _ => a), F.kb (fun _ _ _ _ _ _ _ us ws h1 h2 => match us, h1, ws, h2 with | [_], _, [_], _ => rfl) (fun a b => a.append (vals_rev b))⟩, He.glo_ok X G (c.fact 99 (by rfl)), (excB_ok (c.fact 104 (by rfl)) (c.fact 0 (by rfl))).1, fun f hf => ?_⟩
  · exact err_mk1 F T n_variable ⟨_, rfl, rfl⟩ ⟨_, _, _, _, _, _, _, _, _, _, rfl, rfl⟩ (nscope_by (by decide +kernel)) (by decide +kernel) (by decide) (by decide)
  · simp only [List.mem_cons, List.not_mem_nil, or_false] at hf
    subst hf
    exact n_variable
theorem er_BadWord (X : K.In h) (G : h.Ns mainGlobals mg) (c : SaysE fbL fnL fsL K) : Err RR.prog w K mg base "BadWord" (He.ga K "BadWord") ["word"] := by
  obtain ⟨fd, F⟩ := sfun_of (P := RR.prog) (d := e_BadWord) (c.sup 13 (by rfl)) (c.fact 108 (by rfl)) (c.fact 109 (by rfl)) (c.fact 0 (by rfl)) (He.meth_ok (x := "BadWord") (m := "__init__") (c.fact 113 (by rfl))).kp (c.fact 110 (by rfl)) (by kernel_rfl)
  have T := oexB_ok (C := He.ga K "BadWord") (c.fact 110 (by rfl)) (c.fact 111 (by rfl))
  have M := He.meth_ok (x := "BadWord") (m := "__init__") (c.fact 113 (by rfl))
  have n_word := He.noat_ok (x := "BadWord") (f := "word") (c.fact 114 (by rfl))
  refine ⟨T, ⟨ini K "BadWord", fd, M.at_, beq_iff_eq.mp M.fn, ?_, F.kb (fun _ _ _ _ _ _ _ us ws h1 h2 => match us, h1, ws, h2 with | [_, _], _, [], _ => rfl) (fun a _ => a), F.kb (fun _ _ _ _ _ _ _ us ws h1 h2 => match us, h1, ws, h2 with | [_], _, [_], _ => rfl) (fun a b => a.append (vals_rev b))⟩, He.glo_ok X G (c.fact 107 (by rfl)), (excB_ok (c.fact 112 (by rfl)) (c.fact 0 (by rfl))).1, fun f hf => ?_⟩
  · exact err_mk1 F T n_word ⟨_, rfl, rfl⟩ ⟨_, _, _, _, _, _, _, _, _, _, rfl, rfl⟩ (nscope_by (by decide +kernel)) (by decide +kernel) (by decide) (by decide)
  · simp only [List.mem_cons, List.not_mem_nil, or_false] at hf
    subst hf
    exact n_word
theorem er_NoWrite (X : K.In h) (G : h.Ns mainGlobals mg) (c : SaysE fbL fnL fsL K) : Err RR.prog w K mg base "NoWrite" (He.ga K "NoWrite") ["resource", "field"] := by
  obtain ⟨fd, F⟩ := sfun_of (P := RR.prog) (d := e_NoWrite) (c.sup 14 (by rfl)) (c.fact 116 (by rfl)) (c.fact 117 (by rfl)) (c.fact 0 (by rfl)) (He.meth_ok (x := "NoWrite") (m := "__init__") (c.fact 121 (by rfl))).kp (c.fact 118 (by rfl)) (by kernel_rfl)
  have T := oexB_ok (C := He.ga K "NoWrite") (c.fact 118 (by rfl)) (c.fact 119 (by rfl))
  have M := He.meth_ok (x := "NoWrite") (m := "__init__") (c.fact 121 (by rfl))
  have n_resource := He.noat_ok (x := "NoWrite") (f := "resource") (c.fact 122 (by rfl))
  have n_field := He.noat_ok (x := "NoWrite") (f := "field") (c.fact 123 (by rfl))
  refine ⟨T, ⟨ini K "NoWrite", fd, M.at_, beq_iff_eq.mp M.fn, ?_, F.kb (fun _ _ _ _ _ _ _ us ws h1 h2 => match us, h1, ws, h2 with | [_, _, _], _, [], _ => rfl) (fun a _ => a), F.kb (fun _ _ _ _ _ _ _ us ws h1 h2 => match us, h1, ws, h2 with | [_], _, [_, _], _ => rfl) (fun a b => a.append (vals_rev b))⟩, He.glo_ok X G (c.fact 115 (by rfl)), (excB_ok (c.fact 120 (by rfl)) (c.fact 0 (by rfl))).1, fun f hf => ?_⟩
  · exact err_mk2 F T n_resource n_field ⟨_, rfl, rfl⟩ ⟨_, _, _, _, _, _, _, _, _, _, _, _, _, _, _, rfl, rfl⟩ (nscope_by (by decide +kernel)) (by decide +kernel) (by decide) (by decide) (by decide) (by decide)
  · simp only [List.mem_cons, List.not_mem_nil, or_false] at hf
    rcases hf with rfl | rfl
    · exact n_resource
    · exact n_field
theorem er_Rejected (X : K.In h) (G : h.Ns mainGlobals mg) (c : SaysE fbL fnL fsL K) : Err RR.prog w K mg base "Rejected" (He.ga K "Rejected") ["number", "stale"] := by
  obtain ⟨fd, F⟩ := sfun_of (P := RR.prog) (d := e_Rejected) (c.sup 15 (by rfl)) (c.fact 125 (by rfl)) (c.fact 126 (by rfl)) (c.fact 0 (by rfl)) (He.meth_ok (x := "Rejected") (m := "__init__") (c.fact 130 (by rfl))).kp (c.fact 127 (by rfl)) (by kernel_rfl)
  have T := oexB_ok (C := He.ga K "Rejected") (c.fact 127 (by rfl)) (c.fact 128 (by rfl))
  have M := He.meth_ok (x := "Rejected") (m := "__init__") (c.fact 130 (by rfl))
  have n_number := He.noat_ok (x := "Rejected") (f := "number") (c.fact 131 (by rfl))
  have n_stale := He.noat_ok (x := "Rejected") (f := "stale") (c.fact 132 (by rfl))
  refine ⟨T, ⟨ini K "Rejected", fd, M.at_, beq_iff_eq.mp M.fn, ?_, F.kb (fun _ _ _ _ _ _ _ us ws h1 h2 => match us, h1, ws, h2 with | [_, _, _], _, [], _ => rfl) (fun a _ => a), F.kb (fun _ _ _ _ _ _ _ us ws h1 h2 => match us, h1, ws, h2 with | [_], _, [_, _], _ => rfl) (fun a b => a.append (vals_rev b))⟩, He.glo_ok X G (c.fact 124 (by rfl)), (excB_ok (c.fact 129 (by rfl)) (c.fact 0 (by rfl))).1, fun f hf => ?_⟩
  · exact err_mk2 F T n_number n_stale ⟨_, rfl, rfl⟩ ⟨_, _, _, _, _, _, _, _, _, _, _, _, _, _, _, rfl, rfl⟩ (nscope_by (by decide +kernel)) (by decide +kernel) (by decide) (by decide) (by decide) (by decide)
  · simp only [List.mem_cons, List.not_mem_nil, or_false] at hf
    rcases hf with rfl | rfl
    · exact n_number
    · exact n_stale
theorem er_UnknownField (X : K.In h) (G : h.Ns mainGlobals mg) (c : SaysE fbL fnL fsL K) : Err RR.prog w K mg base "UnknownField" (He.ga K "UnknownField") ["field"] := by
  obtain ⟨fd, F⟩ := sfun_of (P := RR.prog) (d := e_UnknownField) (c.sup 16 (by rfl)) (c.fact 134 (by rfl)) (c.fact 135 (by rfl)) (c.fact 0 (by rfl)) (He.meth_ok (x := "UnknownField") (m := "__init__") (c.fact 139 (by rfl))).kp (c.fact 136 (by rfl)) (by kernel_rfl)
  have T := oexB_ok (C := He.ga K "UnknownField") (c.fact 136 (by rfl)) (c.fact 137 (by rfl))
  have M := He.meth_ok (x := "UnknownField") (m := "__init__") (c.fact 139 (by rfl))
  have n_field := He.noat_ok (x := "UnknownField") (f := "field") (c.fact 140 (by rfl))
  refine ⟨T, ⟨ini K "UnknownField", fd, M.at_, beq_iff_eq.mp M.fn, ?_, F.kb (fun _ _ _ _ _ _ _ us ws h1 h2 => match us, h1, ws, h2 with | [_, _], _, [], _ => rfl) (fun a _ => a), F.kb (fun _ _ _ _ _ _ _ us ws h1 h2 => match us, h1, ws, h2 with | [_], _, [_], _ => rfl) (fun a b => a.append (vals_rev b))⟩, He.glo_ok X G (c.fact 133 (by rfl)), (excB_ok (c.fact 138 (by rfl)) (c.fact 0 (by rfl))).1, fun f hf => ?_⟩
  · exact err_mk1 F T n_field ⟨_, rfl, rfl⟩ ⟨_, _, _, _, _, _, _, _, _, _, rfl, rfl⟩ (nscope_by (by decide +kernel)) (by decide +kernel) (by decide) (by decide)
  · simp only [List.mem_cons, List.not_mem_nil, or_false] at hf
    subst hf
    exact n_field
theorem er_UnknownKind (X : K.In h) (G : h.Ns mainGlobals mg) (c : SaysE fbL fnL fsL K) : Err RR.prog w K mg base "UnknownKind" (He.ga K "UnknownKind") ["name"] := by
  obtain ⟨fd, F⟩ := sfun_of (P := RR.prog) (d := e_UnknownKind) (c.sup 17 (by rfl)) (c.fact 142 (by rfl)) (c.fact 143 (by rfl)) (c.fact 0 (by rfl)) (He.meth_ok (x := "UnknownKind") (m := "__init__") (c.fact 147 (by rfl))).kp (c.fact 144 (by rfl)) (by kernel_rfl)
  have T := oexB_ok (C := He.ga K "UnknownKind") (c.fact 144 (by rfl)) (c.fact 145 (by rfl))
  have M := He.meth_ok (x := "UnknownKind") (m := "__init__") (c.fact 147 (by rfl))
  have n_name := He.noat_ok (x := "UnknownKind") (f := "name") (c.fact 148 (by rfl))
  refine ⟨T, ⟨ini K "UnknownKind", fd, M.at_, beq_iff_eq.mp M.fn, ?_, F.kb (fun _ _ _ _ _ _ _ us ws h1 h2 => match us, h1, ws, h2 with | [_, _], _, [], _ => rfl) (fun a _ => a), F.kb (fun _ _ _ _ _ _ _ us ws h1 h2 => match us, h1, ws, h2 with | [_], _, [_], _ => rfl) (fun a b => a.append (vals_rev b))⟩, He.glo_ok X G (c.fact 141 (by rfl)), (excB_ok (c.fact 146 (by rfl)) (c.fact 0 (by rfl))).1, fun f hf => ?_⟩
  · exact err_mk1 F T n_name ⟨_, rfl, rfl⟩ ⟨_, _, _, _, _, _, _, _, _, _, rfl, rfl⟩ (nscope_by (by decide +kernel)) (by decide +kernel) (by decide) (by decide)
  · simp only [List.mem_cons, List.not_mem_nil, or_false] at hf
    subst hf
    exact n_name
theorem er_UnknownTemplate (X : K.In h) (G : h.Ns mainGlobals mg) (c : SaysE fbL fnL fsL K) : Err RR.prog w K mg base "UnknownTemplate" (He.ga K "UnknownTemplate") ["name"] := by
  obtain ⟨fd, F⟩ := sfun_of (P := RR.prog) (d := e_UnknownTemplate) (c.sup 18 (by rfl)) (c.fact 150 (by rfl)) (c.fact 151 (by rfl)) (c.fact 0 (by rfl)) (He.meth_ok (x := "UnknownTemplate") (m := "__init__") (c.fact 155 (by rfl))).kp (c.fact 152 (by rfl)) (by kernel_rfl)
  have T := oexB_ok (C := He.ga K "UnknownTemplate") (c.fact 152 (by rfl)) (c.fact 153 (by rfl))
  have M := He.meth_ok (x := "UnknownTemplate") (m := "__init__") (c.fact 155 (by rfl))
  have n_name := He.noat_ok (x := "UnknownTemplate") (f := "name") (c.fact 156 (by rfl))
  refine ⟨T, ⟨ini K "UnknownTemplate", fd, M.at_, beq_iff_eq.mp M.fn, ?_, F.kb (fun _ _ _ _ _ _ _ us ws h1 h2 => match us, h1, ws, h2 with | [_, _], _, [], _ => rfl) (fun a _ => a), F.kb (fun _ _ _ _ _ _ _ us ws h1 h2 => match us, h1, ws, h2 with | [_], _, [_], _ => rfl) (fun a b => a.append (vals_rev b))⟩, He.glo_ok X G (c.fact 149 (by rfl)), (excB_ok (c.fact 154 (by rfl)) (c.fact 0 (by rfl))).1, fun f hf => ?_⟩
  · exact err_mk1 F T n_name ⟨_, rfl, rfl⟩ ⟨_, _, _, _, _, _, _, _, _, _, rfl, rfl⟩ (nscope_by (by decide +kernel)) (by decide +kernel) (by decide) (by decide)
  · simp only [List.mem_cons, List.not_mem_nil, or_false] at hf
    subst hf
    exact n_name
theorem er_Unlabelled (X : K.In h) (G : h.Ns mainGlobals mg) (c : SaysE fbL fnL fsL K) : Err RR.prog w K mg base "Unlabelled" (He.ga K "Unlabelled") ["number"] := by
  obtain ⟨fd, F⟩ := sfun_of (P := RR.prog) (d := e_Unlabelled) (c.sup 19 (by rfl)) (c.fact 158 (by rfl)) (c.fact 159 (by rfl)) (c.fact 0 (by rfl)) (He.meth_ok (x := "Unlabelled") (m := "__init__") (c.fact 163 (by rfl))).kp (c.fact 160 (by rfl)) (by kernel_rfl)
  have T := oexB_ok (C := He.ga K "Unlabelled") (c.fact 160 (by rfl)) (c.fact 161 (by rfl))
  have M := He.meth_ok (x := "Unlabelled") (m := "__init__") (c.fact 163 (by rfl))
  have n_number := He.noat_ok (x := "Unlabelled") (f := "number") (c.fact 164 (by rfl))
  refine ⟨T, ⟨ini K "Unlabelled", fd, M.at_, beq_iff_eq.mp M.fn, ?_, F.kb (fun _ _ _ _ _ _ _ us ws h1 h2 => match us, h1, ws, h2 with | [_, _], _, [], _ => rfl) (fun a _ => a), F.kb (fun _ _ _ _ _ _ _ us ws h1 h2 => match us, h1, ws, h2 with | [_], _, [_], _ => rfl) (fun a b => a.append (vals_rev b))⟩, He.glo_ok X G (c.fact 157 (by rfl)), (excB_ok (c.fact 162 (by rfl)) (c.fact 0 (by rfl))).1, fun f hf => ?_⟩
  · exact err_mk1 F T n_number ⟨_, rfl, rfl⟩ ⟨_, _, _, _, _, _, _, _, _, _, rfl, rfl⟩ (nscope_by (by decide +kernel)) (by decide +kernel) (by decide) (by decide)
  · simp only [List.mem_cons, List.not_mem_nil, or_false] at hf
    subst hf
    exact n_number
theorem fa_gs (c : SaysE fbL fnL fsL K) : (gsB) K = true := c.fact 0 (f := gsB) (by rfl)
theorem fa_g_law (c : SaysE fbL fnL fsL K) : (fun K => (He.Fa.glo "law").ok K) K = true := c.fact 195 (f := fun K => (He.Fa.glo "law").ok K) (by rfl)
theorem fa_kf1 (c : SaysE fbL fnL fsL K) : (fun K => all24.all fun c => excB K (He.ga K c)) K = true := c.fact 196 (f := fun K => all24.all fun c => excB K (He.ga K c)) (by rfl)
theorem fa_kf2 (c : SaysE fbL fnL fsL K) : (fun K => (ones ++ twos8).all fun p => He.eqO (PySem.W.findIn K (.ref (He.ga K p.1)) p.2) (some none)) K = true := c.fact 197 (f := fun K => (ones ++ twos8).all fun p => He.eqO (PySem.W.findIn K (.ref (He.ga K p.1)) p.2) (some none)) (by rfl)
theorem fa_kf3 (c : SaysE fbL fnL fsL K) : (fun K => all24.all fun c => all23.all fun c' => decide (PySem.W.kitOne K (.ref (He.ga K c)) (.ref (He.ga K c')) = some (decide (c = c')))) K = true := c.fact 198 (f := fun K => all24.all fun c => all23.all fun c' => decide (PySem.W.kitOne K (.ref (He.ga K c)) (.ref (He.ga K c')) = some (decide (c = c')))) (by rfl)
theorem fa_kf4 (c : SaysE fbL fnL fsL K) : (fun K => all24.all fun c => decide (PySem.W.kitOne K (.ref (He.ga K c)) (.ref (He.ga K "SeenError")) = some true)) K = true := c.fact 199 (f := fun K => all24.all fun c => decide (PySem.W.kitOne K (.ref (He.ga K c)) (.ref (He.ga K "SeenError")) = some true)) (by rfl)
theorem fa_kf5 (c : SaysE fbL fnL fsL K) : (fun K => all24.all fun c => decide (PySem.W.kitOne K (.ref (He.ga K c)) (.type "ValueError") = some true)) K = true := c.fact 200 (f := fun K => all24.all fun c => decide (PySem.W.kitOne K (.ref (He.ga K c)) (.type "ValueError") = some true)) (by rfl)
theorem tx_of (X : K.In h) (G : h.Ns mainGlobals mg) (c : SaysE fbL fnL fsL K) : Tx RR.prog w K mg base where
  F_l_fresh := c.def_ 0 (d := d_l_fresh) (by rfl)
  F_l_fill := c.def_ 1 (d := d_l_fill) (by rfl)
  F_l_take := c.def_ 2 (d := d_l_take) (by rfl)
  F_l_one := c.def_ 3 (d := d_l_one) (by rfl)
  F_l_same := c.def_ 4 (d := d_l_same) (by rfl)
  F_l_any := c.def_ 5 (d := d_l_any) (by rfl)
  F_l_with_one := c.def_ 6 (d := d_l_with_one) (by rfl)
  F_l_by_place := c.def_ 7 (d := d_l_by_place) (by rfl)
  F_l_held := c.def_ 8 (d := d_l_held) (by rfl)
  F_l_classes := c.def_ 9 (d := d_l_classes) (by rfl)
  F_law := c.def_ 10 (d := d_law) (by rfl)
  gc_BadCatalog := He.glo_ok X G (c.fact 1 (by rfl))
  e_BadCatalog := er_BadCatalog X G c
  gc_BadCopies := He.glo_ok X G (c.fact 10 (by rfl))
  e_BadCopies := er_BadCopies X G c
  gc_BadCount := He.glo_ok X G (c.fact 18 (by rfl))
  e_BadCount := er_BadCount X G c
  gc_BadField := He.glo_ok X G (c.fact 26 (by rfl))
  e_BadField := er_BadField X G c
  gc_BadFlag := He.glo_ok X G (c.fact 34 (by rfl))
  e_BadFlag := er_BadFlag X G c
  gc_BadKind := He.glo_ok X G (c.fact 42 (by rfl))
  e_BadKind := er_BadKind X G c
  gc_BadResource := He.glo_ok X G (c.fact 50 (by rfl))
  e_BadResource := er_BadResource X G c
  gc_BadStep := He.glo_ok X G (c.fact 58 (by rfl))
  e_BadStep := er_BadStep X G c
  gc_BadTag := He.glo_ok X G (c.fact 66 (by rfl))
  e_BadTag := er_BadTag X G c
  gc_BadTemplate := He.glo_ok X G (c.fact 74 (by rfl))
  e_BadTemplate := er_BadTemplate X G c
  gc_BadText := He.glo_ok X G (c.fact 83 (by rfl))
  e_BadText := er_BadText X G c
  gc_BadValue := He.glo_ok X G (c.fact 91 (by rfl))
  e_BadValue := er_BadValue X G c
  gc_BadVariable := He.glo_ok X G (c.fact 99 (by rfl))
  e_BadVariable := er_BadVariable X G c
  gc_BadWord := He.glo_ok X G (c.fact 107 (by rfl))
  e_BadWord := er_BadWord X G c
  gc_NoWrite := He.glo_ok X G (c.fact 115 (by rfl))
  e_NoWrite := er_NoWrite X G c
  gc_Rejected := He.glo_ok X G (c.fact 124 (by rfl))
  e_Rejected := er_Rejected X G c
  gc_UnknownField := He.glo_ok X G (c.fact 133 (by rfl))
  e_UnknownField := er_UnknownField X G c
  gc_UnknownKind := He.glo_ok X G (c.fact 141 (by rfl))
  e_UnknownKind := er_UnknownKind X G c
  gc_UnknownTemplate := He.glo_ok X G (c.fact 149 (by rfl))
  e_UnknownTemplate := er_UnknownTemplate X G c
  gc_Unlabelled := He.glo_ok X G (c.fact 157 (by rfl))
  e_Unlabelled := er_Unlabelled X G c
  gc_BadCover := He.glo_ok X G (c.fact 165 (by rfl))
  x0_BadCover := (He.exc_ok (x := "BadCover") (c.fact 166 (by rfl))).1
  kc_BadCover := (He.exc_ok (x := "BadCover") (c.fact 166 (by rfl))).2.1
  gc_BadValues := He.glo_ok X G (c.fact 167 (by rfl))
  x0_BadValues := (He.exc_ok (x := "BadValues") (c.fact 168 (by rfl))).1
  kc_BadValues := (He.exc_ok (x := "BadValues") (c.fact 168 (by rfl))).2.1
  gc_Offline := He.glo_ok X G (c.fact 169 (by rfl))
  x0_Offline := (He.exc_ok (x := "Offline") (c.fact 170 (by rfl))).1
  kc_Offline := (He.exc_ok (x := "Offline") (c.fact 170 (by rfl))).2.1
  gc_SeenError := He.glo_ok X G (c.fact 171 (by rfl))
  x0_SeenError := (He.exc_ok (x := "SeenError") (c.fact 172 (by rfl))).1
  kc_SeenError := (He.exc_ok (x := "SeenError") (c.fact 172 (by rfl))).2.1
  z_ValueError := He.free_ok X G (c.fact 173 (by rfl))
  z_all := He.free_ok X G (c.fact 174 (by rfl))
  z_any := He.free_ok X G (c.fact 175 (by rfl))
  z_bool := He.free_ok X G (c.fact 176 (by rfl))
  z_enumerate := He.free_ok X G (c.fact 177 (by rfl))
  z_int := He.free_ok X G (c.fact 178 (by rfl))
  z_isinstance := He.free_ok X G (c.fact 179 (by rfl))
  z_len := He.free_ok X G (c.fact 180 (by rfl))
  z_list := He.free_ok X G (c.fact 181 (by rfl))
  z_range := He.free_ok X G (c.fact 182 (by rfl))
  z_tuple := He.free_ok X G (c.fact 183 (by rfl))
  z_zip := He.free_ok X G (c.fact 184 (by rfl))
  g_l_any := He.glo_ok X G (c.fact 185 (by rfl))
  g_l_by_place := He.glo_ok X G (c.fact 186 (by rfl))
  g_l_classes := He.glo_ok X G (c.fact 187 (by rfl))
  g_l_fill := He.glo_ok X G (c.fact 188 (by rfl))
  g_l_fresh := He.glo_ok X G (c.fact 189 (by rfl))
  g_l_held := He.glo_ok X G (c.fact 190 (by rfl))
  g_l_one := He.glo_ok X G (c.fact 191 (by rfl))
  g_l_same := He.glo_ok X G (c.fact 192 (by rfl))
  g_l_take := He.glo_ok X G (c.fact 193 (by rfl))
  g_l_with_one := He.glo_ok X G (c.fact 194 (by rfl))
  g_law := He.glo_ok X G (c.fact 195 (by rfl))
end
end G
namespace G
open PySem L2 RZ
theorem kf_of {K : PySem.W.Frag} (c : SaysE fbL fnL fsL K) : KF K := by
  have g := fa_gs c
  have h1 := fa_kf1 c
  have h2 := fa_kf2 c
  have h3 := fa_kf3 c
  have h4 := fa_kf4 c
  have h5 := fa_kf5 c
  have a1 := List.all_eq_true.mp h1
  have a2 := List.all_eq_true.mp h2
  have a3 := List.all_eq_true.mp h3
  have a4 := List.all_eq_true.mp h4
  have a5 := List.all_eq_true.mp h5
  exact ⟨fun c hc => excB_ok (a1 c hc) g, fun p hp => He.eqO_ok (a2 p hp), fun c hc c' hc' => of_decide_eq_true (List.all_eq_true.mp (a3 c hc) c' hc'), fun c hc => of_decide_eq_true (a4 c hc), fun c hc => of_decide_eq_true (a5 c hc)⟩
theorem FOk.never {P : Program} {w : World} {K : PySem.W.Frag} {mg : Str → Option Value} {base : Heap} {k : Nat} {f : Addr} {x qual : Str} {params : Arguments} {body : List Stmt} {scope : Scope} {fd : FuncData} {ps : List Str} {sp : Sp} (F : FunD K x qual params body scope [] [] f fd) (hn : ∀ vs H Q E, ¬ sp vs H Q E)
    (h : ∀ (kV doc pm : Value) (an : Option Addr) (cdv ct : Value) (us : List Value), us.length = ps.length → bindArgs (PySem.W.fnOf x qual params body scope .none kV doc pm an cdv ct) ⟨us, []⟩ = pure (ps.zip us)) : FOk P w K mg base CX0 k f ps [] sp :=
  ⟨⟨fd, [], ⟨fun vs H Q E q => (hn _ _ _ _ q).elim, fun _ _ _ _ _ _ _ _ _ _ _ _ _ q => (hn _ _ _ _ q).elim⟩, .nil, F.bindsN h⟩, F.kp⟩
section
variable {w : World} {K : PySem.W.Frag} {h : Heap} {mg : Str → Option Value} {base : Heap}
theorem law_ok (T : Tx RR.prog w K mg base) (kf : KF K) {fd : FuncData} (F : FunD K "law" "law" (defArgs s_law) (defBody s_law) (defScope s_law) [] [] (He.ga K "law") fd) : FnOk RR.prog w K mg base CX0 7 (He.ga K "law") fd ["_law_script"] (sp_law K) := by
  have f_fill := der_l_fill T (sp := sp_l_fill) (fun vs H Q E h => by obtain ⟨_, rfl, _⟩ := h; rfl) (fun vs H Q E h => rd_l_fill h)
  have f_take := der_l_take T f_fill (sp := sp_l_take) (fun vs H Q E h => by obtain ⟨_, _, rfl, _⟩ := h; rfl) (fun vs H Q E h => rd_l_take h)
  have f_one := der_l_one T f_take (sp := sp_l_one) (fun vs H Q E h => by obtain ⟨_, _, _, rfl, _⟩ := h; rfl) (fun vs H Q E h => rd_l_one h)
  have f_fresh := der_l_fresh T (sp := sp_l_fresh K) (fun vs H Q E h => by obtain ⟨_, _, rfl, _⟩ := h; rfl) (fun vs H Q E h => rd_l_fresh h)
  obtain ⟨fds, Fs⟩ := T.F_l_same
  have s0 : FOk RR.prog w K mg base CX0 0 (He.ga K "_law_same") ["_law_found", "_law_due"] [] (sp_l_same 0) := FOk.never Fs (fun vs H Q E h => by obtain ⟨_, _, _, h, _⟩ := h; exact h) (fun _ _ _ _ _ _ us hl => match us, hl with | [_, _], _ => rfl)
  have ls : ∀ n vs H Q E, sp_l_same n vs H Q E → vs.length = 2 := fun n vs H Q E h => by obtain ⟨_, _, rfl, _⟩ := h; rfl
  have s1 := der_l_same T (Nat.zero_le _) s0 (sp := sp_l_same 1) (ls 1) (fun vs H Q E h => rd_l_same h)
  have s2 := der_l_same T (Nat.zero_le _) s1 (sp := sp_l_same 2) (ls 2) (fun vs H Q E h => rd_l_same h)
  have s3 := der_l_same T (Nat.zero_le _) s2 (sp := sp_l_same 3) (ls 3) (fun vs H Q E h => rd_l_same h)
  have s4 := der_l_same T (Nat.zero_le _) s3 (sp := sp_l_same 4) (ls 4) (fun vs H Q E h => rd_l_same h)
  obtain ⟨fda, Fa⟩ := T.F_l_any
  have a0 : FOk RR.prog w K mg base CX0 3 (He.ga K "_law_any") ["_law_state", "_law_deep"] [] (fun _ _ _ _ => False) := FOk.never Fa (fun vs H Q E h => h) (fun _ _ _ _ _ _ us hl => match us, hl with | [_, _], _ => rfl)
  have la : ∀ n vs H Q E, sp_l_any n vs H Q E → vs.length = 2 := fun n vs H Q E h => by obtain ⟨_, rfl, _⟩ := h; rfl
  have a1 := der_l_any T (by decide) f_take f_one a0 (sp := sp_l_any 0) (la 0) (fun vs H Q E h => rd_l_any (fun z => absurd rfl z) h)
  have a2 := der_l_any T (by decide) f_take f_one a1 (sp := sp_l_any 1) (la 1) (fun vs H Q E h => rd_l_any (fun _ => rfl) h)
  have a3 := der_l_any T (by decide) f_take f_one a2 (sp := sp_l_any 2) (la 2) (fun vs H Q E h => rd_l_any (fun _ => rfl) h)
  have lo : ∀ vs H Q E, sp_ones K vs H Q E → vs.length = 1 := fun vs H Q E h => by obtain ⟨_, _, rfl, _⟩ := h; rfl
  have f_w := der_l_with_one T (sp := sp_ones K) lo (fun vs H Q E h => rd_l_with_one h)
  have f_b := der_l_by_place T (sp := sp_ones K) lo (fun vs H Q E h => rd_l_by_place h)
  have f_h := der_l_held T (sp := sp_l_held K) (fun vs H Q E h => by obtain ⟨_, _, _, rfl, _⟩ := h; rfl) (fun vs H Q E h => rd_l_held kf h)
  have f_c := der_l_classes T (sp := sp_l_classes K) (fun vs H Q E h => by obtain ⟨_, _, _, rfl, _⟩ := h; rfl) (fun vs H Q E h => rd_l_classes kf h)
  exact der_law T F f_fresh a3 f_w f_b f_h s4 f_c (sp := sp_law K) (fun vs H Q E h => by obtain ⟨_, _, rfl, _⟩ := h; rfl) (fun vs H Q E h => rd_law kf h)
end
end G
open PySem PySem.W PySem.Calls PyProof.Rows
theorem PySem.Challenge.cw_seenmarks_k01_errors_made_holds : PySem.Challenge.rw_seenmarks_k01_errors_made.Holds := by
  w_on; o_law
  refine HandSHeadRun.head_any (r := OpenLaw.row PySem.Challenge.rw_seenmarks_k01_errors_made) (q := view (OpenLaw.row PySem.Challenge.rw_seenmarks_k01_errors_made).prog [36]) (H := G.hk) (ob := G.ob) (M := 13000) (loose := G.names) (d := HandSHeadRun.topDef (OpenLaw.row PySem.Challenge.rw_seenmarks_k01_errors_made).prog 36) (kwd := []) G.ob_eq
    (by kernel_rfl) (fun s => by kernel_rfl) G.run (by kernel_rfl) (by kernel_rfl) (by kernel_rfl) (by rfl) (by first | assumption | decide +kernel) (by decide +kernel) ⟨rfl, rfl, rfl, rfl, rfl, by decide +kernel⟩ ?hw ?hc
  case hw => w_witness2
  case hc =>
    refine L2.walk_ofE (l := PySem.Challenge.rw_seenmarks_k01_errors_made) (n := 63) (k := 7) (x := "_law_script") (CX := L2.CX0) rfl (by decide) (by kernel_rfl) ⟨rfl, by decide, by decide⟩ ?F (fun _ _ _ _ z => z)
    intro w mg fa h Y G0 hmg0
    obtain ⟨K, KX, c⟩ := Y
    have hmg : mg ("law" : PySem.Str) = some (.ref fa) := by
      have e : (HandSHeadRun.topDef (OpenLaw.row PySem.Challenge.rw_seenmarks_k01_errors_made).prog 36).name = ("law" : PySem.Str) := by kernel_rfl
      rw [← e]
      exact hmg0
    have e := hmg.symm.trans (He.glo_ok KX G0 (G.fa_g_law c))
    cases e
    obtain ⟨fd, F⟩ := (G.tx_of (w := w) (base := h) KX G0 c).F_law
    have b := L2.FunD.bindsA (ps := ["_law_script"]) F fun _ _ _ _ _ _ us hl => match us, hl with | [_], _ => rfl
    exact ⟨K, fd, G.sp_law K, KX, fun s v => b s [v] rfl, fun H a ns hl _ hS => ⟨a, ns, rfl, hS, hl, fun _ => rfl⟩, fun base X0 G1 => G.law_ok (G.tx_of (w := w) (base := base) KX G0 c) (G.kf_of c) F⟩
