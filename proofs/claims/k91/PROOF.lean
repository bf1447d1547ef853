import PyProof.Rows.All
import Wide.All
import OpenK.AllK
import Wide.FinOn
import HandS.ForMost
import HandS.ForExc
import HandS.More
import HandS.IsInst
import HandS.Defaults
import HandS.Style
import HandS.Flow
import HandS.TupAny
import HandS.Wide
import HandS.Evl
import HandS.Codes
import KE.KOpsOwn
import KE.KOwnIter
import KE.KStar
import PyProof.InstNe
import PyProof.CollectWalk
import HandS.Property
import HandS.OwnEq
import HandS.OwnIter
import HandS.IterNext
import HandS.Star
import HandS.MakeKwOnly
import PyProof.EnumMake
import PyProof.Draws
import PyProof.TupleIter
import HandS.Iter
import KE.KFromBytes
import HandS.Dict
import HandS.ExcInit
import HandS.ExcField
import HandS.Finally
import HandS.HeadHook1
import HandS.HeadHook2
import HandS.ClsMeth
import KE.KEqDict
import HandS.DictComp
import PyProof.AutoSeq1
import KE.KStateDown
import HandS.Head0
import HandS.Head1
import HandS.Head2
import HandS.HeadEnd
import HandS.HeadHook3
import HandS.HeadNt
import HandS.HeadHook4
import HandS.RaiseFrom
import HandS.SuiteRaise
import HandS.ExcInitHot
import HandS.Text
import HandS.StrMore
import PyProof.Rows.StrPins
import KE.GoesEnumKw
import KE.GoesMore
import HandS.SortKw
import HandS.TryOnly
import HandS.ExcOwn
import HandS.HotCalls
import HandS.MapJoin
import PySem.Challenge.RW_struckbodies_k91_whole_wrong_nursery_lin
set_option Elab.async false
set_option linter.all false
set_option maxRecDepth 100000
set_option maxHeartbeats 4000000
namespace U
open PySem PySem.Spec PyProof.Rows L2

/-! ### what changes -/
/-- all tracked objects outside S stand; tuples and locked things stand -/
structure Ch (S : List Addr) (H H' : Hp) : Prop where
  st : ∀ b o, b ∉ S → H b = some o → H' b = some o
  tp : ∀ b xs, H b = some (.tup xs) → H' b = some (.tup xs)
  fz : ∀ b o u, H b = some (.frz o u) → H' b = some (.frz o u)
theorem Ch.refl (H : Hp) : Ch [] H H := ⟨fun _ _ _ h => h, fun _ _ h => h, fun _ _ _ h => h⟩
theorem Ch.trans {S S' : List Addr} {H H1 H2 : Hp} (a : Ch S H H1) (b : Ch S' H1 H2) : Ch (S ++ S') H H2 :=
  ⟨fun c o hc h => b.st c o (fun z => hc (List.mem_append_right _ z)) (a.st c o (fun z => hc (List.mem_append_left _ z)) h), fun c xs h => b.tp c xs (a.tp c xs h), fun c o u h => b.fz c o u (a.fz c o u h)⟩
theorem Ch.mono {S S' : List Addr} {H H' : Hp} (a : Ch S H H') (h : ∀ b ∈ S, b ∈ S') : Ch S' H H' := ⟨fun c o hc e => a.st c o (fun z => hc (h c z)) e, a.tp, a.fz⟩
theorem Ch.seq {S : List Addr} {H H1 H2 : Hp} (a : Ch S H H1) (b : Ch S H1 H2) : Ch S H H2 := (a.trans b).mono fun c h => (List.mem_append.mp h).elim id id
theorem Ch.nilL {S : List Addr} {H H1 H2 : Hp} (a : Ch [] H H1) (b : Ch S H1 H2) : Ch S H H2 := a.trans b
theorem Ch.nilR {S : List Addr} {H H1 H2 : Hp} (a : Ch S H H1) (b : Ch [] H1 H2) : Ch S H H2 := by
  have q := a.trans b
  rwa [List.append_nil] at q
/-- what was not tracked at first does not count -/
theorem Ch.drop {S : List Addr} {p : Addr} {H H' : Hp} (a : Ch (p :: S) H H') (n : H p = none) : Ch S H H' :=
  ⟨fun c o hc e => a.st c o (fun z => by
    rcases List.mem_cons.mp z with z | z
    · rw [z, n] at e
      cases e
    · exact hc z) e, a.tp, a.fz⟩
theorem Ch.new {H : Hp} {p : Addr} {o : HO} (h : H p = none) : Ch [] H (upd H p o) :=
  ⟨fun c u _ e => by rw [upd_ne (ne_of_none e h)]; exact e, fun c xs e => by rw [upd_ne (ne_of_none e h)]; exact e, fun c x u e => by rw [upd_ne (ne_of_none e h)]; exact e⟩
/-- what may be changed -/
def MutO : HO → Bool
  | .tup _ => false
  | .frz _ _ => false
  | _ => true
theorem Ch.mut {H : Hp} {p : Addr} {o u : HO} (h : H p = some u) (m : MutO u = true) : Ch [p] H (upd H p o) :=
  ⟨fun c x hc e => by rw [upd_ne (fun z => hc (by simp [z]))]; exact e, fun c xs e => by
    rw [upd_ne (fun z => by rw [z, h] at e; cases e; cases m)]
    exact e, fun c x y e => by
    rw [upd_ne (fun z => by rw [z, h] at e; cases e; cases m)]
    exact e⟩
theorem Ch.get {S : List Addr} {H H' : Hp} {a : Addr} {o : HO} (c : Ch S H H') (h : H a = some o) (n : a ∉ S) : H' a = some o := c.st a o n h
theorem Ch.get0 {H H' : Hp} {a : Addr} {o : HO} (c : Ch [] H H') (h : H a = some o) : H' a = some o := c.st a o (by simp) h
theorem Ch.get1 {p : Addr} {H H' : Hp} {a : Addr} {o : HO} (c : Ch [p] H H') (h : H a = some o) (n : a ≠ p) : H' a = some o := c.st a o (by simpa using n) h
theorem Ch.free {S : List Addr} {H H' : Hp} {a : Addr} (c : Ch S H H') (h : H' a = none) (n : a ∉ S) : H a = none := by
  cases e : H a with
  | none => rfl
  | some o =>
    rw [c.st a o n e] at h
    cases h
theorem Ch.free0 {H H' : Hp} {a : Addr} (c : Ch [] H H') (h : H' a = none) : H a = none := c.free h (by simp)
theorem Ch.sqT {S : List Addr} {K : PySem.W.Frag} {H H' : Hp} {a : Addr} {xs : List V} (c : Ch S H H') (h : SqT K H a xs) : SqT K H' a xs := by
  rcases h with (h | ⟨o, h⟩) | h
  · exact .inl (.inl (c.tp _ _ h))
  · exact .inl (.inr ⟨o, c.fz _ _ _ h⟩)
  · exact .inr h
theorem Ch.sqL {S : List Addr} {K : PySem.W.Frag} {H H' : Hp} {a : Addr} {xs : List V} (c : Ch S H H') (h : SqL K H a xs) (n : a ∉ S) : SqL K H' a xs := by
  rcases h with (h | ⟨o, h⟩) | h
  · exact .inl (.inl (c.st _ _ n h))
  · exact .inl (.inr ⟨o, c.fz _ _ _ h⟩)
  · exact .inr h

/-! ### data without lists: never changes -/
mutual
inductive Dt (K : PySem.W.Frag) (H : Hp) : V → PyData → Prop
  | non : Dt K H .non .none
  | bl (b : Bool) : Dt K H (.bl b) (.bool b)
  | int (i : Int) : Dt K H (.int i) (.int i)
  | str (x : Str) : Dt K H (.str x) (.str x)
  | tup {a : Addr} {xs : List V} {ds : List PyData} : SqT K H a xs → DtA K H xs ds → Dt K H (.ref a) (.tuple ds)
inductive DtA (K : PySem.W.Frag) (H : Hp) : List V → List PyData → Prop
  | nil : DtA K H [] []
  | cons {v : V} {vs : List V} {d : PyData} {ds : List PyData} : Dt K H v d → DtA K H vs ds → DtA K H (v :: vs) (d :: ds)
end
section
variable {K : PySem.W.Frag} {H H' : Hp} {S : List Addr}
mutual
theorem Dt.mono (c : Ch S H H') : ∀ (d : PyData) (v : V), Dt K H v d → Dt K H' v d
  | .none, _, h => by cases h; exact .non
  | .bool _, _, h => by cases h; exact .bl _
  | .int _, _, h => by cases h; exact .int _
  | .str _, _, h => by cases h; exact .str _
  | .tuple ds, _, h => by
    cases h with
    | tup hs ha => exact .tup (c.sqT hs) (DtA.mono c ds _ ha)
  | .list _, _, h => by cases h
  | .dict _, _, h => by cases h
theorem DtA.mono (c : Ch S H H') : ∀ (ds : List PyData) (vs : List V), DtA K H vs ds → DtA K H' vs ds
  | [], _, h => by cases h; exact .nil
  | d :: ds, _, h => by
    cases h with
    | cons h1 h2 => exact .cons (Dt.mono c d _ h1) (DtA.mono c ds _ h2)
end
theorem Dt.ch {d : PyData} {v : V} (h : Dt K H v d) (c : Ch S H H') : Dt K H' v d := Dt.mono c d v h
theorem DtA.ch {ds : List PyData} {vs : List V} (h : DtA K H vs ds) (c : Ch S H H') : DtA K H' vs ds := DtA.mono c ds vs h
mutual
theorem Dt.dp : ∀ (d : PyData) (v : V), Dt K H v d → Dp K H v d
  | .none, _, h => by cases h; exact .non
  | .bool _, _, h => by cases h; exact .bl _
  | .int _, _, h => by cases h; exact .int _
  | .str _, _, h => by cases h; exact .str _
  | .tuple ds, _, h => by
    cases h with
    | tup hs ha => exact .tup hs (DtA.dp ds _ ha)
  | .list _, _, h => by cases h
  | .dict _, _, h => by cases h
theorem DtA.dp : ∀ (ds : List PyData) (vs : List V), DtA K H vs ds → DpAll K H vs ds
  | [], _, h => by cases h; exact .nil
  | d :: ds, _, h => by
    cases h with
    | cons h1 h2 => exact .cons (Dt.dp d _ h1) (DtA.dp ds _ h2)
end
theorem DtA.length {ds : List PyData} {vs : List V} (h : DtA K H vs ds) : vs.length = ds.length := by
  induction ds generalizing vs with
  | nil => cases h; rfl
  | cons d ds ih =>
    cases h with
    | cons h1 h2 => rw [List.length_cons, List.length_cons, ih h2]
theorem DtA.get {ds : List PyData} {vs : List V} (h : DtA K H vs ds) {i : Nat} {v : V} (e : vs[i]? = some v) : ∃ d, ds[i]? = some d ∧ Dt K H v d := by
  induction ds generalizing vs i with
  | nil => cases h; simp at e
  | cons d ds ih =>
    cases h with
    | cons h1 h2 =>
      cases i with
      | zero => simp at e; subst e; exact ⟨d, rfl, h1⟩
      | succ i =>
        obtain ⟨d', e', h'⟩ := ih h2 (i := i) (by simpa using e)
        exact ⟨d', by simpa using e', h'⟩
theorem DtA.append {ds es : List PyData} {vs us : List V} (h : DtA K H vs ds) (g : DtA K H us es) : DtA K H (vs ++ us) (ds ++ es) := by
  induction ds generalizing vs with
  | nil => cases h; exact g
  | cons d ds ih =>
    cases h with
    | cons h1 h2 => exact .cons h1 (ih h2)
theorem DtA.snoc {ds : List PyData} {vs : List V} {v : V} {d : PyData} (h : DtA K H vs ds) (g : Dt K H v d) : DtA K H (vs ++ [v]) (ds ++ [d]) := h.append (.cons g .nil)
theorem DtA.take {ds : List PyData} {vs : List V} (h : DtA K H vs ds) (n : Nat) : DtA K H (vs.take n) (ds.take n) := by
  induction ds generalizing vs n with
  | nil => cases h; simp; exact .nil
  | cons d ds ih =>
    cases h with
    | cons h1 h2 =>
      cases n with
      | zero => exact .nil
      | succ n => exact .cons h1 (ih h2 n)
theorem DtA.drop {ds : List PyData} {vs : List V} (h : DtA K H vs ds) (n : Nat) : DtA K H (vs.drop n) (ds.drop n) := by
  induction ds generalizing vs n with
  | nil => cases h; simp; exact .nil
  | cons d ds ih =>
    cases h with
    | cons h1 h2 =>
      cases n with
      | zero => exact .cons h1 h2
      | succ n => exact ih h2 n
end

/-! ### defs with their bindings -/
structure FD (P : Program) (w : World) (K : PySem.W.Frag) (mg : Str → Option Value) (base : Heap) (CX : CXT) (k : Nat) (f : Addr) (ps : List Str) (sp : Sp) : Prop where
  ex : ∃ fd, FnOk P w K mg base CX k f fd ps sp ∧ Binds K fd ps []
  kp : PySem.W.keepIn K (.ref f) = true
theorem FD.imp {P : Program} {w : World} {K : PySem.W.Frag} {mg : Str → Option Value} {base : Heap} {CX : CXT} {k : Nat} {f : Addr} {ps : List Str} {sp sp' : Sp} (F : FD P w K mg base CX k f ps sp) (h : ∀ vs H Q E, sp' vs H Q E → sp vs H Q E) : FD P w K mg base CX k f ps sp' := by
  obtain ⟨fd, a, b⟩ := F.ex
  exact ⟨⟨fd, a.imp h, b⟩, F.kp⟩
theorem FD.mono {P : Program} {w : World} {K : PySem.W.Frag} {mg : Str → Option Value} {base : Heap} {CX : CXT} {j k : Nat} {f : Addr} {ps : List Str} {sp : Sp} (F : FD P w K mg base CX j f ps sp) (h : j ≤ k) : FD P w K mg base CX k f ps sp := by
  obtain ⟨fd, a, b⟩ := F.ex
  exact ⟨⟨fd, a.mono h, b⟩, F.kp⟩
section
variable {P : Program} {w : World} {K : PySem.W.Frag} {mg : Str → Option Value} {base : Heap} {x qual : Str} {params : Arguments} {body : List Stmt} {scope : Scope} {f : Addr}
/-- a def without defaults that lets nothing out -/
theorem FD.mk0 {N ps : List Str} {k : Nat} {sp : Sp} (F : ∃ fd, FunD K x qual params body scope [] [] f fd) (S : FnScope N ps scope) (len : ∀ vs H Q E, sp vs H Q E → vs.length = ps.length)
    (hb : ∀ (kV doc pm : Value) (an : Option Addr) (cdv ct : Value) (us : List Value), us.length = ps.length → bindArgs (PySem.W.fnOf x qual params body scope .none kV doc pm an cdv ct) ⟨us, []⟩ = pure (ps.zip us))
    (hbody : ∀ (cdv : Value) (A : Around) (outer : List Env) (s : Shared) (H : Hp) (vs : List V) (Q : VK) (E : XK), Room k (A.deeper (envOfC qual scope s.heap.objs.size f cdv)) → sp vs H Q E →
      ∃ t, PSs (cxOf CX0 P w K mg base N qual scope f cdv A outer s H E).nox body t ∧ t ⟨fun _ H' => Q .non H', Q, fun _ _ => False, fun _ _ => False⟩ (start N vs) H) : FD P w K mg base CX0 (k + 1) f ps sp := by
  obtain ⟨fd, F⟩ := F
  refine ⟨⟨fd, F.ok S len fun cdv A outer s H vs Q E hr hsp => ?_, F.bindsN hb⟩, F.kp⟩
  obtain ⟨t, h, q⟩ := hbody cdv A outer s H vs Q E hr hsp
  exact ⟨t, h.nox, q⟩
/-- .. that may raise -/
theorem FD.mkX {N ps : List Str} {k : Nat} {sp : Sp} (F : ∃ fd, FunD K x qual params body scope [] [] f fd) (S : FnScope N ps scope) (len : ∀ vs H Q E, sp vs H Q E → vs.length = ps.length)
    (hb : ∀ (kV doc pm : Value) (an : Option Addr) (cdv ct : Value) (us : List Value), us.length = ps.length → bindArgs (PySem.W.fnOf x qual params body scope .none kV doc pm an cdv ct) ⟨us, []⟩ = pure (ps.zip us))
    (hbody : ∀ (cdv : Value) (A : Around) (outer : List Env) (s : Shared) (H : Hp) (vs : List V) (Q : VK) (E : XK), Room k (A.deeper (envOfC qual scope s.heap.objs.size f cdv)) → sp vs H Q E →
      ∃ t, PSs (cxOf (L2.CX P w) P w K mg base N qual scope f cdv A outer s H E) body t ∧ t ⟨fun _ H' => Q .non H', Q, fun _ _ => False, fun _ _ => False⟩ (start N vs) H) : FD P w K mg base (L2.CX P w) (k + 1) f ps sp := by
  obtain ⟨fd, F⟩ := F
  exact ⟨⟨fd, F.ok S len fun cdv A outer s H vs Q E hr hsp => hbody cdv A outer s H vs Q E hr hsp, F.bindsN hb⟩, F.kp⟩
end
section
variable {X : Cx} {CX : CXT} {j k : Nat} {f C : Addr} {ps : List Str} {sp : Sp} {E : XK} {x m : Str} {p pos apos : Pos} {e o : Expr} {es : List Expr} {t : TA} {ta : TE}
theorem pe_callD (F : FD X.prog X.w X.K X.mg X.base CX k f ps sp) (hr : Room j X.A) (hk : k ≤ j) (hg : Gl X x) (hm : X.mg x = some (.ref f)) (hx : Passes CX X E) (ha : PA X (e :: es) t) (hdb : (x == ("__debug__" : Str)) = false := by decide)
    (he : starEach (e :: es) X.env = (false, eval e X.env) :: starEach es X.env := by rfl) (hpl : (backTo pos (starEach es X.env)).any (·.1) = false := by rfl) : PE X (.Call (.Name x p) (e :: es) [] pos) (tCall sp [] E t) := by
  refine ⟨fun pins s σ H Q I h => ?_⟩
  obtain ⟨fd, F1, b⟩ := F.ex
  exact (pe_call F1 (hr.mono hk) hg hm F.kp b .nil hx ha hdb he hpl).run pins s σ H Q I h
theorem pe_callD0 (F : FD X.prog X.w X.K X.mg X.base CX k f ps sp) (hr : Room j X.A) (hk : k ≤ j) (hg : Gl X x) (hm : X.mg x = some (.ref f)) (hx : Passes CX X E) (hdb : (x == ("__debug__" : Str)) = false := by decide) : PE X (.Call (.Name x p) [] [] pos) (tCall sp [] E tNil) := by
  refine ⟨fun pins s σ H Q I h => ?_⟩
  obtain ⟨fd, F1, b⟩ := F.ex
  exact (pe_call0 F1 (hr.mono hk) hg hm F.kp b .nil hx hdb).run pins s σ H Q I h
end
end U

set_option Elab.async false
set_option linter.all false
set_option maxRecDepth 100000
set_option maxHeartbeats 4000000
namespace U
open PySem PySem.Spec PyProof.Rows L2
/-! ### universal operators -/
section
variable {X : Cx}
def rAddI : R2 := rI0 fun i j => .int (i + j)
def rAddS : R2 := fun x y H Q => ∃ i j, x = .str i ∧ y = .str j ∧ i.length + j.length ≤ sizeLine ∧ Q (.str (i ++ j)) H
def rAdd (K : PySem.W.Frag) : R2 := fun x y H Q => rAddI x y H Q ∨ (rAddS x y H Q ∨ (rCat x y H Q ∨ rCatA K x y H Q))
theorem u_add : OpR X (binaryOp .Add) (rAdd X.K) := OpR.or op_add (OpR.or op_add_str (OpR.or op_cat op_catA))
def rEqU (K : PySem.W.Frag) : R2 := fun x y H Q => rEq x y H Q ∨ rEqD K x y H Q
def rNeU (K : PySem.W.Frag) : R2 := fun x y H Q => rNe x y H Q ∨ rNeD K x y H Q
theorem u_eq (hu : X.A.units + 64 < cLine) : OpR X (compareOp .Eq) (rEqU X.K) := OpR.or op_eq (op_eqD hu)
theorem u_ne (hu : X.A.units + 64 < cLine) : OpR X (compareOp .NotEq) (rNeU X.K) := OpR.or op_ne (op_neD hu)
def rLtI : R2 := rI0 fun i j => .bl (decide (i < j))
def rLeI : R2 := rI0 fun i j => .bl (decide (i ≤ j))
def rGtI : R2 := rI0 fun i j => .bl (decide (j < i))
def rGeI : R2 := rI0 fun i j => .bl (decide (j ≤ i))
theorem u_lt : OpR X (compareOp .Lt) rLtI := op_lt
theorem u_le : OpR X (compareOp .LtE) rLeI := op_le
theorem u_gt : OpR X (compareOp .Gt) rGtI := op_gt
theorem u_ge : OpR X (compareOp .GtE) rGeI := op_ge
def rLtS : R2 := fun x y H Q => ∃ i j, x = .str i ∧ y = .str j ∧ Q (.bl (decide (i.cps.toList < j.cps.toList))) H
theorem u_ltS : OpR X (compareOp .Lt) rLtS := op_lt_str
def rSubI : R2 := rI0 fun i j => .int (i - j)
theorem u_sub : OpR X (binaryOp .Sub) rSubI := op_sub
def rMulI : R2 := rI CMul fun i j => .int (i * j)
theorem u_mul : OpR X (binaryOp .Mult) rMulI := op_mul
def rModI : R2 := rI (fun _ j => 0 < j) fun i j => .int (i % j)
theorem u_mod : OpR X (binaryOp .Mod) rModI := op_mod
def rDivI : R2 := rI CDiv fun i j => .int (i / j)
theorem u_div : OpR X (binaryOp .FloorDiv) rDivI := op_fdiv
def rPowI : R2 := rI CPow fun i j => .int (i ^ j.toNat)
theorem u_pow : OpR X (binaryOp .Pow) rPowI := op_pow
def rIsNo : R2 := fun x y H Q => y = .non ∧ Q (.bl (decide (x = .non))) H
def rNotNo : R2 := fun x y H Q => y = .non ∧ Q (.bl (!decide (x = .non))) H
theorem u_is : OpR X (compareOp .Is) rIsNo := op_isN
theorem u_isnot : OpR X (compareOp .IsNot) rNotNo := op_notN
def rInSg : R2 := fun x y H Q => ∃ (c : Nat) (z : Str), x = .str ⟨#[c]⟩ ∧ y = .str z ∧ Q (.bl (decide (c ∈ z.cps.toList))) H
def rNotInSg : R2 := fun x y H Q => ∃ (c : Nat) (z : Str), x = .str ⟨#[c]⟩ ∧ y = .str z ∧ Q (.bl (!decide (c ∈ z.cps.toList))) H
def rInU (K : PySem.W.Frag) : R2 := fun x y H Q => rInSg x y H Q ∨ rIn K false x y H Q
def rNotInU (K : PySem.W.Frag) : R2 := fun x y H Q => rNotInSg x y H Q ∨ rIn K true x y H Q
theorem u_in : OpR X (compareOp .In) (rInU X.K) := OpR.or op_in_sign op_in_seq
theorem u_notin : OpR X (compareOp .NotIn) (rNotInU X.K) := OpR.or op_notIn_sign op_notIn_seq
def rLenC (K : PySem.W.Frag) : List V → Hp → VK → Prop := fun xs H Q => ∃ x n, xs = [x] ∧ LenV K x H n ∧ Q (.int n) H
theorem c_len : CallR X (.builtin "len") (rLenC X.K) := call_len
def rIntC : List V → Hp → VK → Prop := fun xs H Q => (∃ i, xs = [.int i] ∧ Q (.int i) H) ∨ ∃ k, xs = [.bl k] ∧ Q (.int (if k then 1 else 0)) H
theorem c_int : CallR X (.type "int") rIntC := call_int1
def rListC (K : PySem.W.Frag) : List V → Hp → VK → Prop := fun xs H Q => ∃ p ys, xs = [.ref p] ∧ (SqL K H p ys ∨ SqT K H p ys) ∧ ∀ l, H l = none → Q (.ref l) (upd H l (.lst ys))
theorem c_list : CallR X (.type "list") (rListC X.K) := call_list_of
def rTupC (K : PySem.W.Frag) : List V → Hp → VK → Prop := fun xs H Q => ∃ p ys, xs = [.ref p] ∧ ((SqL K H p ys ∧ ∀ l, H l = none → Q (.ref l) (upd H l (.tup ys))) ∨ (SqT K H p ys ∧ Q (.ref p) H))
theorem c_tuple : CallR X (.type "tuple") (rTupC X.K) := call_tuple_of
end
theorem sz_of {n : Nat} (h : n ≤ 100000) : n ≤ sizeLine := Nat.le_trans h (by decide)
theorem sz_lt {n : Nat} (h : n < 100000) : n < sizeLine := Nat.lt_of_lt_of_le h (by decide)

/-! ### steps of a reading -/
/-- a new tuple, a new list -/
def NwT (H1 : Hp) (xs : List V) (R : Addr → Hp → Prop) : Prop := xs.length ≤ sizeLine ∧ ∀ p H', H1 p = none → H' = upd H1 p (.tup xs) → R p H'
def NwL (H1 : Hp) (xs : List V) (R : Addr → Hp → Prop) : Prop := xs.length ≤ sizeLine ∧ ∀ p H', H1 p = none → H' = upd H1 p (.lst xs) → R p H'
section
variable {K : PySem.W.Frag} {σ σ' : L2.St} {H : Hp} {Q : VK} {v x y : V} {i j : Int} {n : Nat} {ta tb tc te : TE} {t u : TT} {t1 t2 ts : TS} {tA : TA} {r : R2} {nx bk ct : L2.St → Hp → Prop} {rt : VK} {a b c : Prop} {QB : Bool → Hp → Prop} {QL : List V → Hp → Prop} {g : TG}
theorem x_var (h : σ[n]? = some (some v)) (q : Q v H) : tVar n σ H Q := ⟨v, h, q⟩
theorem x_c (q : Q v H) : tC v σ H Q := q
theorem x_op (h : ta σ H fun x H1 => tb σ H1 fun y H2 => r x y H2 Q) : tOp r ta tb σ H Q := h
theorem x_un {r : V → Hp → VK → Prop} (h : ta σ H fun x H1 => r x H1 Q) : tUn r ta σ H Q := h
theorem x_test (h : te σ H fun x H1 => ∃ k, x = .bl k ∧ QB k H1) : tTest te σ H QB := h
theorem x_B (h : te σ H fun x H1 => ∃ k, x = .bl k ∧ QB k H1) : tB te σ H QB := h
theorem x_bl {k : Bool} (q : QB k H) : ∃ k', V.bl k = V.bl k' ∧ QB k' H := ⟨k, rfl, q⟩
theorem x_ifS (h : t σ H fun b H1 => if b = true then t1 ⟨nx, rt, bk, ct⟩ σ H1 else t2 ⟨nx, rt, bk, ct⟩ σ H1) : tIfS t t1 t2 ⟨nx, rt, bk, ct⟩ σ H := h
theorem x_if (h : t σ H fun b H1 => if b = true then ta σ H1 Q else tb σ H1 Q) : tIf t ta tb σ H Q := h
theorem x_and (h : t σ H fun c H1 => if c = true then u σ H1 QB else QB false H1) : tAnd t u σ H QB := h
theorem x_or (h : t σ H fun c H1 => if c = true then QB true H1 else u σ H1 QB) : tOr t u σ H QB := h
theorem x_not (h : t σ H fun c H1 => QB (!c) H1) : tNot t σ H QB := h
theorem x_andV (h : ta σ H fun x H1 => ∃ c, x = .bl c ∧ if c = true then tb σ H1 Q else Q (.bl false) H1) : tAndV ta tb σ H Q := h
theorem x_orV (h : ta σ H fun x H1 => ∃ c, x = .bl c ∧ if c = true then Q (.bl true) H1 else tb σ H1 Q) : tOrV ta tb σ H Q := h
theorem x_notV (h : ta σ H fun x H1 => ∃ c, x = .bl c ∧ Q (.bl (!c)) H1) : tNotV ta σ H Q := h
theorem x_blV {k : Bool} {PB : Bool → Prop} (q : PB k) : ∃ k', V.bl k = V.bl k' ∧ PB k' := ⟨k, rfl, q⟩
theorem x_chain {r r' : R2} (h : ta σ H fun x H1 => tb σ H1 fun y H2 => r x y H2 fun z H3 => ∃ k, z = .bl k ∧ (if k = true then tc σ H3 fun w' H4 => r' y w' H4 Q else Q (.bl false) H3)) : tChain r r' ta tb tc σ H Q := h
-- known and open tests
theorem ite_T (h : a) : if true = true then a else b := by rw [if_pos rfl]; exact h
theorem ite_F (h : b) : if false = true then a else b := by rw [if_neg Bool.false_ne_true]; exact h
theorem ite_d [Decidable c] (hc : c) (h : a) : if decide c = true then a else b := by rw [decide_eq_true hc]; exact ite_T h
theorem ite_dn [Decidable c] (hc : ¬ c) (h : b) : if decide c = true then a else b := by rw [decide_eq_false hc]; exact ite_F h
theorem ite_n [Decidable c] (hc : c) (h : b) : if (!decide c) = true then a else b := by rw [decide_eq_true hc]; exact ite_F h
theorem ite_nn [Decidable c] (hc : ¬ c) (h : a) : if (!decide c) = true then a else b := by rw [decide_eq_false hc]; exact ite_T h
theorem ite_by [Decidable c] (h1 : c → a) (h2 : ¬ c → b) : if decide c = true then a else b := by
  by_cases h : c
  · exact ite_d h (h1 h)
  · exact ite_dn h (h2 h)
theorem ite_nby [Decidable c] (h1 : c → b) (h2 : ¬ c → a) : if (!decide c) = true then a else b := by
  by_cases h : c
  · exact ite_n h (h1 h)
  · exact ite_nn h (h2 h)
theorem ite_b {k : Bool} (h1 : k = true → a) (h2 : k = false → b) : if k = true then a else b := by
  cases k with
  | true => exact ite_T (h1 rfl)
  | false => exact ite_F (h2 rfl)
theorem ite_nb {k : Bool} (h1 : k = true → b) (h2 : k = false → a) : if (!k) = true then a else b := by
  cases k with
  | true => exact ite_F (h1 rfl)
  | false => exact ite_T (h2 rfl)
-- statements
theorem x_seq (h : t1 ⟨t2 ⟨nx, rt, bk, ct⟩, rt, bk, ct⟩ σ H) : tSeq t1 t2 ⟨nx, rt, bk, ct⟩ σ H := h
theorem x_next (h : nx σ H) : tNext ⟨nx, rt, bk, ct⟩ σ H := h
theorem x_brk (h : bk σ H) : tBreak ⟨nx, rt, bk, ct⟩ σ H := h
theorem x_cont (h : ct σ H) : tCont ⟨nx, rt, bk, ct⟩ σ H := h
theorem x_drop (h : te σ H fun _ H1 => nx σ H1) : tDrop te ⟨nx, rt, bk, ct⟩ σ H := h
theorem x_ret (h : te σ H rt) : tRet te ⟨nx, rt, bk, ct⟩ σ H := h
theorem x_retN (h : rt .non H) : tRetN ⟨nx, rt, bk, ct⟩ σ H := h
theorem x_asg (h : te σ H fun x H1 => g x σ H1 nx) : tAsg te g ⟨nx, rt, bk, ct⟩ σ H := h
theorem x_name {Qs : L2.St → Hp → Prop} (e : σ.set n (some x) = σ') (q : Qs σ' H) : gName n x σ H Qs := by subst e; exact q
theorem x_aug {ip : TIp} (h : σ[n]? = some (some v)) (q : te σ H fun y H1 => ip v y H1 fun z H2 => nx (σ.set n (some z)) H2) : tAug n te ip ⟨nx, rt, bk, ct⟩ σ H := ⟨v, h, q⟩
-- arguments, displays
theorem x_nil (q : QL [] H) : tNil σ H QL := q
theorem x_cons (h : te σ H fun x H1 => tA σ H1 fun xs H2 => QL (x :: xs) H2) : tCons te tA σ H QL := h
theorem x_tup (h : tA σ H fun xs H1 => NwT H1 xs fun p H' => Q (.ref p) H') : tTup tA σ H Q := by
  have e : (fun (xs : List V) (H1 : Hp) => NwT H1 xs fun p H' => Q (.ref p) H') = fun xs H1 => xs.length ≤ sizeLine ∧ ∀ p, H1 p = none → Q (.ref p) (upd H1 p (.tup xs)) := by
    funext xs H1
    exact propext ⟨fun z => ⟨z.1, fun p hp => z.2 p _ hp rfl⟩, fun z => ⟨z.1, fun p H' hp e => by rw [e]; exact z.2 p hp⟩⟩
  rw [e] at h
  exact h
theorem x_lst (h : tA σ H fun xs H1 => NwL H1 xs fun p H' => Q (.ref p) H') : tLst tA σ H Q := by
  have e : (fun (xs : List V) (H1 : Hp) => NwL H1 xs fun p H' => Q (.ref p) H') = fun xs H1 => xs.length ≤ sizeLine ∧ ∀ p, H1 p = none → Q (.ref p) (upd H1 p (.lst xs)) := by
    funext xs H1
    exact propext ⟨fun z => ⟨z.1, fun p hp => z.2 p _ hp rfl⟩, fun z => ⟨z.1, fun p H' hp e => by rw [e]; exact z.2 p hp⟩⟩
  rw [e] at h
  exact h
theorem x_newT {xs : List V} (hl : xs.length ≤ sizeLine) (q : ∀ p H', H p = none → H' p = some (.tup xs) → Ch [] H H' → Q (.ref p) H') : xs.length ≤ sizeLine ∧ ∀ p, H p = none → Q (.ref p) (upd H p (.tup xs)) :=
  ⟨hl, fun p hp => q p _ hp upd_same (Ch.new hp)⟩
theorem x_newL {xs : List V} (hl : xs.length ≤ sizeLine) (q : ∀ p H', H p = none → H' p = some (.lst xs) → Ch [] H H' → Q (.ref p) H') : xs.length ≤ sizeLine ∧ ∀ p, H p = none → Q (.ref p) (upd H p (.lst xs)) :=
  ⟨hl, fun p hp => q p _ hp upd_same (Ch.new hp)⟩
theorem x_call {sp : Sp} {E : XK} (h : tA σ H fun vs H1 => sp (vs ++ []) H1 Q E) : tCall sp [] E tA σ H Q := h
theorem x_CB {r : List V → Hp → VK → Prop} (h : tA σ H fun vs H1 => r vs H1 Q) : tCB r tA σ H Q := h
theorem x_sp {sp : Sp} {E : XK} {vs ws : List V} (e : vs ++ [] = ws) (h : sp ws H Q E) : sp (vs ++ []) H Q E := by subst e; exact h
-- operators by values
theorem x_addI (q : Q (.int (i + j)) H) : rAdd K (.int i) (.int j) H Q := .inl ⟨i, j, rfl, rfl, q⟩
theorem x_addS {z w : Str} (h : z.length + w.length ≤ sizeLine) (q : Q (.str (z ++ w)) H) : rAdd K (.str z) (.str w) H Q := .inr (.inl ⟨z, w, rfl, rfl, h, q⟩)
theorem x_addL {l m : Addr} {xs ys : List V} (hl : H l = some (.lst xs)) (hm : H m = some (.lst ys)) (hz : xs.length + ys.length ≤ sizeLine) (q : ∀ p H', H p = none → H' p = some (.lst (xs ++ ys)) → Ch [] H H' → Q (.ref p) H') : rAdd K (.ref l) (.ref m) H Q :=
  .inr (.inr (.inl ⟨l, m, xs, ys, rfl, rfl, hl, hm, hz, fun p hp => q p _ hp upd_same (Ch.new hp)⟩))
theorem x_addT {l m : Addr} {xs ys : List V} (hl : SqT K H l xs) (hm : SqT K H m ys) (hz : xs.length + ys.length ≤ sizeLine) (q : ∀ p H', SqT K H' p (xs ++ ys) → Ch [] H H' → Q (.ref p) H') : rAdd K (.ref l) (.ref m) H Q := by
  refine .inr (.inr (.inr ⟨l, m, xs, ys, rfl, rfl, hl, hm, hz, fun e => ?_, fun _ e => ?_, fun _ _ p hp => ?_⟩))
  · subst e
    exact q m H hm (Ch.refl H)
  · subst e
    exact q l H (by rw [List.append_nil]; exact hl) (Ch.refl H)
  · exact q p _ (SqT.of upd_same) (Ch.new hp)
theorem x_sub (q : Q (.int (i - j)) H) : rSubI (.int i) (.int j) H Q := ⟨i, j, rfl, rfl, q⟩
theorem x_mul (h : (-(2 ^ 64) < i ∧ i < 2 ^ 64) ∨ (-(2 ^ 64) < j ∧ j < 2 ^ 64)) (q : Q (.int (i * j)) H) : rMulI (.int i) (.int j) H Q := ⟨i, j, rfl, rfl, h, q⟩
theorem x_mod (h : 0 < j) (q : Q (.int (i % j)) H) : rModI (.int i) (.int j) H Q := ⟨i, j, rfl, rfl, h, q⟩
theorem x_div (h : 0 < j ∧ j < 1073741824) (q : Q (.int (i / j)) H) : rDivI (.int i) (.int j) H Q := ⟨i, j, rfl, rfl, h, q⟩
theorem x_pow (h : 0 ≤ j ∧ j ≤ 1000000 ∧ i.natAbs < 2 ^ 64) (q : Q (.int (i ^ j.toNat)) H) : rPowI (.int i) (.int j) H Q := ⟨i, j, rfl, rfl, h, q⟩
theorem x_lt (q : Q (.bl (decide (i < j))) H) : rLtI (.int i) (.int j) H Q := ⟨i, j, rfl, rfl, q⟩
theorem x_le (q : Q (.bl (decide (i ≤ j))) H) : rLeI (.int i) (.int j) H Q := ⟨i, j, rfl, rfl, q⟩
theorem x_gt (q : Q (.bl (decide (j < i))) H) : rGtI (.int i) (.int j) H Q := ⟨i, j, rfl, rfl, q⟩
theorem x_ge (q : Q (.bl (decide (j ≤ i))) H) : rGeI (.int i) (.int j) H Q := ⟨i, j, rfl, rfl, q⟩
theorem x_ltS {z w : Str} (q : Q (.bl (decide (z.cps.toList < w.cps.toList))) H) : rLtS (.str z) (.str w) H Q := ⟨z, w, rfl, rfl, q⟩
theorem deq_int : decide (V.int i = V.int j) = decide (i = j) := by
  rw [Bool.eq_iff_iff]; simp
theorem deq_str {z w : Str} : decide (V.str z = V.str w) = decide (z = w) := by
  rw [Bool.eq_iff_iff]; simp
theorem deq_bl {z w : Bool} : decide (V.bl z = V.bl w) = decide (z = w) := by
  rw [Bool.eq_iff_iff]; simp
theorem x_eqI (q : Q (.bl (decide (i = j))) H) : rEqU K (.int i) (.int j) H Q := .inl ⟨rfl, by rw [deq_int]; exact q⟩
theorem x_eqS {z w : Str} (q : Q (.bl (decide (z = w))) H) : rEqU K (.str z) (.str w) H Q := .inl ⟨rfl, by rw [deq_str]; exact q⟩
theorem x_eqB {z w : Bool} (q : Q (.bl (decide (z = w))) H) : rEqU K (.bl z) (.bl w) H Q := .inl ⟨rfl, by rw [deq_bl]; exact q⟩
theorem x_neI (q : Q (.bl (!decide (i = j))) H) : rNeU K (.int i) (.int j) H Q := .inl ⟨rfl, by rw [deq_int]; exact q⟩
theorem x_neS {z w : Str} (q : Q (.bl (!decide (z = w))) H) : rNeU K (.str z) (.str w) H Q := .inl ⟨rfl, by rw [deq_str]; exact q⟩
theorem x_isN (q : Q (.bl (decide (x = .non))) H) : rIsNo x .non H Q := ⟨rfl, q⟩
theorem x_notN (q : Q (.bl (!decide (x = .non))) H) : rNotNo x .non H Q := ⟨rfl, q⟩
theorem x_inSg {c : Nat} {z : Str} (q : Q (.bl (decide (c ∈ z.cps.toList))) H) : rInU K (.str ⟨#[c]⟩) (.str z) H Q := .inl ⟨c, z, rfl, rfl, q⟩
theorem x_notInSg {c : Nat} {z : Str} (q : Q (.bl (!decide (c ∈ z.cps.toList))) H) : rNotInU K (.str ⟨#[c]⟩) (.str z) H Q := .inl ⟨c, z, rfl, rfl, q⟩
theorem x_inL {p : Addr} {xs : List V} (h : SqL K H p xs) (hx : flatV x = true) (ha : xs.all flatV = true) (q : Q (.bl (inV x xs)) H) : rInU K x (.ref p) H Q := .inr ⟨p, xs, rfl, .inl h, hx, ha, q⟩
theorem x_inT {p : Addr} {xs : List V} (h : SqT K H p xs) (hx : flatV x = true) (ha : xs.all flatV = true) (q : Q (.bl (inV x xs)) H) : rInU K x (.ref p) H Q := .inr ⟨p, xs, rfl, .inr h, hx, ha, q⟩
theorem x_notInL {p : Addr} {xs : List V} (h : SqL K H p xs) (hx : flatV x = true) (ha : xs.all flatV = true) (q : Q (.bl (!inV x xs)) H) : rNotInU K x (.ref p) H Q := .inr ⟨p, xs, rfl, .inl h, hx, ha, q⟩
theorem x_notInT {p : Addr} {xs : List V} (h : SqT K H p xs) (hx : flatV x = true) (ha : xs.all flatV = true) (q : Q (.bl (!inV x xs)) H) : rNotInU K x (.ref p) H Q := .inr ⟨p, xs, rfl, .inr h, hx, ha, q⟩
-- subscripts
theorem x_ixL {p : Addr} {xs : List V} {k : Nat} (h : SqL K H p xs) (e : i = (k : Int)) (ha : xs[k]? = some v) (q : Q v H) : rIx K (.ref p) (.int i) H Q := .inl ⟨p, xs, i, v, rfl, rfl, h, by subst e; exact atI_nat ha, q⟩
theorem x_ixT {p : Addr} {xs : List V} {k : Nat} (h : SqT K H p xs) (e : i = (k : Int)) (ha : xs[k]? = some v) (q : Q v H) : rIx K (.ref p) (.int i) H Q := .inr (.inl ⟨p, xs, i, v, rfl, rfl, h, by subst e; exact atI_nat ha, q⟩)
theorem x_ixS {z : Str} {k c : Nat} (hz : z.length ≤ sizeLine) (e : i = (k : Int)) (ha : z.cps.toList[k]? = some c) (q : Q (.str ⟨#[c]⟩) H) : rIx K (.str z) (.int i) H Q := .inr (.inr ⟨z, i, c, rfl, rfl, hz, by subst e; exact atI_nat ha, q⟩)
-- built-ins
theorem x_lenL {p : Addr} {xs : List V} (h : SqL K H p xs) (q : Q (.int (xs.length : Int)) H) : rLenC K [.ref p] H Q := ⟨_, _, rfl, .inl ⟨xs, h, rfl⟩, q⟩
theorem x_lenT {p : Addr} {xs : List V} (h : SqT K H p xs) (q : Q (.int (xs.length : Int)) H) : rLenC K [.ref p] H Q := ⟨_, _, rfl, .inr ⟨xs, h, rfl⟩, q⟩
theorem x_lenS {z : Str} (h : z.length ≤ sizeLine) (q : Q (.int (z.length : Int)) H) : rLenC K [.str z] H Q := ⟨.str z, z.length, rfl, ⟨h, rfl⟩, q⟩
theorem x_int (q : Q (.int i) H) : rIntC [.int i] H Q := .inl ⟨i, rfl, q⟩
theorem x_listL {p : Addr} {xs : List V} (h : SqL K H p xs) (q : ∀ l H', H l = none → H' l = some (.lst xs) → Ch [] H H' → Q (.ref l) H') : rListC K [.ref p] H Q := ⟨p, xs, rfl, .inl h, fun l hl => q l _ hl upd_same (Ch.new hl)⟩
theorem x_listT {p : Addr} {xs : List V} (h : SqT K H p xs) (q : ∀ l H', H l = none → H' l = some (.lst xs) → Ch [] H H' → Q (.ref l) H') : rListC K [.ref p] H Q := ⟨p, xs, rfl, .inr h, fun l hl => q l _ hl upd_same (Ch.new hl)⟩
theorem x_tupL {p : Addr} {xs : List V} (h : SqL K H p xs) (q : ∀ l H', H l = none → H' l = some (.tup xs) → Ch [] H H' → Q (.ref l) H') : rTupC K [.ref p] H Q := ⟨p, xs, rfl, .inl ⟨h, fun l hl => q l _ hl upd_same (Ch.new hl)⟩⟩
theorem x_tupT {p : Addr} {xs : List V} (h : SqT K H p xs) (q : Q (.ref p) H) : rTupC K [.ref p] H Q := ⟨p, xs, rfl, .inr ⟨h, q⟩⟩
-- list methods
theorem x_append {l : Addr} {xs : List V} (hl : H l = some (.lst xs)) (hz : xs.length < sizeLine) (q : ∀ H', H' l = some (.lst (xs ++ [v])) → Ch [l] H H' → Q .non H') : rAppend (.ref l) [v] H Q :=
  ⟨l, xs, v, rfl, rfl, hl, hz, q _ upd_same (Ch.mut hl rfl)⟩
-- o[i] = e on a list
theorem x_setL {l : Addr} {xs : List V} {k : Nat} {QH : Hp → Prop} (hl : H l = some (.lst xs)) (e : i = (k : Int)) (hk : k < xs.length) (q : ∀ H', H' l = some (.lst (xs.set k v)) → Ch [l] H H' → QH H') : rSetL (.ref l) (.int i) v H QH :=
  ⟨l, xs, i, k, rfl, rfl, hl, by subst e; exact Evl.ixN_nat hk, q _ upd_same (Ch.mut hl rfl)⟩
theorem x_gsub {to ti : TE} {tS : TSet} {Qs : L2.St → Hp → Prop} (h : to σ H fun o H1 => ti σ H1 fun i H2 => tS o i v H2 fun H3 => Qs σ H3) : gSub to ti tS v σ H Qs := h
end
end U

set_option Elab.async false
set_option linter.all false
set_option maxRecDepth 100000
set_option maxHeartbeats 4000000
namespace U
open PySem PySem.Spec PyProof.Rows L2
theorem bb_len : bootBuiltins "len" = some (.builtin "len") := by decide +kernel
theorem bb_isinstance : bootBuiltins "isinstance" = some (.builtin "isinstance") := by decide +kernel
theorem bb_sorted : bootBuiltins "sorted" = some (.builtin "sorted") := by decide +kernel
theorem bb_iter : bootBuiltins "iter" = some (.builtin "iter") := by decide +kernel
theorem bb_sum : bootBuiltins "sum" = some (.builtin "sum") := by decide +kernel
theorem bb_max : bootBuiltins "max" = some (.builtin "max") := by decide +kernel
theorem bb_min : bootBuiltins "min" = some (.builtin "min") := by decide +kernel
theorem bb_int : bootBuiltins "int" = some (.type "int") := by decide +kernel
theorem bb_str : bootBuiltins "str" = some (.type "str") := by decide +kernel
theorem bb_bool : bootBuiltins "bool" = some (.type "bool") := by decide +kernel
theorem bb_list : bootBuiltins "list" = some (.type "list") := by decide +kernel
theorem bb_tuple : bootBuiltins "tuple" = some (.type "tuple") := by decide +kernel
theorem bb_dict : bootBuiltins "dict" = some (.type "dict") := by decide +kernel
theorem bb_set : bootBuiltins "set" = some (.type "set") := by decide +kernel
theorem hu64 {A : Around} {k : Nat} (hr : Room k A) : A.units + 64 < cLine := hr.units
section
variable {X : Cx}
def rSlU (K : PySem.W.Frag) : V → Option Int → Option Int → Hp → VK → Prop := fun x lo hi H Q => rSlL K x lo hi H Q ∨ (rSlS x lo hi H Q ∨ rSlA K x lo hi H Q)
theorem u_slice : SlR X (rSlU X.K) := SlR.or sl_list (SlR.or sl_str sl_tupA)
end
section
variable {K : PySem.W.Frag} {σ σ' : L2.St} {H : Hp} {Q : VK} {v x y : V} {i j : Int} {n : Nat} {te : TE} {lo hi : Option Int} {tl th : TO} {QO : Option Int → Hp → Prop} {N : List Str} {vs : List V} {ts : TS} {D : Ends}
theorem x_start (e : start N vs = σ) (h : ts D σ H) : ts D (start N vs) H := by subst e; exact h
theorem x_sl {r : V → Option Int → Option Int → Hp → VK → Prop} (h : te σ H fun x H1 => tl σ H1 fun lo H2 => th σ H2 fun hi H3 => r x lo hi H3 Q) : tSl r te tl th σ H Q := h
theorem x_po0 (h : QO none H) : tNoPart σ H QO := h
theorem x_po1 (h : te σ H fun x H1 => ∃ i, x = .int i ∧ QO (some i) H1) : tPart te σ H QO := h
theorem x_exI {P : Int → Prop} (h : P i) : ∃ k, V.int i = V.int k ∧ P k := ⟨i, rfl, h⟩
theorem x_slL {p : Addr} {xs : List V} (h : SqL K H p xs) (q : ∀ l H', H l = none → H' l = some (.lst (cutV xs lo hi)) → Ch [] H H' → Q (.ref l) H') : rSlU K (.ref p) lo hi H Q := .inl ⟨p, xs, rfl, h, fun l hl => q l _ hl upd_same (Ch.new hl)⟩
theorem x_slS {z : Str} (h : z.length ≤ sizeLine) (q : Q (.str (cutS z lo hi)) H) : rSlU K (.str z) lo hi H Q := .inr (.inl ⟨z, rfl, h, q⟩)
theorem x_slT {p : Addr} {xs : List V} (h : SqT K H p xs) (q : ∀ l H', SqT K H' l (cutV xs lo hi) → Ch [] H H' → Q (.ref l) H') : rSlU K (.ref p) lo hi H Q := by
  refine .inr (.inr ⟨p, xs, rfl, h, fun e => ?_, fun _ l hl => q l _ (SqT.of upd_same) (Ch.new hl)⟩)
  refine q p H ?_ (Ch.refl H)
  have e2 : cutV xs lo hi = xs := by
    unfold cutV
    rw [e.1, e.2]
    simp
  rw [e2]
  exact h
theorem x_BM {T : String} {r : V → List V → Hp → VK → Prop} {tA : TA} (h : te σ H fun x H1 => tyV K T x H1 ∧ tA σ H1 fun xs H2 => r x xs H2 Q) : tBM K T r te tA σ H Q := h
theorem x_BM0 {T : String} {r : V → List V → Hp → VK → Prop} (h : te σ H fun x H1 => tyV K T x H1 ∧ r x [] H1 Q) : tBM0 K T r te σ H Q := h
theorem x_tyL {a : Addr} {xs : List V} {P : Prop} (h : SqL K H a xs) (q : P) : tyV K "list" (.ref a) H ∧ P := ⟨.inl ⟨rfl, _, h⟩, q⟩
theorem x_tyL' {a : Addr} {xs : List V} {P : Prop} (h : H a = some (.lst xs)) (q : P) : tyV K "list" (.ref a) H ∧ P := ⟨.inl ⟨rfl, _, SqL.of h⟩, q⟩
-- isinstance with a built-in type
theorem x_isi {x : V} {t : Value} {T : String} {b : Bool} (h : TyX K H x t) (e : PySem.W.kitOne K t (.type T) = some b) (q : Q (.bl b) H) : rIsi K [x, .ty T] H Q := ⟨x, .ty T, t, _, b, rfl, .ty T, h, e, q⟩
end
section
variable {x : V} {H : Hp} {Qs : L2.St → Hp → Prop} {t : L2.St} {te : TE} {ip : TIp} {v : V} {nx bk ct : L2.St → Hp → Prop} {rt : VK} {a0 a1 a2 a3 a4 a5 a6 a7 a8 a9 a10 a11 a12 a13 a14 a15 a16 a17 a18 a19 a20 a21 a22 a23 : Option V}
theorem x_name0 (q : Qs (some x :: t) H) : gName 0 x (a0 :: t) H Qs := q
theorem x_aug0 (q : te (some v :: t) H fun y H1 => ip v y H1 fun z H2 => nx (some z :: t) H2) : tAug 0 te ip ⟨nx, rt, bk, ct⟩ (some v :: t) H := ⟨v, rfl, q⟩
theorem x_name1 (q : Qs (a0 :: some x :: t) H) : gName 1 x (a0 :: a1 :: t) H Qs := q
theorem x_aug1 (q : te (a0 :: some v :: t) H fun y H1 => ip v y H1 fun z H2 => nx (a0 :: some z :: t) H2) : tAug 1 te ip ⟨nx, rt, bk, ct⟩ (a0 :: some v :: t) H := ⟨v, rfl, q⟩
theorem x_name2 (q : Qs (a0 :: a1 :: some x :: t) H) : gName 2 x (a0 :: a1 :: a2 :: t) H Qs := q
theorem x_aug2 (q : te (a0 :: a1 :: some v :: t) H fun y H1 => ip v y H1 fun z H2 => nx (a0 :: a1 :: some z :: t) H2) : tAug 2 te ip ⟨nx, rt, bk, ct⟩ (a0 :: a1 :: some v :: t) H := ⟨v, rfl, q⟩
theorem x_name3 (q : Qs (a0 :: a1 :: a2 :: some x :: t) H) : gName 3 x (a0 :: a1 :: a2 :: a3 :: t) H Qs := q
theorem x_aug3 (q : te (a0 :: a1 :: a2 :: some v :: t) H fun y H1 => ip v y H1 fun z H2 => nx (a0 :: a1 :: a2 :: some z :: t) H2) : tAug 3 te ip ⟨nx, rt, bk, ct⟩ (a0 :: a1 :: a2 :: some v :: t) H := ⟨v, rfl, q⟩
theorem x_name4 (q : Qs (a0 :: a1 :: a2 :: a3 :: some x :: t) H) : gName 4 x (a0 :: a1 :: a2 :: a3 :: a4 :: t) H Qs := q
theorem x_aug4 (q : te (a0 :: a1 :: a2 :: a3 :: some v :: t) H fun y H1 => ip v y H1 fun z H2 => nx (a0 :: a1 :: a2 :: a3 :: some z :: t) H2) : tAug 4 te ip ⟨nx, rt, bk, ct⟩ (a0 :: a1 :: a2 :: a3 :: some v :: t) H := ⟨v, rfl, q⟩
theorem x_name5 (q : Qs (a0 :: a1 :: a2 :: a3 :: a4 :: some x :: t) H) : gName 5 x (a0 :: a1 :: a2 :: a3 :: a4 :: a5 :: t) H Qs := q
theorem x_aug5 (q : te (a0 :: a1 :: a2 :: a3 :: a4 :: some v :: t) H fun y H1 => ip v y H1 fun z H2 => nx (a0 :: a1 :: a2 :: a3 :: a4 :: some z :: t) H2) : tAug 5 te ip ⟨nx, rt, bk, ct⟩ (a0 :: a1 :: a2 :: a3 :: a4 :: some v :: t) H := ⟨v, rfl, q⟩
theorem x_name6 (q : Qs (a0 :: a1 :: a2 :: a3 :: a4 :: a5 :: some x :: t) H) : gName 6 x (a0 :: a1 :: a2 :: a3 :: a4 :: a5 :: a6 :: t) H Qs := q
theorem x_aug6 (q : te (a0 :: a1 :: a2 :: a3 :: a4 :: a5 :: some v :: t) H fun y H1 => ip v y H1 fun z H2 => nx (a0 :: a1 :: a2 :: a3 :: a4 :: a5 :: some z :: t) H2) : tAug 6 te ip ⟨nx, rt, bk, ct⟩ (a0 :: a1 :: a2 :: a3 :: a4 :: a5 :: some v :: t) H := ⟨v, rfl, q⟩
theorem x_name7 (q : Qs (a0 :: a1 :: a2 :: a3 :: a4 :: a5 :: a6 :: some x :: t) H) : gName 7 x (a0 :: a1 :: a2 :: a3 :: a4 :: a5 :: a6 :: a7 :: t) H Qs := q
theorem x_aug7 (q : te (a0 :: a1 :: a2 :: a3 :: a4 :: a5 :: a6 :: some v :: t) H fun y H1 => ip v y H1 fun z H2 => nx (a0 :: a1 :: a2 :: a3 :: a4 :: a5 :: a6 :: some z :: t) H2) : tAug 7 te ip ⟨nx, rt, bk, ct⟩ (a0 :: a1 :: a2 :: a3 :: a4 :: a5 :: a6 :: some v :: t) H := ⟨v, rfl, q⟩
theorem x_name8 (q : Qs (a0 :: a1 :: a2 :: a3 :: a4 :: a5 :: a6 :: a7 :: some x :: t) H) : gName 8 x (a0 :: a1 :: a2 :: a3 :: a4 :: a5 :: a6 :: a7 :: a8 :: t) H Qs := q
theorem x_aug8 (q : te (a0 :: a1 :: a2 :: a3 :: a4 :: a5 :: a6 :: a7 :: some v :: t) H fun y H1 => ip v y H1 fun z H2 => nx (a0 :: a1 :: a2 :: a3 :: a4 :: a5 :: a6 :: a7 :: some z :: t) H2) : tAug 8 te ip ⟨nx, rt, bk, ct⟩ (a0 :: a1 :: a2 :: a3 :: a4 :: a5 :: a6 :: a7 :: some v :: t) H := ⟨v, rfl, q⟩
theorem x_name9 (q : Qs (a0 :: a1 :: a2 :: a3 :: a4 :: a5 :: a6 :: a7 :: a8 :: some x :: t) H) : gName 9 x (a0 :: a1 :: a2 :: a3 :: a4 :: a5 :: a6 :: a7 :: a8 :: a9 :: t) H Qs := q
theorem x_aug9 (q : te (a0 :: a1 :: a2 :: a3 :: a4 :: a5 :: a6 :: a7 :: a8 :: some v :: t) H fun y H1 => ip v y H1 fun z H2 => nx (a0 :: a1 :: a2 :: a3 :: a4 :: a5 :: a6 :: a7 :: a8 :: some z :: t) H2) : tAug 9 te ip ⟨nx, rt, bk, ct⟩ (a0 :: a1 :: a2 :: a3 :: a4 :: a5 :: a6 :: a7 :: a8 :: some v :: t) H := ⟨v, rfl, q⟩
theorem x_name10 (q : Qs (a0 :: a1 :: a2 :: a3 :: a4 :: a5 :: a6 :: a7 :: a8 :: a9 :: some x :: t) H) : gName 10 x (a0 :: a1 :: a2 :: a3 :: a4 :: a5 :: a6 :: a7 :: a8 :: a9 :: a10 :: t) H Qs := q
theorem x_aug10 (q : te (a0 :: a1 :: a2 :: a3 :: a4 :: a5 :: a6 :: a7 :: a8 :: a9 :: some v :: t) H fun y H1 => ip v y H1 fun z H2 => nx (a0 :: a1 :: a2 :: a3 :: a4 :: a5 :: a6 :: a7 :: a8 :: a9 :: some z :: t) H2) : tAug 10 te ip ⟨nx, rt, bk, ct⟩ (a0 :: a1 :: a2 :: a3 :: a4 :: a5 :: a6 :: a7 :: a8 :: a9 :: some v :: t) H := ⟨v, rfl, q⟩
theorem x_name11 (q : Qs (a0 :: a1 :: a2 :: a3 :: a4 :: a5 :: a6 :: a7 :: a8 :: a9 :: a10 :: some x :: t) H) : gName 11 x (a0 :: a1 :: a2 :: a3 :: a4 :: a5 :: a6 :: a7 :: a8 :: a9 :: a10 :: a11 :: t) H Qs := q
theorem x_aug11 (q : te (a0 :: a1 :: a2 :: a3 :: a4 :: a5 :: a6 :: a7 :: a8 :: a9 :: a10 :: some v :: t) H fun y H1 => ip v y H1 fun z H2 => nx (a0 :: a1 :: a2 :: a3 :: a4 :: a5 :: a6 :: a7 :: a8 :: a9 :: a10 :: some z :: t) H2) : tAug 11 te ip ⟨nx, rt, bk, ct⟩ (a0 :: a1 :: a2 :: a3 :: a4 :: a5 :: a6 :: a7 :: a8 :: a9 :: a10 :: some v :: t) H := ⟨v, rfl, q⟩
theorem x_name12 (q : Qs (a0 :: a1 :: a2 :: a3 :: a4 :: a5 :: a6 :: a7 :: a8 :: a9 :: a10 :: a11 :: some x :: t) H) : gName 12 x (a0 :: a1 :: a2 :: a3 :: a4 :: a5 :: a6 :: a7 :: a8 :: a9 :: a10 :: a11 :: a12 :: t) H Qs := q
theorem x_aug12 (q : te (a0 :: a1 :: a2 :: a3 :: a4 :: a5 :: a6 :: a7 :: a8 :: a9 :: a10 :: a11 :: some v :: t) H fun y H1 => ip v y H1 fun z H2 => nx (a0 :: a1 :: a2 :: a3 :: a4 :: a5 :: a6 :: a7 :: a8 :: a9 :: a10 :: a11 :: some z :: t) H2) : tAug 12 te ip ⟨nx, rt, bk, ct⟩ (a0 :: a1 :: a2 :: a3 :: a4 :: a5 :: a6 :: a7 :: a8 :: a9 :: a10 :: a11 :: some v :: t) H := ⟨v, rfl, q⟩
theorem x_name13 (q : Qs (a0 :: a1 :: a2 :: a3 :: a4 :: a5 :: a6 :: a7 :: a8 :: a9 :: a10 :: a11 :: a12 :: some x :: t) H) : gName 13 x (a0 :: a1 :: a2 :: a3 :: a4 :: a5 :: a6 :: a7 :: a8 :: a9 :: a10 :: a11 :: a12 :: a13 :: t) H Qs := q
theorem x_aug13 (q : te (a0 :: a1 :: a2 :: a3 :: a4 :: a5 :: a6 :: a7 :: a8 :: a9 :: a10 :: a11 :: a12 :: some v :: t) H fun y H1 => ip v y H1 fun z H2 => nx (a0 :: a1 :: a2 :: a3 :: a4 :: a5 :: a6 :: a7 :: a8 :: a9 :: a10 :: a11 :: a12 :: some z :: t) H2) : tAug 13 te ip ⟨nx, rt, bk, ct⟩ (a0 :: a1 :: a2 :: a3 :: a4 :: a5 :: a6 :: a7 :: a8 :: a9 :: a10 :: a11 :: a12 :: some v :: t) H := ⟨v, rfl, q⟩
theorem x_name14 (q : Qs (a0 :: a1 :: a2 :: a3 :: a4 :: a5 :: a6 :: a7 :: a8 :: a9 :: a10 :: a11 :: a12 :: a13 :: some x :: t) H) : gName 14 x (a0 :: a1 :: a2 :: a3 :: a4 :: a5 :: a6 :: a7 :: a8 :: a9 :: a10 :: a11 :: a12 :: a13 :: a14 :: t) H Qs := q
theorem x_aug14 (q : te (a0 :: a1 :: a2 :: a3 :: a4 :: a5 :: a6 :: a7 :: a8 :: a9 :: a10 :: a11 :: a12 :: a13 :: some v :: t) H fun y H1 => ip v y H1 fun z H2 => nx (a0 :: a1 :: a2 :: a3 :: a4 :: a5 :: a6 :: a7 :: a8 :: a9 :: a10 :: a11 :: a12 :: a13 :: some z :: t) H2) : tAug 14 te ip ⟨nx, rt, bk, ct⟩ (a0 :: a1 :: a2 :: a3 :: a4 :: a5 :: a6 :: a7 :: a8 :: a9 :: a10 :: a11 :: a12 :: a13 :: some v :: t) H := ⟨v, rfl, q⟩
theorem x_name15 (q : Qs (a0 :: a1 :: a2 :: a3 :: a4 :: a5 :: a6 :: a7 :: a8 :: a9 :: a10 :: a11 :: a12 :: a13 :: a14 :: some x :: t) H) : gName 15 x (a0 :: a1 :: a2 :: a3 :: a4 :: a5 :: a6 :: a7 :: a8 :: a9 :: a10 :: a11 :: a12 :: a13 :: a14 :: a15 :: t) H Qs := q
theorem x_aug15 (q : te (a0 :: a1 :: a2 :: a3 :: a4 :: a5 :: a6 :: a7 :: a8 :: a9 :: a10 :: a11 :: a12 :: a13 :: a14 :: some v :: t) H fun y H1 => ip v y H1 fun z H2 => nx (a0 :: a1 :: a2 :: a3 :: a4 :: a5 :: a6 :: a7 :: a8 :: a9 :: a10 :: a11 :: a12 :: a13 :: a14 :: some z :: t) H2) : tAug 15 te ip ⟨nx, rt, bk, ct⟩ (a0 :: a1 :: a2 :: a3 :: a4 :: a5 :: a6 :: a7 :: a8 :: a9 :: a10 :: a11 :: a12 :: a13 :: a14 :: some v :: t) H := ⟨v, rfl, q⟩
theorem x_name16 (q : Qs (a0 :: a1 :: a2 :: a3 :: a4 :: a5 :: a6 :: a7 :: a8 :: a9 :: a10 :: a11 :: a12 :: a13 :: a14 :: a15 :: some x :: t) H) : gName 16 x (a0 :: a1 :: a2 :: a3 :: a4 :: a5 :: a6 :: a7 :: a8 :: a9 :: a10 :: a11 :: a12 :: a13 :: a14 :: a15 :: a16 :: t) H Qs := q
theorem x_aug16 (q : te (a0 :: a1 :: a2 :: a3 :: a4 :: a5 :: a6 :: a7 :: a8 :: a9 :: a10 :: a11 :: a12 :: a13 :: a14 :: a15 :: some v :: t) H fun y H1 => ip v y H1 fun z H2 => nx (a0 :: a1 :: a2 :: a3 :: a4 :: a5 :: a6 :: a7 :: a8 :: a9 :: a10 :: a11 :: a12 :: a13 :: a14 :: a15 :: some z :: t) H2) : tAug 16 te ip ⟨nx, rt, bk, ct⟩ (a0 :: a1 :: a2 :: a3 :: a4 :: a5 :: a6 :: a7 :: a8 :: a9 :: a10 :: a11 :: a12 :: a13 :: a14 :: a15 :: some v :: t) H := ⟨v, rfl, q⟩
theorem x_name17 (q : Qs (a0 :: a1 :: a2 :: a3 :: a4 :: a5 :: a6 :: a7 :: a8 :: a9 :: a10 :: a11 :: a12 :: a13 :: a14 :: a15 :: a16 :: some x :: t) H) : gName 17 x (a0 :: a1 :: a2 :: a3 :: a4 :: a5 :: a6 :: a7 :: a8 :: a9 :: a10 :: a11 :: a12 :: a13 :: a14 :: a15 :: a16 :: a17 :: t) H Qs := q
theorem x_aug17 (q : te (a0 :: a1 :: a2 :: a3 :: a4 :: a5 :: a6 :: a7 :: a8 :: a9 :: a10 :: a11 :: a12 :: a13 :: a14 :: a15 :: a16 :: some v :: t) H fun y H1 => ip v y H1 fun z H2 => nx (a0 :: a1 :: a2 :: a3 :: a4 :: a5 :: a6 :: a7 :: a8 :: a9 :: a10 :: a11 :: a12 :: a13 :: a14 :: a15 :: a16 :: some z :: t) H2) : tAug 17 te ip ⟨nx, rt, bk, ct⟩ (a0 :: a1 :: a2 :: a3 :: a4 :: a5 :: a6 :: a7 :: a8 :: a9 :: a10 :: a11 :: a12 :: a13 :: a14 :: a15 :: a16 :: some v :: t) H := ⟨v, rfl, q⟩
theorem x_name18 (q : Qs (a0 :: a1 :: a2 :: a3 :: a4 :: a5 :: a6 :: a7 :: a8 :: a9 :: a10 :: a11 :: a12 :: a13 :: a14 :: a15 :: a16 :: a17 :: some x :: t) H) : gName 18 x (a0 :: a1 :: a2 :: a3 :: a4 :: a5 :: a6 :: a7 :: a8 :: a9 :: a10 :: a11 :: a12 :: a13 :: a14 :: a15 :: a16 :: a17 :: a18 :: t) H Qs := q
theorem x_aug18 (q : te (a0 :: a1 :: a2 :: a3 :: a4 :: a5 :: a6 :: a7 :: a8 :: a9 :: a10 :: a11 :: a12 :: a13 :: a14 :: a15 :: a16 :: a17 :: some v :: t) H fun y H1 => ip v y H1 fun z H2 => nx (a0 :: a1 :: a2 :: a3 :: a4 :: a5 :: a6 :: a7 :: a8 :: a9 :: a10 :: a11 :: a12 :: a13 :: a14 :: a15 :: a16 :: a17 :: some z :: t) H2) : tAug 18 te ip ⟨nx, rt, bk, ct⟩ (a0 :: a1 :: a2 :: a3 :: a4 :: a5 :: a6 :: a7 :: a8 :: a9 :: a10 :: a11 :: a12 :: a13 :: a14 :: a15 :: a16 :: a17 :: some v :: t) H := ⟨v, rfl, q⟩
theorem x_name19 (q : Qs (a0 :: a1 :: a2 :: a3 :: a4 :: a5 :: a6 :: a7 :: a8 :: a9 :: a10 :: a11 :: a12 :: a13 :: a14 :: a15 :: a16 :: a17 :: a18 :: some x :: t) H) : gName 19 x (a0 :: a1 :: a2 :: a3 :: a4 :: a5 :: a6 :: a7 :: a8 :: a9 :: a10 :: a11 :: a12 :: a13 :: a14 :: a15 :: a16 :: a17 :: a18 :: a19 :: t) H Qs := q
theorem x_aug19 (q : te (a0 :: a1 :: a2 :: a3 :: a4 :: a5 :: a6 :: a7 :: a8 :: a9 :: a10 :: a11 :: a12 :: a13 :: a14 :: a15 :: a16 :: a17 :: a18 :: some v :: t) H fun y H1 => ip v y H1 fun z H2 => nx (a0 :: a1 :: a2 :: a3 :: a4 :: a5 :: a6 :: a7 :: a8 :: a9 :: a10 :: a11 :: a12 :: a13 :: a14 :: a15 :: a16 :: a17 :: a18 :: some z :: t) H2) : tAug 19 te ip ⟨nx, rt, bk, ct⟩ (a0 :: a1 :: a2 :: a3 :: a4 :: a5 :: a6 :: a7 :: a8 :: a9 :: a10 :: a11 :: a12 :: a13 :: a14 :: a15 :: a16 :: a17 :: a18 :: some v :: t) H := ⟨v, rfl, q⟩
theorem x_name20 (q : Qs (a0 :: a1 :: a2 :: a3 :: a4 :: a5 :: a6 :: a7 :: a8 :: a9 :: a10 :: a11 :: a12 :: a13 :: a14 :: a15 :: a16 :: a17 :: a18 :: a19 :: some x :: t) H) : gName 20 x (a0 :: a1 :: a2 :: a3 :: a4 :: a5 :: a6 :: a7 :: a8 :: a9 :: a10 :: a11 :: a12 :: a13 :: a14 :: a15 :: a16 :: a17 :: a18 :: a19 :: a20 :: t) H Qs := q
theorem x_aug20 (q : te (a0 :: a1 :: a2 :: a3 :: a4 :: a5 :: a6 :: a7 :: a8 :: a9 :: a10 :: a11 :: a12 :: a13 :: a14 :: a15 :: a16 :: a17 :: a18 :: a19 :: some v :: t) H fun y H1 => ip v y H1 fun z H2 => nx (a0 :: a1 :: a2 :: a3 :: a4 :: a5 :: a6 :: a7 :: a8 :: a9 :: a10 :: a11 :: a12 :: a13 :: a14 :: a15 :: a16 :: a17 :: a18 :: a19 :: some z :: t) H2) : tAug 20 te ip ⟨nx, rt, bk, ct⟩ (a0 :: a1 :: a2 :: a3 :: a4 :: a5 :: a6 :: a7 :: a8 :: a9 :: a10 :: a11 :: a12 :: a13 :: a14 :: a15 :: a16 :: a17 :: a18 :: a19 :: some v :: t) H := ⟨v, rfl, q⟩
theorem x_name21 (q : Qs (a0 :: a1 :: a2 :: a3 :: a4 :: a5 :: a6 :: a7 :: a8 :: a9 :: a10 :: a11 :: a12 :: a13 :: a14 :: a15 :: a16 :: a17 :: a18 :: a19 :: a20 :: some x :: t) H) : gName 21 x (a0 :: a1 :: a2 :: a3 :: a4 :: a5 :: a6 :: a7 :: a8 :: a9 :: a10 :: a11 :: a12 :: a13 :: a14 :: a15 :: a16 :: a17 :: a18 :: a19 :: a20 :: a21 :: t) H Qs := q
theorem x_aug21 (q : te (a0 :: a1 :: a2 :: a3 :: a4 :: a5 :: a6 :: a7 :: a8 :: a9 :: a10 :: a11 :: a12 :: a13 :: a14 :: a15 :: a16 :: a17 :: a18 :: a19 :: a20 :: some v :: t) H fun y H1 => ip v y H1 fun z H2 => nx (a0 :: a1 :: a2 :: a3 :: a4 :: a5 :: a6 :: a7 :: a8 :: a9 :: a10 :: a11 :: a12 :: a13 :: a14 :: a15 :: a16 :: a17 :: a18 :: a19 :: a20 :: some z :: t) H2) : tAug 21 te ip ⟨nx, rt, bk, ct⟩ (a0 :: a1 :: a2 :: a3 :: a4 :: a5 :: a6 :: a7 :: a8 :: a9 :: a10 :: a11 :: a12 :: a13 :: a14 :: a15 :: a16 :: a17 :: a18 :: a19 :: a20 :: some v :: t) H := ⟨v, rfl, q⟩
end
theorem pe_gc {X : Cx} {x : Str} {v : V} {pos : Pos} (hg : Gl X x) (h : ∃ u, X.mg x = some u ∧ RelV v u) (hd : (x == ("__debug__" : Str)) = false := by decide) : PE X (.Name x pos) (tC v) := by
  obtain ⟨u, e, r⟩ := h
  exact pe_glob hg e r hd
/-! ### loops -/
/-- the loop over J from here on -/
def ForG (J : It) (g : TG) (tb : TS) (D : Ends) (σ : L2.St) (H : Hp) : Prop := ∃ W : Nat → Nat → L2.St → Hp → Prop, (∃ m, W 0 m σ H) ∧ ∀ i m σ H, W i m σ H →
  (J.stop i H ∧ D.nx σ H) ∨ (J.go i H ∧ ∃ N : L2.St → Hp → Prop, (∀ σ' H', N σ' H' → ∃ m', m' < m ∧ W (i + 1) m' σ' H') ∧ ∀ x H', J.yld i H x H' → g x σ H' fun σ2 H2 => tb { D with nx := N, ct := N, bk := D.nx } σ2 H2)
section
variable {K : PySem.W.Frag} {σ : L2.St} {H : Hp} {wi : TI} {g : TG} {tb : TS} {D : Ends} {nx bk ct : L2.St → Hp → Prop} {rt : VK} {ta : TA} {te : TE} {a : Addr} {xs : List V} {R : It → Hp → Prop}
theorem x_for (h : wi σ H fun J H1 => ForG J g tb D σ H1) : tFor wi g tb D σ H := h
theorem x_iR1 (h : ta σ H fun vs H1 => ∃ j : Int, vs = [.int j] ∧ -(2 ^ 62) ≤ j ∧ j < 2 ^ 62 ∧ R (Itr 0 j.toNat) H1) : iRng1 ta σ H R := h
theorem x_iR2 (h : ta σ H fun vs H1 => ∃ i j : Int, vs = [.int i, .int j] ∧ (-(2 ^ 62) ≤ i ∧ i < 2 ^ 62 ∧ -(2 ^ 62) ≤ j ∧ j < 2 ^ 62) ∧ R (Itr i (j - i).toNat) H1) : iRng2 ta σ H R := h
theorem x_iL (h : te σ H fun x H1 => ∃ a, x = .ref a ∧ (∃ xs, SqL K H1 a xs) ∧ R (Itl K a) H1) : iList K te σ H R := h
theorem x_iT (h : te σ H fun x H1 => ∃ a, x = .ref a ∧ (∃ xs, SqT K H1 a xs) ∧ R (Itt K a) H1) : iTup K te σ H R := h
theorem x_iS (h : te σ H fun v H1 => ∃ x, v = .str x ∧ R (Its x) H1) : iStr te σ H R := h
theorem goR {lo : Int} {n : Nat} (Pv : Nat → L2.St → Hp → Prop) (h0 : Pv 0 σ H) (hs : ∀ (i : Nat) σ H, i < n → Pv i σ H → g (.int (lo + i)) σ H fun σ2 H2 => tb ⟨Pv (i + 1), rt, nx, Pv (i + 1)⟩ σ2 H2) (hd : ∀ σ H, Pv n σ H → nx σ H) :
    ForG (Itr lo n) g tb ⟨nx, rt, bk, ct⟩ σ H := for_range (D := ⟨nx, rt, bk, ct⟩) Pv h0 hs hd
theorem goL (xs : List V) (Pv : Nat → L2.St → Hp → Prop) (h0 : Pv 0 σ H) (hl : ∀ i σ H, i ≤ xs.length → Pv i σ H → SqL K H a xs) (hs : ∀ (i : Nat) x σ H, xs[i]? = some x → Pv i σ H → g x σ H fun σ2 H2 => tb ⟨Pv (i + 1), rt, nx, Pv (i + 1)⟩ σ2 H2) (hd : ∀ σ H, Pv xs.length σ H → nx σ H) :
    ForG (Itl K a) g tb ⟨nx, rt, bk, ct⟩ σ H := for_list (D := ⟨nx, rt, bk, ct⟩) Pv h0 hl hs hd
theorem goT (xs : List V) (Pv : Nat → L2.St → Hp → Prop) (h0 : Pv 0 σ H) (hl : ∀ i σ H, i ≤ xs.length → Pv i σ H → SqT K H a xs) (hs : ∀ (i : Nat) x σ H, xs[i]? = some x → Pv i σ H → g x σ H fun σ2 H2 => tb ⟨Pv (i + 1), rt, nx, Pv (i + 1)⟩ σ2 H2) (hd : ∀ σ H, Pv xs.length σ H → nx σ H) :
    ForG (Itt K a) g tb ⟨nx, rt, bk, ct⟩ σ H := for_tup (D := ⟨nx, rt, bk, ct⟩) Pv h0 hl hs hd
theorem goS (z : Str) (Pv : Nat → L2.St → Hp → Prop) (h0 : Pv 0 σ H) (hs : ∀ (i : Nat) c σ H, z.cps.toList[i]? = some c → Pv i σ H → g (.str ⟨#[c]⟩) σ H fun σ2 H2 => tb ⟨Pv (i + 1), rt, nx, Pv (i + 1)⟩ σ2 H2) (hd : ∀ σ H, Pv z.cps.toList.length σ H → nx σ H) :
    ForG (Its z) g tb ⟨nx, rt, bk, ct⟩ σ H := by
  refine ⟨fun i m σ H => m = z.cps.toList.length - i ∧ i ≤ z.cps.toList.length ∧ Pv i σ H, ⟨z.cps.toList.length, by simp, Nat.zero_le _, h0⟩, ?_⟩
  rintro i m σ H ⟨rfl, hi, p⟩
  by_cases hlt : i < z.cps.toList.length
  · refine .inr ⟨by show i < z.cps.size; simpa using hlt, Pv (i + 1), fun σ' H' p' => ⟨z.cps.toList.length - (i + 1), by omega, rfl, hlt, p'⟩, fun x H' y => ?_⟩
    obtain ⟨e, c, hc, ex⟩ := y
    subst e
    subst ex
    exact hs i c σ _ (by simpa using hc) p
  · have e : i = z.cps.toList.length := by omega
    subst e
    exact .inl ⟨by show z.cps.size ≤ _; simp, hd σ H p⟩
def WhE (tb : TS) (rt : VK) (nx : L2.St → Hp → Prop) (W : Nat → L2.St → Hp → Prop) (m : Nat) (σ : L2.St) (H : Hp) : Prop := ∃ N : L2.St → Hp → Prop, (∀ σ' H', N σ' H' → ∃ m', m' < m ∧ W m' σ' H') ∧ tb ⟨N, rt, nx, N⟩ σ H
theorem x_whE {W : Nat → L2.St → Hp → Prop} {m : Nat} (h : tb ⟨fun σ' H' => ∃ m', m' < m ∧ W m' σ' H', rt, nx, fun σ' H' => ∃ m', m' < m ∧ W m' σ' H'⟩ σ H) : WhE tb rt nx W m σ H := ⟨_, fun _ _ z => z, h⟩
theorem x_while {c : TT} (W : Nat → L2.St → Hp → Prop) (m0 : Nat) (h0 : W m0 σ H) (hs : ∀ m σ H, W m σ H → c σ H fun b H1 => if b = true then WhE tb rt nx W m σ H1 else nx σ H1) : tWhile c tb ⟨nx, rt, bk, ct⟩ σ H := ⟨W, ⟨m0, h0⟩, hs⟩
end
/-! ### comprehensions -/
def LcG (J : It) (g : TG) (tt : TT) (te : TE) (vs : List Nat) (σ : L2.St) (D : Addr) (H1 : Hp) (Q : VK) : Prop := ∃ W : Nat → Nat → Hp → Prop, (∃ m, W 0 m (upd H1 D (.lst []))) ∧ ∀ i m H, W i m H →
  (J.stop i H ∧ Q (.ref D) H) ∨ (J.go i H ∧ ∃ Nx : Hp → Prop, (∀ H', Nx H' → ∃ m', m' < m ∧ W (i + 1) m' H') ∧ ∀ x H', J.yld i H x H' → g x (wipe σ vs) H' fun σ2 H2 => wipe σ2 vs = wipe σ vs ∧ tt σ2 H2 fun b H3 =>
    if b = true then te σ2 H3 fun y H4 => ∃ acc, H4 D = some (.lst acc) ∧ acc.length < sizeLine ∧ Nx (upd H4 D (.lst (acc ++ [y]))) else Nx H3)
section
variable {K : PySem.W.Frag} {σ : L2.St} {H H1 : Hp} {wi : TI} {g : TG} {tt : TT} {te : TE} {vs : List Nat} {Q : VK} {D a : Addr} {QB : Bool → Hp → Prop} {j : Nat}
theorem x_lc (h : wi σ H fun J H1 => ∀ D, H1 D = none → LcG J g tt te vs σ D H1 Q) : tLc wi g tt te vs σ H Q := h
theorem x_yes (h : QB true H) : tYes σ H QB := h
theorem wipe1 (σ : L2.St) (x : Option V) : wipe ((wipe σ [j]).set j x) [j] = wipe σ [j] := by
  show ((σ.set j none).set j x).set j none = σ.set j none
  rw [List.set_set, List.set_set]
theorem wipe1' (σ : L2.St) (x : Option V) : (wipe σ [j]).set j x = σ.set j x := by
  show (σ.set j none).set j x = σ.set j x
  rw [List.set_set]
/-- the element y is handed on: it goes to the list at D -/
def LcE (D : Addr) (Pv : Nat → List V → Hp → Prop) (i : Nat) (y : V) (H4 : Hp) : Prop := ∃ acc, H4 D = some (.lst acc) ∧ acc.length < sizeLine ∧ ∃ acc', upd H4 D (.lst (acc ++ [y])) D = some (.lst acc') ∧ Pv (i + 1) acc' (upd H4 D (.lst (acc ++ [y])))
/-- it is left out -/
def LcN (D : Addr) (Pv : Nat → List V → Hp → Prop) (i : Nat) (H3 : Hp) : Prop := ∃ acc, H3 D = some (.lst acc) ∧ Pv (i + 1) acc H3
theorem x_lcE {Pv : Nat → List V → Hp → Prop} {i : Nat} {y : V} {acc : List V} (h : H D = some (.lst acc)) (hz : acc.length < sizeLine) (q : ∀ H5, H5 D = some (.lst (acc ++ [y])) → Ch [D] H H5 → Pv (i + 1) (acc ++ [y]) H5) : LcE D Pv i y H :=
  ⟨acc, h, hz, _, upd_same, q _ upd_same (Ch.mut h rfl)⟩
theorem x_lcN {Pv : Nat → List V → Hp → Prop} {i : Nat} {acc : List V} (h : H D = some (.lst acc)) (q : Pv (i + 1) acc H) : LcN D Pv i H := ⟨acc, h, q⟩
theorem lcR {lo : Int} {n : Nat} (hD : H1 D = none) (Pv : Nat → List V → Hp → Prop) (h0 : ∀ H', H' D = some (.lst []) → Ch [] H1 H' → Pv 0 [] H')
    (hs : ∀ (i : Nat) acc H, i < n → Pv i acc H → H D = some (.lst acc) → gName j (.int (lo + i)) σ H fun σ2 H2 => tt σ2 H2 fun b H3 => if b = true then te σ2 H3 fun y H4 => LcE D Pv i y H4 else LcN D Pv i H3)
    (hd : ∀ acc H, Pv n acc H → H D = some (.lst acc) → Q (.ref D) H) : LcG (Itr lo n) (gName j) tt te [j] σ D H1 Q := by
  refine lc_range (lo := lo) (n := n) (fun i H => ∃ acc, H D = some (.lst acc) ∧ Pv i acc H) ⟨[], upd_same, h0 _ upd_same (Ch.new hD)⟩ (fun i H hi p => ?_) fun H p => ?_
  · obtain ⟨acc, hA, p⟩ := p
    have q := hs i acc H hi p hA
    show wipe ((wipe σ [j]).set j _) [j] = wipe σ [j] ∧ tt ((wipe σ [j]).set j _) H _
    refine ⟨wipe1 σ _, ?_⟩
    rw [wipe1']
    exact q
  · obtain ⟨acc, hA, p⟩ := p
    exact hd acc H p hA
theorem lcL (xs : List V) (hD : H1 D = none) (Pv : Nat → List V → Hp → Prop) (h0 : ∀ H', H' D = some (.lst []) → Ch [] H1 H' → Pv 0 [] H') (hl : ∀ i acc H, i ≤ xs.length → Pv i acc H → SqL K H a xs)
    (hs : ∀ (i : Nat) x acc H, xs[i]? = some x → Pv i acc H → H D = some (.lst acc) → gName j x σ H fun σ2 H2 => tt σ2 H2 fun b H3 => if b = true then te σ2 H3 fun y H4 => LcE D Pv i y H4 else LcN D Pv i H3)
    (hd : ∀ acc H, Pv xs.length acc H → H D = some (.lst acc) → Q (.ref D) H) : LcG (Itl K a) (gName j) tt te [j] σ D H1 Q := by
  refine lc_list (K := K) (a := a) (xs := xs) (fun i H => ∃ acc, H D = some (.lst acc) ∧ Pv i acc H) ⟨[], upd_same, h0 _ upd_same (Ch.new hD)⟩ (fun i H hi p => ?_) (fun i x H hi p => ?_) fun H p => ?_
  · obtain ⟨acc, hA, p⟩ := p
    exact hl i acc H hi p
  · obtain ⟨acc, hA, p⟩ := p
    have q := hs i x acc H hi p hA
    show wipe ((wipe σ [j]).set j _) [j] = wipe σ [j] ∧ tt ((wipe σ [j]).set j _) H _
    refine ⟨wipe1 σ _, ?_⟩
    rw [wipe1']
    exact q
  · obtain ⟨acc, hA, p⟩ := p
    exact hd acc H p hA
/-- a tuple walked, one name or several -/
theorem lcTG (xs : List V) (hD : H1 D = none) (Pv : Nat → List V → Hp → Prop) (h0 : ∀ H', H' D = some (.lst []) → Ch [] H1 H' → Pv 0 [] H') (hl : ∀ i acc H, i ≤ xs.length → Pv i acc H → SqT K H a xs)
    (hs : ∀ (i : Nat) x acc H, xs[i]? = some x → Pv i acc H → H D = some (.lst acc) → g x (wipe σ vs) H fun σ2 H2 => wipe σ2 vs = wipe σ vs ∧ tt σ2 H2 fun b H3 => if b = true then te σ2 H3 fun y H4 => LcE D Pv i y H4 else LcN D Pv i H3)
    (hd : ∀ acc H, Pv xs.length acc H → H D = some (.lst acc) → Q (.ref D) H) : LcG (Itt K a) g tt te vs σ D H1 Q := by
  refine lc_tup (K := K) (a := a) (xs := xs) (fun i H => ∃ acc, H D = some (.lst acc) ∧ Pv i acc H) ⟨[], upd_same, h0 _ upd_same (Ch.new hD)⟩ (fun i H hi p => ?_) (fun i x H hi p => ?_) fun H p => ?_
  · obtain ⟨acc, hA, p⟩ := p
    exact hl i acc H hi p
  · obtain ⟨acc, hA, p⟩ := p
    exact hs i x acc H hi p hA
  · obtain ⟨acc, hA, p⟩ := p
    exact hd acc H p hA
end
section
variable {K : PySem.W.Frag} {σ : L2.St} {H : Hp} {g : TG} {tb : TS} {D : Ends} {tt : TT} {te : TE} {vs : List Nat} {Q : VK} {a : Addr} {xs : List V}
theorem x_iR1a {j : Int} (h : -(2 ^ 62) ≤ j ∧ j < 2 ^ 62) (q : ForG (Itr 0 j.toNat) g tb D σ H) : ∃ i : Int, [V.int j] = [V.int i] ∧ -(2 ^ 62) ≤ i ∧ i < 2 ^ 62 ∧ ForG (Itr 0 i.toNat) g tb D σ H := ⟨j, rfl, h.1, h.2, q⟩
theorem x_iR1c {j : Int} (h : -(2 ^ 62) ≤ j ∧ j < 2 ^ 62) (q : ∀ D, H D = none → LcG (Itr 0 j.toNat) g tt te vs σ D H Q) : ∃ i : Int, [V.int j] = [V.int i] ∧ -(2 ^ 62) ≤ i ∧ i < 2 ^ 62 ∧ ∀ D, H D = none → LcG (Itr 0 i.toNat) g tt te vs σ D H Q := ⟨j, rfl, h.1, h.2, q⟩
theorem x_iR2a {i j : Int} (h : -(2 ^ 62) ≤ i ∧ i < 2 ^ 62 ∧ -(2 ^ 62) ≤ j ∧ j < 2 ^ 62) (q : ForG (Itr i (j - i).toNat) g tb D σ H) : ∃ i' j' : Int, [V.int i, V.int j] = [V.int i', V.int j'] ∧ (-(2 ^ 62) ≤ i' ∧ i' < 2 ^ 62 ∧ -(2 ^ 62) ≤ j' ∧ j' < 2 ^ 62) ∧ ForG (Itr i' (j' - i').toNat) g tb D σ H := ⟨i, j, rfl, h, q⟩
theorem x_iR2c {i j : Int} (h : -(2 ^ 62) ≤ i ∧ i < 2 ^ 62 ∧ -(2 ^ 62) ≤ j ∧ j < 2 ^ 62) (q : ∀ D, H D = none → LcG (Itr i (j - i).toNat) g tt te vs σ D H Q) : ∃ i' j' : Int, [V.int i, V.int j] = [V.int i', V.int j'] ∧ (-(2 ^ 62) ≤ i' ∧ i' < 2 ^ 62 ∧ -(2 ^ 62) ≤ j' ∧ j' < 2 ^ 62) ∧ ∀ D, H D = none → LcG (Itr i' (j' - i').toNat) g tt te vs σ D H Q := ⟨i, j, rfl, h, q⟩
theorem x_iLa (h : SqL K H a xs) (q : ForG (Itl K a) g tb D σ H) : ∃ b, V.ref a = .ref b ∧ (∃ xs, SqL K H b xs) ∧ ForG (Itl K b) g tb D σ H := ⟨a, rfl, ⟨xs, h⟩, q⟩
theorem x_iLc (h : SqL K H a xs) (q : ∀ D, H D = none → LcG (Itl K a) g tt te vs σ D H Q) : ∃ b, V.ref a = .ref b ∧ (∃ xs, SqL K H b xs) ∧ ∀ D, H D = none → LcG (Itl K b) g tt te vs σ D H Q := ⟨a, rfl, ⟨xs, h⟩, q⟩
theorem x_iTa (h : SqT K H a xs) (q : ForG (Itt K a) g tb D σ H) : ∃ b, V.ref a = .ref b ∧ (∃ xs, SqT K H b xs) ∧ ForG (Itt K b) g tb D σ H := ⟨a, rfl, ⟨xs, h⟩, q⟩
theorem x_iTc (h : SqT K H a xs) (q : ∀ D, H D = none → LcG (Itt K a) g tt te vs σ D H Q) : ∃ b, V.ref a = .ref b ∧ (∃ xs, SqT K H b xs) ∧ ∀ D, H D = none → LcG (Itt K b) g tt te vs σ D H Q := ⟨a, rfl, ⟨xs, h⟩, q⟩
theorem x_iSa {z : Str} (q : ForG (Its z) g tb D σ H) : ∃ x, V.str z = .str x ∧ ForG (Its x) g tb D σ H := ⟨z, rfl, q⟩
theorem x_iSc {z : Str} (q : ∀ D, H D = none → LcG (Its z) g tt te vs σ D H Q) : ∃ x, V.str z = .str x ∧ ∀ D, H D = none → LcG (Its x) g tt te vs σ D H Q := ⟨z, rfl, q⟩
end
/-! ### items at written places -/
section
variable {K : PySem.W.Frag} {H : Hp} {Q : VK} {v x y : V} {i : Int} {p l : Addr} {xs : List V}
theorem g_len {vs : List V} (h : rLenC K vs H Q) : rLenC K vs H Q := h
theorem g_tyV {T : String} {P : Prop} (h : tyV K T x H ∧ P) : tyV K T x H ∧ P := h
theorem g_ix (h : rIx K x y H Q) : rIx K x y H Q := h
theorem x_ixL0 (h : SqL K H p xs) (h0 : 0 ≤ i) (ha : xs[i.toNat]? = some v) (q : Q v H) : rIx K (.ref p) (.int i) H Q := x_ixL h (Int.toNat_of_nonneg h0).symm ha q
theorem x_ixT0 (h : SqT K H p xs) (h0 : 0 ≤ i) (ha : xs[i.toNat]? = some v) (q : Q v H) : rIx K (.ref p) (.int i) H Q := x_ixT h (Int.toNat_of_nonneg h0).symm ha q
theorem x_setL0 {QH : Hp → Prop} (hl : H l = some (.lst xs)) (h0 : 0 ≤ i) (hk : i.toNat < xs.length) (q : ∀ H', H' l = some (.lst (xs.set i.toNat v)) → Ch [l] H H' → QH H') : rSetL (.ref l) (.int i) v H QH := x_setL hl (Int.toNat_of_nonneg h0).symm hk q
theorem x_neg {g : Int → V} (q : Q (g i) H) : rU g (.int i) H Q := ⟨i, rfl, q⟩
theorem x_spA {sp : Sp} {E : XK} {vs : List V} (h : sp vs H Q E) : sp (vs ++ []) H Q E := by rw [List.append_nil]; exact h
end
theorem nT {H : Hp} {R : Addr → Hp → Prop} {xs : List V} (q : ∀ p H', H p = none → H' p = some (.tup xs) → Ch [] H H' → R p H') (hl : xs.length ≤ sizeLine := by first | decide | (simp only [List.length_cons, List.length_nil]; decide)) : NwT H xs R := ⟨hl, fun p H' hp e => q p H' hp (by rw [e]; exact upd_same) (by rw [e]; exact Ch.new hp)⟩
theorem nL {H : Hp} {R : Addr → Hp → Prop} {xs : List V} (q : ∀ p H', H p = none → H' p = some (.lst xs) → Ch [] H H' → R p H') (hl : xs.length ≤ sizeLine := by first | decide | (simp only [List.length_cons, List.length_nil]; decide)) : NwL H xs R := ⟨hl, fun p H' hp e => q p H' hp (by rw [e]; exact upd_same) (by rw [e]; exact Ch.new hp)⟩
theorem ite_nT {a b : Prop} (h : b) : if (!true) = true then a else b := ite_F h
theorem ite_nF {a b : Prop} (h : a) : if (!false) = true then a else b := ite_T h
theorem hp_up {H : Hp} {p a : Addr} {o u : HO} (n : H p = none) (h : H a = some u) : upd H p o a = some u := by rw [upd_ne (ne_of_none h n)]; exact h
section
variable {l : Addr} {v : V} {H : Hp} {QH : Hp → Prop} {t : List V} {a0 a1 a2 a3 a4 a5 a6 a7 : V}
theorem x_set0 (hl : H l = some (.lst (a0 :: t))) (q : ∀ H1, H1 l = some (.lst (v :: t)) → Ch [l] H H1 → QH H1) : rSetL (.ref l) (.int 0) v H QH := x_setL (k := 0) hl rfl (by simp) q
theorem x_set1 (hl : H l = some (.lst (a0 :: a1 :: t))) (q : ∀ H1, H1 l = some (.lst (a0 :: v :: t)) → Ch [l] H H1 → QH H1) : rSetL (.ref l) (.int 1) v H QH := x_setL (k := 1) hl rfl (by simp) q
theorem x_set2 (hl : H l = some (.lst (a0 :: a1 :: a2 :: t))) (q : ∀ H1, H1 l = some (.lst (a0 :: a1 :: v :: t)) → Ch [l] H H1 → QH H1) : rSetL (.ref l) (.int 2) v H QH := x_setL (k := 2) hl rfl (by simp) q
theorem x_set3 (hl : H l = some (.lst (a0 :: a1 :: a2 :: a3 :: t))) (q : ∀ H1, H1 l = some (.lst (a0 :: a1 :: a2 :: v :: t)) → Ch [l] H H1 → QH H1) : rSetL (.ref l) (.int 3) v H QH := x_setL (k := 3) hl rfl (by simp) q
theorem x_set4 (hl : H l = some (.lst (a0 :: a1 :: a2 :: a3 :: a4 :: t))) (q : ∀ H1, H1 l = some (.lst (a0 :: a1 :: a2 :: a3 :: v :: t)) → Ch [l] H H1 → QH H1) : rSetL (.ref l) (.int 4) v H QH := x_setL (k := 4) hl rfl (by simp) q
theorem x_set5 (hl : H l = some (.lst (a0 :: a1 :: a2 :: a3 :: a4 :: a5 :: t))) (q : ∀ H1, H1 l = some (.lst (a0 :: a1 :: a2 :: a3 :: a4 :: v :: t)) → Ch [l] H H1 → QH H1) : rSetL (.ref l) (.int 5) v H QH := x_setL (k := 5) hl rfl (by simp) q
end
theorem Ch.any {S : List Addr} {H H' : Hp} (c : Ch [] H H') : Ch S H H' := c.mono fun _ z => by cases z
end U

set_option Elab.async false
set_option linter.all false
set_option maxRecDepth 100000
set_option maxHeartbeats 4000000
/-! names: plain Lean over codes -/
namespace U
open PySem
def isLow (c : Nat) : Bool := decide (97 ≤ c ∧ c ≤ 122)
def isAln (c : Nat) : Bool := isLow c || decide (48 ≤ c ∧ c ≤ 57)
abbrev sLow : Str := "abcdefghijklmnopqrstuvwxyz"
abbrev sDig : Str := "0123456789"
abbrev sAln : Str := "abcdefghijklmnopqrstuvwxyz0123456789"
theorem low_list : sLow.cps.toList = List.range' 97 26 := by decide +kernel
theorem dig_list : sDig.cps.toList = List.range' 48 10 := by decide +kernel
theorem aln_list : sAln.cps.toList = List.range' 97 26 ++ List.range' 48 10 := by decide +kernel
theorem mem_low {c : Nat} : c ∈ sLow.cps.toList ↔ isLow c = true := by
  rw [low_list, List.mem_range'_1]
  unfold isLow
  rw [decide_eq_true_eq]
  omega
theorem mem_dig {c : Nat} : c ∈ sDig.cps.toList ↔ 48 ≤ c ∧ c ≤ 57 := by
  rw [dig_list, List.mem_range'_1]
  omega
theorem mem_aln {c : Nat} : c ∈ sAln.cps.toList ↔ isAln c = true := by
  rw [aln_list, List.mem_append, List.mem_range'_1, List.mem_range'_1]
  unfold isAln isLow
  rw [Bool.or_eq_true, decide_eq_true_eq, decide_eq_true_eq]
  omega
theorem low_at {k : Nat} (h : k < 26) : ∃ c, sAln.cps.toList[k]? = some c ∧ isLow c = true := by
  refine ⟨97 + k, ?_, ?_⟩
  · rw [aln_list, List.getElem?_append_left (by rw [List.length_range']; exact h), List.getElem?_range' h]
    simp
  · unfold isLow
    rw [decide_eq_true_eq]
    omega
theorem aln_at {k : Nat} (h : k < 36) : ∃ c, sAln.cps.toList[k]? = some c ∧ isAln c = true := by
  by_cases h1 : k < 26
  · obtain ⟨c, e, p⟩ := low_at h1
    refine ⟨c, e, ?_⟩
    unfold isAln
    rw [p]
    rfl
  · refine ⟨48 + (k - 26), ?_, ?_⟩
    · rw [aln_list, List.getElem?_append_right (by rw [List.length_range']; omega), List.length_range', List.getElem?_range' (by omega)]
      simp
    · unfold isAln
      rw [Bool.or_eq_true]
      right
      rw [decide_eq_true_eq]
      omega
/-- the signs are a name's -/
def okName : List Nat → Bool
  | [] => false
  | c :: cs => decide ((c :: cs).length ≤ 12) && (isLow c && (c :: cs).all isAln)
theorem okName_cons (c : Nat) (cs : List Nat) : okName (c :: cs) = (decide ((c :: cs).length ≤ 12) && (isLow c && (c :: cs).all isAln)) := rfl
def IsName (z : Str) : Prop := okName z.cps.toList = true
theorem str_len (z : Str) : z.length = z.cps.toList.length := by
  show z.cps.size = _
  rw [Array.length_toList]
theorem app_list (a y : Str) : (a ++ y).cps.toList = a.cps.toList ++ y.cps.toList := by
  show (a.cps ++ y.cps).toList = _
  rw [Array.toList_append]
theorem toList_one (c : Nat) : (⟨#[c]⟩ : Str).cps.toList = [c] := rfl
theorem str_ext {a b : Str} (h : a.cps.toList = b.cps.toList) : a = b := by
  obtain ⟨⟨a⟩⟩ := a
  obtain ⟨⟨b⟩⟩ := b
  have h2 : a = b := h
  rw [h2]
theorem IsName.inv {z : Str} (h : IsName z) : ∃ c cs, z.cps.toList = c :: cs ∧ (c :: cs).length ≤ 12 ∧ isLow c = true ∧ ∀ d ∈ c :: cs, isAln d = true := by
  unfold IsName at h
  cases e : z.cps.toList with
  | nil =>
    rw [e] at h
    cases h
  | cons c cs =>
    rw [e] at h
    unfold okName at h
    rw [Bool.and_eq_true, Bool.and_eq_true, decide_eq_true_eq] at h
    exact ⟨c, cs, rfl, h.1, h.2.1, fun d hd => List.all_eq_true.mp h.2.2 d hd⟩
theorem isName_of {z : Str} {c : Nat} {cs : List Nat} (e : z.cps.toList = c :: cs) (h1 : (c :: cs).length ≤ 12) (h2 : isLow c = true) (h3 : ∀ d ∈ c :: cs, isAln d = true) : IsName z := by
  unfold IsName
  rw [e]
  unfold okName
  rw [Bool.and_eq_true, Bool.and_eq_true, decide_eq_true_eq]
  exact ⟨h1, h2, List.all_eq_true.mpr h3⟩
theorem low_aln {c : Nat} (h : isLow c = true) : isAln c = true := by
  unfold isAln
  rw [h]
  rfl
theorem IsName.length {z : Str} (h : IsName z) : z.length ≤ 12 := by
  obtain ⟨c, cs, e, h1, _⟩ := h.inv
  rw [str_len, e]
  exact h1
theorem IsName.pos {z : Str} (h : IsName z) : 0 < z.length := by
  obtain ⟨c, cs, e, h1, _⟩ := h.inv
  rw [str_len, e]
  exact Nat.succ_pos _
theorem isName_one {c : Nat} (h : isLow c = true) : IsName ⟨#[c]⟩ := isName_of (toList_one c) (by show 1 ≤ 12; decide) h fun d hd => by
  rw [List.mem_singleton.mp hd]
  exact low_aln h
theorem isName_app {z : Str} {c : Nat} (h : IsName z) (hl : z.length < 12) (hc : isAln c = true) : IsName (z ++ ⟨#[c]⟩) := by
  obtain ⟨d, ds, e, h1, h2, h3⟩ := h.inv
  rw [str_len, e] at hl
  refine isName_of (c := d) (cs := ds ++ [c]) (by rw [app_list, e, toList_one]; rfl) ?_ h2 fun x hx => ?_
  · simp only [List.length_cons, List.length_append, List.length_nil] at hl ⊢
    omega
  · rcases List.mem_append.mp (show x ∈ (d :: ds) ++ [c] from hx) with q | q
    · exact h3 x q
    · rw [List.mem_singleton.mp q]
      exact hc
/-- cut behind eleven signs, it is a name -/
theorem isName_take {z y : Str} (h : IsName z) (e : y.cps.toList = z.cps.toList.take 11) : IsName y ∧ y.length ≤ 11 := by
  obtain ⟨d, ds, e1, h1, h2, h3⟩ := h.inv
  rw [e1] at e
  refine ⟨isName_of (c := d) (cs := ds.take 10) (by rw [e]; rfl) ?_ h2 fun x hx => ?_, ?_⟩
  · rw [List.length_cons, List.length_take]
    omega
  · rcases List.mem_cons.mp hx with q | q
    · exact h3 x (by rw [q]; exact List.mem_cons_self)
    · exact h3 x (List.mem_cons_of_mem _ (List.mem_of_mem_take q))
  · rw [str_len, e, List.length_take]
    omega
theorem sAln_eq : (sLow ++ sDig : Str) = sAln := by decide +kernel
theorem low_at' {k : Nat} (h : k < 26) : ∃ c, (sLow ++ sDig : Str).cps.toList[k]? = some c ∧ isLow c = true := by
  rw [sAln_eq]
  exact low_at h
theorem aln_at' {k : Nat} (h : k < 36) : ∃ c, (sLow ++ sDig : Str).cps.toList[k]? = some c ∧ isAln c = true := by
  rw [sAln_eq]
  exact aln_at h
open L2 in
theorem inV_str (z : Str) (us : List Str) : inV (.str z) (us.map V.str) = decide (z ∈ us) := by
  induction us with
  | nil => rfl
  | cons u us ih =>
    show (eqV (.str u) (.str z) || inV (.str z) (us.map V.str)) = _
    rw [ih, Bool.eq_iff_iff, Bool.or_eq_true, decide_eq_true_eq, decide_eq_true_eq, List.mem_cons]
    have e : (eqV (.str u) (.str z) = true) ↔ z = u := by
      show (u == z) = true ↔ _
      rw [beq_iff_eq]
      exact eq_comm
    rw [e]
open L2 in
theorem flat_str (us : List Str) : (us.map V.str).all flatV = true := by
  induction us with
  | nil => rfl
  | cons u us ih => exact ih
theorem len_of_sub {α : Type} [DecidableEq α] : ∀ {l m : List α}, l.Nodup → (∀ x ∈ l, x ∈ m) → l.length ≤ m.length
  | [], _, _, _ => Nat.zero_le _
  | x :: l, m, hn, hs => by
    have hx : x ∈ m := hs x List.mem_cons_self
    have h := len_of_sub (l := l) (m := m.erase x) (List.nodup_cons.mp hn).2 fun y hy => by
      refine (List.mem_erase_of_ne ?_).mpr (hs y (List.mem_cons_of_mem _ hy))
      rintro rfl
      exact (List.nodup_cons.mp hn).1 hy
    rw [List.length_erase_of_mem hx] at h
    have := List.length_pos_of_mem hx
    rw [List.length_cons]
    omega
open L2 in
theorem cut11 (z : Str) : (cutS z none (some 11)).cps.toList = z.cps.toList.take 11 := by
  show ((z.cps.toList.drop 0).take (min 11 z.length - 0)) = _
  rw [List.drop_zero, Nat.sub_zero, str_len]
  by_cases h : 11 ≤ z.cps.toList.length
  · rw [Nat.min_eq_left h]
  · rw [Nat.min_eq_right (by omega), List.take_of_length_le (Nat.le_refl _), List.take_of_length_le (by omega)]
theorem nodup_map {α β : Type} {f : α → β} (hf : ∀ a b, f a = f b → a = b) : ∀ {l : List α}, l.Nodup → (l.map f).Nodup
  | [], _ => List.nodup_nil
  | a :: l, h => by
    rw [List.map_cons]
    refine List.nodup_cons.mpr ⟨fun z => ?_, nodup_map hf (List.nodup_cons.mp h).2⟩
    obtain ⟨b, hb, e⟩ := List.mem_map.mp z
    rw [hf b a e] at hb
    exact (List.nodup_cons.mp h).1 hb
theorem app_one_inj {y : Str} {c d : Nat} (h : y ++ ⟨#[c]⟩ = y ++ (⟨#[d]⟩ : Str)) : c = d := by
  have q := congrArg (fun z : Str => z.cps.toList) h
  simp only [app_list, toList_one] at q
  have q2 := List.append_cancel_left q
  exact (List.cons.inj q2).1
theorem aln_nodup : (sLow ++ sDig : Str).cps.toList.Nodup := by
  rw [sAln_eq, aln_list]
  decide
end U

set_option Elab.async false
set_option linter.all false
set_option maxRecDepth 100000
set_option maxHeartbeats 4000000
/-! own classes' special methods -/
namespace U
open PySem PySem.Spec PyProof.Rows L2
theorem FD.raw {P : Program} {w : World} {K : PySem.W.Frag} {mg : Str → Option Value} {base : Heap} {CX : CXT} {k : Nat} {f : Addr} {ps : List Str} {sp : Sp} (F : FD P w K mg base CX k f ps sp) : FnR P w K mg base CX k f sp := by
  obtain ⟨fd, a, b⟩ := F.ex
  exact (a.raw b .nil).imp fun vs H Q E h => by rw [List.append_nil]; exact h
theorem fnIn_of {K : PySem.W.Frag} {x qual : Str} {params : Arguments} {body : List Stmt} {scope : Scope} {dvs : List V} {kws : List (Str × V)} {f : Addr} (F : ∃ fd, FunD K x qual params body scope dvs kws f fd) : PySem.W.fnIn K f = true := by
  obtain ⟨fd, F⟩ := F
  obtain ⟨oc, od, dV, kV, doc, pm, an, cdv, ct, osl, rfl, lk, _⟩ := F.ex
  unfold PySem.W.fnIn
  rw [lk]
section
variable {X : Cx} {CX : CXT} {k : Nat} {f C a dx : Addr} {fs : List (Str × V)} {sp : Sp} {E : XK} {A : Around} {pins : List (Addr × Obj)} {σ : L2.St} {H : Hp} {s : Shared}
theorem run_co {Q : VK} {us : List Value} {vs : List V} (F : FnR X.prog X.w X.K X.mg X.base CX k f sp) (hr : Room k A) (fr : A.frames = X.A.frames) (hx : Passes CX X E) (I : Inv X pins σ H s) (r : Vals vs us) (h : sp vs H Q E) :
    codeAny (model X.prog X.w) A (.call (.ref f) ⟨us, []⟩) (fun r s' => match r with | .ok (.ret v) => EP X pins σ Q v s' | .ok _ => False | .error e => X.xe e s') s := by
  have e0 : Env0 X.prog X.w X.K X.mg X.base A X.stack s H := by
    have e := I.env0
    exact ⟨by rw [fr]; exact e.frames, e.mod, e.bs, e.bsz, e.funs, e.frf, e.hok, e.bare⟩
  refine codeAny_mono (F A X.stack s H us vs Q E hr e0 r h) fun r s' hq => ?_
  cases r with
  | error e => exact hx pins σ H s e s' I hq
  | ok fl =>
    cases fl with
    | ret u => exact I.after hq
    | next => exact False.elim hq
    | brk => exact False.elim hq
    | cont => exact False.elim hq
/-- the callee runs, somewhere below the body -/
theorem run_at {Q : VK} {us : List Value} {vs : List V} (F : FnR X.prog X.w X.K X.mg X.base CX k f sp) (hr : Room k A) (fr : A.frames = X.A.frames) (hx : Passes CX X E) (I : Inv X pins σ H s) (r : Vals vs us) (h : sp vs H Q E) :
    wpAny (model X.prog X.w) A (call (.ref f) us) (EP X pins σ Q) X.xe s := by
  have e0 : Env0 X.prog X.w X.K X.mg X.base A X.stack s H := by
    have e := I.env0
    exact ⟨by rw [fr]; exact e.frames, e.mod, e.bs, e.bsz, e.funs, e.frf, e.hok, e.bare⟩
  refine wpAny_call (codeAny_mono (F A X.stack s H us vs Q E hr e0 r h) fun r s' hq => ?_)
  cases r with
  | error e => exact hx pins σ H s e s' I hq
  | ok fl =>
    cases fl with
    | ret u => exact I.after hq
    | next => exact False.elim hq
    | brk => exact False.elim hq
    | cont => exact False.elim hq
theorem run_at0 {Q : VK} {us : List Value} {vs : List V} {E' : Value → Shared → Prop} {E : XK} (F : FnR X.prog X.w X.K X.mg X.base CX0 k f sp) (hr : Room k A) (fr : A.frames = X.A.frames) (I : Inv X pins σ H s) (r : Vals vs us) (h : sp vs H Q E) :
    wpAny (model X.prog X.w) A (call (.ref f) us) (EP X pins σ Q) E' s := by
  have e0 : Env0 X.prog X.w X.K X.mg X.base A X.stack s H := by
    have e := I.env0
    exact ⟨by rw [fr]; exact e.frames, e.mod, e.bs, e.bsz, e.funs, e.frf, e.hok, e.bare⟩
  refine wpAny_call (codeAny_mono (F A X.stack s H us vs Q E hr e0 r h) fun r s' hq => ?_)
  cases r with
  | error e => exact False.elim hq
  | ok fl =>
    cases fl with
    | ret u => exact I.after hq
    | next => exact False.elim hq
    | brk => exact False.elim hq
    | cont => exact False.elim hq
theorem inst_at (I : Inv X pins σ H s) (e : H a = some (.ins C dx fs)) : ∃ od, PySem.W.InstAt s.heap a (PySem.W.instObj C dx) C (some od) := by
  obtain ⟨mA, O, _⟩ := ins_get I.hok e
  obtain ⟨od, J, _⟩ := O.look
  exact ⟨od, J⟩
/-- len(o) -/
def rLenO (C : Addr) (sp : Sp) (E : XK) : List V → Hp → VK → Prop := fun xs H Q => ∃ a dx fs, xs = [.ref a] ∧ H a = some (.ins C dx fs) ∧ sp [.ref a] H (fun v H' => ∃ n : Nat, v = .int n ∧ n < 2 ^ 62 ∧ Q (.int n) H') E
theorem c_lenO (m : Meth X.K C "__len__" f) (F : FnR X.prog X.w X.K X.mg X.base CX k f sp) (hr : Room (k + 1) X.A) (hx : Passes CX X E) : CallR X (.builtin "len") (rLenO C sp E) := by
  intro pins s σ H xs us Q I r h
  obtain ⟨a, dx, fs, rfl, ea, h⟩ := h
  obtain rfl := Vals.ref1 r
  obtain ⟨od, J⟩ := inst_at I ea
  obtain ⟨m0, hF⟩ := I.fr
  refine PySem.W.len_K hF I.ok.mod.kin J m.at_ m.fn (wpAny_mono (run_at (vs := [.ref a]) (us := [.ref a]) F hr.in1 rfl hx I (.cons rfl .nil) h) (fun r s' q => ?_) fun _ _ x => x)
  obtain ⟨v, H', I', rv, n, ev, hn, q⟩ := q
  subst ev
  obtain ⟨t, rfl⟩ := (show ∃ t, r = Value.int n t from rv)
  exact ⟨⟨by omega, by omega⟩, ⟨.int n, H', I'.tok _, ⟨_, rfl⟩, q⟩⟩
/-- x in o, x not in o -/
def rInO (C : Addr) (sp : Sp) (E : XK) : R2 := fun x y H Q => ∃ a dx fs, y = .ref a ∧ H a = some (.ins C dx fs) ∧ sp [.ref a, x] H (fun v H' => ∃ b, v = .bl b ∧ Q (.bl b) H') E
def rNotInO (C : Addr) (sp : Sp) (E : XK) : R2 := fun x y H Q => ∃ a dx fs, y = .ref a ∧ H a = some (.ins C dx fs) ∧ sp [.ref a, x] H (fun v H' => ∃ b, v = .bl b ∧ Q (.bl (!b)) H') E
theorem u_inO (m : Meth X.K C "__contains__" f) (F : FnR X.prog X.w X.K X.mg X.base CX k f sp) (hr : Room k X.A) (hx : Passes CX X E) : OpR X (compareOp .In) (rInO C sp E) := by
  intro pins s σ H x y v u Q I rx ry h
  obtain ⟨a, dx, fs, rfl, ea, h⟩ := h
  obtain rfl : u = Value.ref a := ry
  obtain ⟨od, J⟩ := inst_at I ea
  obtain ⟨m0, hF⟩ := I.fr
  refine PySem.W.in_K hF I.ok.mod.kin J m.at_ m.fn (wpAny_mono (run_at (vs := [.ref a, x]) (us := [.ref a, v]) F hr rfl hx I (.cons rfl (.cons rx .nil)) h) (fun r s' q => ?_) fun _ _ x => x)
  obtain ⟨w, H', I', rv, b, ev, q⟩ := q
  subst ev
  cases rv
  exact wpAny_truthy_bool ⟨.bl b, H', I', rfl, q⟩
theorem u_notinO (m : Meth X.K C "__contains__" f) (F : FnR X.prog X.w X.K X.mg X.base CX k f sp) (hr : Room k X.A) (hx : Passes CX X E) : OpR X (compareOp .NotIn) (rNotInO C sp E) := by
  intro pins s σ H x y v u Q I rx ry h
  obtain ⟨a, dx, fs, rfl, ea, h⟩ := h
  obtain rfl : u = Value.ref a := ry
  obtain ⟨od, J⟩ := inst_at I ea
  obtain ⟨m0, hF⟩ := I.fr
  refine PySem.W.notIn_K hF I.ok.mod.kin J m.at_ m.fn (wpAny_mono (run_at (vs := [.ref a, x]) (us := [.ref a, v]) F hr rfl hx I (.cons rfl (.cons rx .nil)) h) (fun r s' q => ?_) fun _ _ x => x)
  obtain ⟨w, H', I', rv, b, ev, q⟩ := q
  subst ev
  cases rv
  exact wpAny_truthy_bool ⟨.bl (!b), H', I', rfl, q⟩
/-- o[i] -/
def tSubO (C : Addr) (sp : Sp) (E : XK) (to ti : TE) : TE := fun σ H Q => to σ H fun x H1 => ti σ H1 fun y H2 => ∃ a dx fs, x = .ref a ∧ H2 a = some (.ins C dx fs) ∧ sp [.ref a, y] H2 Q E
theorem pe_subO {o i : Expr} {pos : Pos} {to ti : TE} (m : Meth X.K C "__getitem__" f) (hf : PySem.W.fnIn X.K f = true) (F : FnR X.prog X.w X.K X.mg X.base CX k f sp) (hr : Room (k + 1) X.A) (hx : Passes CX X E) (ho : PE X o to) (hi : PE X i ti)
    (hsl : ∀ ov iv, subscripted i true ov iv = runValue (.builtin "lifetime.subscript" ⟨[ov, iv], []⟩) := by intros; rfl) : PE X (.Subscript o i pos) (tSubO C sp E to ti) := by
  refine ⟨fun pins s σ H Q I h => ?_⟩
  refine Subscript_ (thn (ho.run pins s σ H _ I h) fun u s1 ⟨x, H1, I1, rx, q⟩ => thn (hi.run pins s1 σ H1 _ I1 q) fun iv s2 ⟨y, H2, I2, ry, a, dx, fs, ex, ea, q2⟩ => ?_)
  subst ex
  obtain rfl : u = Value.ref a := rx
  obtain ⟨od, J⟩ := inst_at I2 ea
  obtain ⟨m0, hF⟩ := I2.fr
  exact PySem.W.sub_K hF I2.ok.mod.kin J m.at_ hf m.fn (run_at (vs := [.ref a, y]) (us := [.ref a, iv]) F hr.in1 rfl hx I2 (.cons rfl (.cons ry .nil)) q2) (hsl _ _)
/-- o[i] = v -/
def sPutO (C : Addr) (sp : Sp) (E : XK) (to ti tv : TE) : TS := fun D σ H => tv σ H fun v H1 => to σ H1 fun x H2 => ti σ H2 fun y H3 => ∃ a dx fs, x = .ref a ∧ H3 a = some (.ins C dx fs) ∧ sp [.ref a, y, v] H3 (fun _ H' => D.nx σ H') E
theorem ps_putO {o i value : Expr} {pos pos' : Pos} {to ti tv : TE} (m : Meth X.K C "__setitem__" f) (hq : PySem.W.noSeq X.K C = true) (F : FnR X.prog X.w X.K X.mg X.base CX k f sp) (hr : Room k X.A) (hx : Passes CX X E) (ho : PE X o to) (hi : PE X i ti) (hv : PE X value tv)
    (hs : swapsWith value (some (.Subscript o i pos')) pos.line X.env = pure false := by rfl) : PS X (.Assign [.Subscript o i pos'] value pos) (sPutO C sp E to ti tv) := by
  refine ⟨fun pins s σ H D I h => ?_⟩
  refine wpAny_Assign_Subscript (thn (hv.run pins s σ H _ I h) fun r s1 ⟨v, H1, I1, rv, q1⟩ => thn (ho.run pins s1 σ H1 _ I1 q1) fun u s2 ⟨x, H2, I2, rx, q2⟩ => thn (hi.run pins s2 σ H2 _ I2 q2) fun iv s3 ⟨y, H3, I3, ry, a, dx, fs, ex, ea, q3⟩ => ?_) hs
  subst ex
  obtain rfl : u = Value.ref a := rx
  obtain ⟨od, J⟩ := inst_at I3 ea
  obtain ⟨m0, hF⟩ := I3.fr
  refine PySem.W.ksp_setItem hF I3.ok.mod.kin J hq m.at_ m.fn (wpAny_mono (run_at (vs := [.ref a, y, v]) (us := [.ref a, iv, r]) F hr rfl hx I3 (.cons rfl (.cons ry (.cons rv .nil))) q3) (fun r s' q => ?_) fun _ _ x => x)
  obtain ⟨z, H', I', _, q⟩ := q
  exact ⟨σ, H', I', q⟩
/-- a property with a setter, stored -/
structure PropSet (K : PySem.W.Frag) (C : Addr) (nm : Str) (p g : Addr) : Prop where
  tk : PySem.W.takerIn K C nm = some (some (.ref p))
  ty : PySem.W.typeIn K (.ref p) = some (.type "property")
  rec_ : ∃ a rest, PySem.W.recIn K p "property" = some (a :: .ref g :: rest)
def sPset (C : Addr) (sp : Sp) (E : XK) (to tv : TE) : TS := fun D σ H => tv σ H fun v H1 => to σ H1 fun x H2 => ∃ a dx fs, x = .ref a ∧ H2 a = some (.ins C dx fs) ∧ sp [.ref a, v] H2 (fun _ H' => D.nx σ H') E
theorem ps_pset {o value : Expr} {pos pos' : Pos} {to tv : TE} {nm : Str} {p g : Addr} (c : Cls X.K C) (ps : PropSet X.K C nm p g) (F : FnR X.prog X.w X.K X.mg X.base CX k g sp) (hr : Room (k + 2) X.A) (hx : Passes CX X E) (ho : PE X o to) (hv : PE X value tv)
    (hs : swapsWith value (some (.Attribute o nm pos')) pos.line X.env = pure false := by rfl) : PS X (.Assign [.Attribute o nm pos'] value pos) (sPset C sp E to tv) := by
  refine ⟨fun pins s σ H D I h => ?_⟩
  refine plainObj_wpAny_Assign_Attribute (thn (hv.run pins s σ H _ I h) fun u s1 ⟨y, H1, I1, ry, q⟩ => thn (ho.run pins s1 σ H1 _ I1 q) fun ov s2 ⟨x, H2, I2, rx, a, dx, fs, ex, ea, q2⟩ => ?_) hs
  subst ex
  obtain rfl : ov = Value.ref a := rx
  obtain ⟨od, J⟩ := inst_at I2 ea
  obtain ⟨a1, rest, hrec⟩ := ps.rec_
  have I3 := I2.tok (s2.toks + 1)
  refine PySem.W.set_plain I2.kIn J c.sa (PySem.W.osa_descr PySem.W.KF.slot_pset I2.kIn J c.po ps.tk ps.ty ?_)
  refine PySem.W.prop_set (rest := rest) (a := a1) I3.kIn hrec ?_
  refine codeAny_mono (run_co (vs := [.ref a, y]) (us := [.ref a, u]) F hr.in1.in1 (A := X.A.in1.in1) rfl hx I3 (.cons rfl (.cons ry .nil)) q2) fun r s' z => ?_
  cases r with
  | error e => exact z
  | ok fl =>
    cases fl with
    | ret v =>
      obtain ⟨_, H', I', _, q⟩ := z
      exact ⟨σ, H', I', q⟩
    | next => exact z.elim
    | brk => exact z.elim
    | cont => exact z.elim
/-- o != p by an own __eq__ -/
structure NeC (K : PySem.W.Frag) (C f : Addr) : Prop where
  ne : PySem.W.findIn K (.ref C) "__ne__" = some (some (.builtin "object.__ne__"))
  ob : PySem.W.subIn K (.ref C) (.type "object") = some true
  eq : Meth K C "__eq__" f
def rNeO (C : Addr) (sp : Sp) (E : XK) : R2 := fun x y H Q => ∃ a b dx dy fs gs, x = .ref a ∧ y = .ref b ∧ H a = some (.ins C dx fs) ∧ H b = some (.ins C dy gs) ∧ sp [.ref a, .ref b] H (fun v H' => ∃ c, v = .bl c ∧ Q (.bl (!c)) H') E
theorem one_bind (self : Value) : bindSpecial (.builtin "object.__ne__") self = pure (.builtin "object.__ne__", [self]) :=
  (Slot.of (T := "object") (name := "__ne__") (owner := "object") (n := "__ne__") (by rw [typeLookup_type, builtinLookup_eq_fast]; kernel_rfl) (by decide +kernel) (by decide +kernel) (by decide +kernel)
    (.inl (by decide +kernel)) (by rw [isSubtype_type]; kernel_rfl)).bind self
theorem one_plain : plainId "object.__ne__" = true := by decide +kernel
theorem u_neO (n : NeC X.K C f) (F : FnR X.prog X.w X.K X.mg X.base CX k f sp) (hr : Room (k + 1) X.A) (hx : Passes CX X E) : OpR X (compareOp .NotEq) (rNeO C sp E) := by
  intro pins s σ H x y v u Q I rx ry h
  obtain ⟨a, b, dx, dy, fs, gs, rfl, rfl, ea, eb, h⟩ := h
  obtain rfl : v = Value.ref a := rx
  obtain rfl : u = Value.ref b := ry
  obtain ⟨od, J⟩ := inst_at I ea
  obtain ⟨od', J'⟩ := inst_at I eb
  obtain ⟨m0, hF⟩ := I.fr
  have hu := hr.units
  have KX := I.kIn
  have body : wpAny (model X.prog X.w) X.A (call (.builtin "object.__ne__") [.ref a, .ref b]) (fun v s' => (∃ c, v = .bool c) ∧ EP X pins σ Q v s') X.xe s := by
    have t2 : PySem.W.Looks (model X.prog X.w) s.heap (isInstance (.ref a) (.type "object")) true := J.type.andThen (PySem.W.looks_subIn KX n.ob)
    refine wpAny_call (codeAny_call_builtin one_plain PySem.F.cmpEntry_ne (PySem.W.check_slot PySem.F.cmpKind_ne PySem.F.cmpSplit_ne t2 (PySem.F.cmpArgs_ne _ _) ?_))
    unfold Builtin.«object.__ne__»
    refine wpAny_bind (wpAny_of_eq (a := (Value.ref a, [Value.ref b])) (by first | rfl | kernel_rfl) ?_)
    show wpAny _ X.A.in1 (cRoomFor "comparison" [.ref a, .ref b] >>= _) _ _ _
    refine wpAny_bind (wpAny_cRoomFor (by show X.A.units + 1 < cLine; omega) ?_)
    refine wpAny_bind (PySem.W.ifBound_K KX J n.eq.at_ n.eq.fn (wpAny_mono (run_at (vs := [.ref a, .ref b]) (us := [.ref a, .ref b]) F hr.in1 rfl hx I (.cons rfl (.cons rfl .nil)) h) (fun r s' q => ?_) fun _ _ x => x))
    obtain ⟨z, H', I', rz, c, ez, q⟩ := q
    subst ez
    cases rz
    refine wpAny_bind (wpAny_truthy_bool ?_)
    exact wpAny_pure ⟨⟨_, rfl⟩, ⟨.bl (!c), H', I', rfl, q⟩⟩
  have one : wpAny (model X.prog X.w) X.A (tryCompare (.ref a) (cmpInfo .NotEq).2.1 (.ref b)) (fun r s' => ∃ v, r = some v ∧ EP X pins σ Q v s') X.xe s := by
    unfold tryCompare
    have z : wpAny (model X.prog X.w) X.A (callSpecialIfBound? (.ref a) "__ne__" [.ref b]) (fun r s' => ∃ c, r = some (.bool c) ∧ EP X pins σ Q (.bool c) s') X.xe s := by
      simp only [callSpecialIfBound?, bindSpecialIfBound?]
      refine wpAny_holding (wpAny_bind (wpAny_bind (wpAny_bind (J.type.here ((PySem.W.looks_findIn KX n.ne).here ?_)))))
      refine wpAny_bind (wpAny_askSetting (wpAny_ite ?_))
      have fin : wpAny (model X.prog X.w) X.A (call (.builtin "object.__ne__") ([.ref a] ++ [.ref b]) >>= fun v => pure (some v)) (fun r s' => ∃ c, r = some (.bool c) ∧ EP X pins σ Q (.bool c) s') X.xe s :=
        wpAny_bind (wpAny_mono body (fun v s' ⟨⟨c, e⟩, q⟩ => wpAny_pure ⟨c, by rw [e], by rw [← e]; exact q⟩) fun _ _ x => x)
      split
      · exact wpAny_bind (wpAny_of_eq (one_bind _) (wpAny_pure (by exact fin)))
      · exact wpAny_tryCatch (wpAny_bind (wpAny_of_eq (one_bind _) (wpAny_pure (by exact fin))))
    refine wpAny_bind (wpAny_mono z (fun r s' ⟨c, e, q⟩ => ?_) fun _ _ x => x)
    subst e
    exact wpAny_pure ⟨_, rfl, q⟩
  show wpAny _ _ (richCompare .NotEq (.ref a) (.ref b)) _ _ _
  unfold richCompare
  simp only [oneThing_ref]
  refine wpAny_holding (wpAny_bind (wpAny_cRoomFor (by omega) ?_))
  refine wpAny_bind (J.type.here (wpAny_bind (J'.type.here ?_)))
  rw [show (Value.ref C != Value.ref C) = false from by simp]
  simp only [Bool.false_eq_true, if_false]
  refine wpAny_bind (wpAny_pure ?_)
  simp only [Bool.false_eq_true, if_false]
  refine wpAny_bind (wpAny_mono one (fun r s' z => ?_) fun _ _ e => e)
  obtain ⟨v, rfl, hq⟩ := z
  exact wpAny_pure hq
/-! ### list(o): __iter__ hands on iter(self.f), __len__ len(self.f) -/
def spLenF (K : PySem.W.Frag) (C : Addr) (f : Str) : Sp := fun vs H Q _ => ∃ (a dx : Addr) (fs : List (Str × V)) (l : Addr) (xs : List V), vs = [.ref a] ∧ H a = some (.ins C dx fs) ∧ fs.lookup f = some (.ref l) ∧ H l = some (.lst xs) ∧ Q (.int xs.length) H
def spIterF (K : PySem.W.Frag) (C : Addr) (f : Str) : Sp := fun vs H Q _ => ∃ (a dx : Addr) (fs : List (Str × V)) (l : Addr) (xs : List V), vs = [.ref a] ∧ H a = some (.ins C dx fs) ∧ fs.lookup f = some (.ref l) ∧ H l = some (.lst xs) ∧ ∀ it, H it = none → Q (.ref it) (upd H it (ItO l it 0))
theorem slot_lit : Slot "list_iterator" "__next__" "list_iterator.__next__" := slot_listiter_next
section
variable {prog : Program} {w : World} {it l : Addr} {i : Nat} {items : Array Value}
theorem next_itemX {x : Value} {E' : Value → Shared → Prop} {Q : Option Value → Shared → Prop} (ho : s.heap.get? it = some (GNX.itObj l i)) (hl : s.heap.IsList l items) (hx : items[i]? = some x)
    (hQ : ∀ h', h'.get? it = some (GNX.itObj l (i + 1)) → Heap.SameBut it s.heap h' → Q (some x) { s with heap := h' }) : wpAny (model prog w) A (pyNext (.ref it)) Q E' s := by
  have hit : s.heap.IsListIter it l i := ⟨_, ho, rfl, rfl⟩
  unfold pyNext
  refine wpAny_bind (wpAny_attempt (wpAny_callSpecial?_slot (name := Str.ofString "__next__") hit.typeIs slot_listiter_next
    (wpAny_call_entry slot_listiter_next hit.typeIs entry_listiter_next ?_ (args_listiter_next _))))
  refine wpAny_mono (GNX.next_item (E := fun _ _ => False) ho hl hx (Q := fun v s' => Q (some v) s') hQ) (fun fin s' q => ?_) fun _ _ z => False.elim z
  obtain ⟨v, rfl, q⟩ := q
  exact ⟨v, rfl, wpAny_pure q⟩
theorem next_endX {E' : Value → Shared → Prop} {Q : Option Value → Shared → Prop} (hh : A.handled = none) (ho : s.heap.get? it = some (GNX.itObj l i)) (hl : s.heap.IsList l items) (hx : items[i]? = none)
    (hQ : ∀ h1 h', h1.get? it = some (GNX.itEnd i) → Heap.SameBut it s.heap h1 → (∀ b o, h1.get? b = some o → h'.get? b = some o) → Q none { s with heap := h' }) : wpAny (model prog w) A (pyNext (.ref it)) Q E' s := by
  have hit : s.heap.IsListIter it l i := ⟨_, ho, rfl, rfl⟩
  unfold pyNext
  refine wpAny_bind (wpAny_attempt (wpAny_callSpecial?_slot (name := Str.ofString "__next__") hit.typeIs slot_listiter_next
    (wpAny_call_entry slot_listiter_next hit.typeIs entry_listiter_next ?_ (args_listiter_next _))))
  refine wpAny_mono (GNX.next_end (Q := fun _ _ => False) hh ho hl hx (E := fun e s' => (∃ a, e = .ref a ∧ s'.TypeIs (.ref a) "StopIteration") ∧ Q none s') fun h1 h' e vs e1 sb k n he hv => ⟨⟨e, rfl, _, he, rfl⟩, hQ h1 h' e1 sb k⟩) (fun fin s' q => ?_) fun e s' q => ?_
  · obtain ⟨_, _, q⟩ := q
    exact q.elim
  · obtain ⟨⟨a, rfl, hT⟩, q⟩ := q
    refine wpAny_bind (wpAny_isInstance (T := "StopIteration") (b := true) hT isSubtype_stop ?_)
    exact wpAny_pure q
end

theorem rel_ref {v : Addr} {u : Value} (r : RelV (.ref v) u) : u = .ref v := r
theorem ext_loop {q it l : Addr} {zs : List V} {A1 : Around} {Rs : Result → Shared → Prop} (hh : A1.in1.handled = none) (hql : q ≠ l) (hqi : q ≠ it) (hli : l ≠ it) (hz : zs.length ≤ sizeLine)
    (H0 : Hp)
    (hd2 : ∀ H s, Inv X pins σ H s → H q = some (.lst zs) → Ch [q, it] H0 H → Rs (.ok (.ret .none)) s) :
    ∀ (m i : Nat) (H : Hp) (s : Shared), zs.length - i = m → i ≤ zs.length → Inv X pins σ H s → H q = some (.lst (zs.take i)) → H l = some (.lst zs) → H it = some (ItO l it i) → Ch [q, it] H0 H →
      codeAny (model X.prog X.w) A1 (.builtin "list.extend.loop" ⟨[.ref q, .ref it, .none], []⟩) Rs s := by
  intro m
  induction m with
  | zero =>
    intro i H s hm hi I hq hl hit c
    have e : i = zs.length := by omega
    subst e
    refine codeAny_builtin PySem.F.entry_extend_loop ?_
    rw [Around.under_plainId PySem.F.plain_extend_loop _]
    show wpAny _ A1.in1 (pyNext (.ref it) >>= _) _ _ s
    obtain ⟨z, its, k, rv, hlh, e3⟩ := I.lstM hl
    have hn : its.toArray[zs.length]? = none := by
      rw [List.getElem?_toArray]
      exact List.getElem?_eq_none (by rw [← rv.length]; exact Nat.le_refl _)
    refine wpAny_bind (next_endX hh (itO_get I hit) ⟨_, e3, rfl, k, rfl⟩ hn fun h1 h' e1 sb kk => ?_)
    have mu : Mut (H it) := by rw [hit]; exact True.intro
    have I2 : Inv X pins σ (upd H it (ItE it zs.length)) { s with heap := h1 } := I.write (x := it) (e := it) (t' := s.toks) mu (.inl rfl) (fun b o nb z => (sb.2 b nb).trans z) ⟨_, e1⟩ (itE_ok e1)
    have I3 := I2.kept (t' := s.toks) kk
    refine wpAny_pure (hd2 _ _ I3 ?_ ?_)
    · rw [upd_ne hqi]
      rw [hq, List.take_length]
    · exact c.seq ((Ch.mut hit rfl).mono (by simp))
  | succ m ih =>
    intro i H s hm hi I hq hl hit c
    have hlt : i < zs.length := by omega
    refine codeAny_builtin PySem.F.entry_extend_loop ?_
    rw [Around.under_plainId PySem.F.plain_extend_loop _]
    show wpAny _ A1.in1 (pyNext (.ref it) >>= _) _ _ s
    obtain ⟨z, its, k, rv, hlh, e3⟩ := I.lstM hl
    obtain ⟨u, hu, ru⟩ := rv.get (List.getElem?_eq_getElem hlt)
    refine wpAny_bind (next_itemX (x := u) (itO_get I hit) ⟨_, e3, rfl, k, rfl⟩ (by rw [List.getElem?_toArray]; exact hu) fun h1 e1 sb => ?_)
    have mu : Mut (H it) := by rw [hit]; exact True.intro
    have I2 : Inv X pins σ (upd H it (ItO l it (i + 1))) { s with heap := h1 } := I.write (x := it) (e := it) (t' := s.toks) mu (.inl rfl) (fun b o nb z => (sb.2 b nb).trans z) ⟨_, e1⟩ (itO_ok e1)
    have hq2 : upd H it (ItO l it (i + 1)) q = some (.lst (zs.take i)) := by rw [upd_ne hqi]; exact hq
    obtain ⟨z2, its2, k2, rv2, hl2, e4⟩ := I2.lstM hq2
    show wpAny _ A1.in1 (updateSeq q (·.push u) >>= _) _ _ _
    have hlen : (zs.take i).length < sizeLine := by rw [List.length_take]; omega
    refine wpAny_bind (wpAny_updateSeq e4 rfl (wpAny_pure ⟨plainId_quiet PySem.F.plain_extend_loop _, ?_⟩) (by rw [List.size_toArray]; omega) (by show (its2.toArray.push u).size ≤ sizeLine + 1; rw [Array.size_push, List.size_toArray]; omega))
    have ht : zs.take (i + 1) = zs.take i ++ [zs[i]] := by rw [List.take_add_one, List.getElem?_eq_getElem hlt]; rfl
    have I3 := I2.lset (f := (·.push u)) (its' := its2 ++ [u]) (ys := zs.take (i + 1)) (t' := s.toks) hq2 e4 (by simp) (by rw [ht]; exact rv2.append (.cons ru .nil)) (by rw [List.length_take]; omega)
    refine ih (i + 1) _ _ (by omega) hlt I3 upd_same ?_ ?_ ?_
    · rw [upd_ne (Ne.symm hql), upd_ne hli]
      exact hl
    · rw [upd_ne (Ne.symm hqi)]
      exact upd_same
    · exact c.seq (((Ch.mut hit rfl).mono (by simp)).seq ((Ch.mut hq2 rfl).mono (by simp)))
/-- list(o) -/
def rListO (K : PySem.W.Frag) (C : Addr) (f : Str) : List V → Hp → VK → Prop := fun xs H Q => ∃ (a dx : Addr) (fs : List (Str × V)) (l : Addr) (zs : List V), xs = [.ref a] ∧ H a = some (.ins C dx fs) ∧ fs.lookup f = some (.ref l) ∧ H l = some (.lst zs) ∧
  ∀ q H', H q = none → H' q = some (.lst zs) → Ch [] H H' → Q (.ref q) H'
theorem c_listO {fl fi : Addr} {fd : Str} (mL : Meth X.K C "__len__" fl) (mI : Meth X.K C "__iter__" fi) (FL : FnR X.prog X.w X.K X.mg X.base CX0 k fl (spLenF X.K C fd)) (FI : FnR X.prog X.w X.K X.mg X.base CX0 k fi (spIterF X.K C fd))
    (hcalm : X.calm = true) (hr : Room (k + 4) X.A) : CallR X (.type "list") (rListO X.K C fd) := by
  intro pins s σ H xs us Q I rv h
  obtain ⟨a, dx, fs, l, zs, rfl, ha, hf, hl, q⟩ := h
  obtain rfl := Vals.ref1 rv
  have hh : X.A.in1.in1.handled = none := I.ok.hd hcalm
  refine callType_codes (Q₁ := fun obj s₁ => obj = .ref s.heap.objs.size ∧ s₁ = { s with heap := s.heap.push { cls := .type "list", data := .seq #[] } }) PySem.F.called_list (PySem.F.typeCall_list_1 _) PySem.F.entry_list_init
    (code_list_new _ ⟨rfl, rfl⟩) fun obj s₁ h₁ => ?_
  obtain ⟨rfl, rfl⟩ := h₁
  have hS : (s.heap.push { cls := .type "list", data := .seq #[] }).get? s.heap.objs.size = some { cls := .type "list", data := .seq #[] } := Heap.get?_push_size _ rfl
  refine ⟨⟨_, hS, rfl⟩, PySem.F.args_list_init_2 _ _, ?_⟩
  have fr : H s.heap.objs.size = none := I.hok.fresh (Nat.le_refl _)
  generalize hqn : s.heap.objs.size = qn at hS fr ⊢
  have I1 : Inv X pins σ (upd H qn (.lst [])) { s with heap := s.heap.push { cls := .type "list", data := .seq #[] } } := by
    rw [← hqn]
    exact I.lnew (its := []) (t' := s.toks) .nil (Nat.zero_le _)
  show wpAny _ _ (do let old ← Builtin.List.listItems (.ref qn); Builtin.List.listUpdate (.ref qn) (fun _ => #[]); letGo old.toList.reverse; Builtin.List.listExtendWith (.ref qn) (.ref a) .none) _ _ _
  refine wpAny_bind ?_
  unfold Builtin.List.listItems
  refine wpAny_bind (wpAny_seqItems hS rfl (wpAny_pure ?_))
  show wpAny _ _ (updateSeq qn (fun _ => #[]) >>= fun _ => letGo (#[] : Array Value).toList.reverse >>= fun _ => Builtin.List.listExtendWith (.ref qn) (.ref a) .none) _ _ _
  refine wpAny_bind (wpAny_updateSeq hS rfl ?_)
  have I2 := I1.lset (f := fun _ => #[]) (its := []) (its' := []) (ys := []) (t' := s.toks) upd_same hS rfl .nil (Nat.zero_le _)
  rw [upd_upd] at I2
  refine wpAny_bind (wpAny_letGo ?_)
  have ha2 : upd H qn (.lst []) a = some (.ins C dx fs) := by rw [upd_ne (ne_of_none ha fr)]; exact ha
  have hl2 : upd H qn (.lst []) l = some (.lst zs) := by rw [upd_ne (ne_of_none hl fr)]; exact hl
  have hql : qn ≠ l := Ne.symm (ne_of_none hl fr)
  have hne : qn ≠ a := Ne.symm (ne_of_none ha fr)
  obtain ⟨od, J⟩ := inst_at I2 ha2
  obtain ⟨m0, hF⟩ := I2.fr
  have hz : zs.length ≤ sizeLine := (I.lstM hl).1
  unfold Builtin.List.listExtendWith
  refine wpAny_bind (J.type.here ?_)
  have h1 : Builtin.List.listSameRef (.ref qn) (.ref a) = false := by simp [Builtin.List.listSameRef, hne]
  have h2 : (Value.ref C == Value.type "list") = false := rfl
  have h3 : (Value.ref C == Value.type "tuple") = false := rfl
  simp only [h1, h2, h3, Bool.or_false, Bool.false_eq_true, if_false]
  refine wpAny_bind (PySem.W.owit_iter hF I2.ok.mod.kin J mI.at_ mI.fn (wpAny_mono (run_at0 (A := X.A.in1.in1) (vs := [.ref a]) (us := [.ref a]) (Q := fun v H1 => ∃ it, v = .ref it ∧ upd H qn (.lst []) it = none ∧ H1 = upd (upd H qn (.lst [])) it (ItO l it 0)) (E := E0)
    FI ((hr.in1.in1).mono (by omega)) rfl I2 (.cons rfl .nil) ⟨a, dx, fs, l, zs, rfl, ha2, hf, hl2, fun it hn => ⟨it, rfl, hn, rfl⟩⟩) (fun r s' qq => ?_) fun _ _ x => x))
  obtain ⟨v, H1, I3, rr, it, ev, hn, eH⟩ := qq
  subst ev eH
  cases rr
  have hit : upd (upd H qn (.lst [])) it (ItO l it 0) it = some (ItO l it 0) := upd_same
  have hqi : qn ≠ it := fun z => by rw [← z, upd_same] at hn; cases hn
  have hT : s'.TypeIs (.ref it) "list_iterator" := ⟨_, itO_get I3 hit, rfl⟩
  unfold PySem.W.OwitIt
  refine wpAny_specialOf hT slot_listiter_next.lookup ?_
  dsimp only
  have ha3 : upd (upd H qn (.lst [])) it (ItO l it 0) a = some (.ins C dx fs) := by rw [upd_ne (ne_of_none ha2 hn)]; exact ha2
  have hl3 : upd (upd H qn (.lst [])) it (ItO l it 0) l = some (.lst zs) := by rw [upd_ne (ne_of_none hl2 hn)]; exact hl2
  have hq3 : upd (upd H qn (.lst [])) it (ItO l it 0) qn = some (.lst []) := by rw [upd_ne hqi]; exact upd_same
  have hli : l ≠ it := ne_of_none hl2 hn
  obtain ⟨od3, J3⟩ := inst_at I3 ha3
  obtain ⟨m3, hF3⟩ := I3.fr
  refine wpAny_bind (wpAny_holding ?_)
  unfold Builtin.List.listLengthHint
  refine wpAny_bind (wpAny_bind (J3.type.here ((PySem.W.looks_findIn I3.kIn mL.at_).here ?_)))
  refine PySem.W.KFB.if_not rfl ?_
  refine PySem.W.KFB.if_so rfl ?_
  refine wpAny_bind (wpAny_rule ?_)
  refine wpAny_bind (wpAny_attempt ?_)
  refine PySem.W.len_K hF3 I3.ok.mod.kin J3 mL.at_ mL.fn (wpAny_mono (run_at0 (A := X.A.in1.in1.in1) (vs := [.ref a]) (us := [.ref a]) (Q := fun v H1 => v = .int zs.length ∧ H1 = upd (upd H qn (.lst [])) it (ItO l it 0)) (E := E0)
    FL ((hr.in1.in1.in1).mono (by omega)) rfl I3 (.cons rfl .nil) ⟨a, dx, fs, l, zs, rfl, ha3, hf, hl3, rfl, rfl⟩) (fun r s4 qq => ?_) fun _ _ x => x)
  obtain ⟨v, H4, I4, rr, ev, eH⟩ := qq
  subst ev eH
  obtain ⟨t, rfl⟩ := (show ∃ t, r = Value.int zs.length t from rr)
  have hz' := hz
  rw [sizeLine_eq] at hz
  refine ⟨⟨by omega, by omega⟩, ?_⟩
  refine wpAny_bind (wpAny_of_eq (a := some (zs.length : Int)) (by first | rfl | kernel_rfl) ?_)
  dsimp only
  refine PySem.W.KFB.if_not (by simp only [Int.toNat_natCast]; exact notLongL hz') ?_
  refine wpAny_pure ?_
  have I5 := I4.tok (s4.toks + 1)
  have fin : ∀ s5, Inv X pins σ (upd (upd H qn (.lst [])) it (ItO l it 0)) s5 → codeAny (model X.prog X.w) X.A.in1 (.builtin "list.extend.loop" ⟨[.ref qn, .ref it, .none], []⟩) (wants (fun r s₂ => r = .none ∧ EP X pins σ Q (.ref qn) s₂) X.xe) s5 := fun s5 I6 => by
    refine ext_loop (Rs := wants (fun r s₂ => r = .none ∧ EP X pins σ Q (.ref qn) s₂) X.xe) hh hql hqi hli hz' (upd (upd H qn (.lst [])) it (ItO l it 0)) (fun H' s' I' hq' c => ⟨rfl, .ref qn, H', I', rfl, q qn H' fr hq' ?_⟩) zs.length 0 _ s5 rfl (Nat.zero_le _) I6 hq3 hl3 hit ((Ch.refl _).any)
    have c2 : Ch [] H (upd (upd H qn (.lst [])) it (ItO l it 0)) := (Ch.new fr).nilL (Ch.new hn)
    have hin : H it = none := by rwa [upd_ne (Ne.symm hqi)] at hn
    exact ((c2.nilL c).drop fr).drop hin
  refine wpAny_ite_split (fun _ => ?_) (fun _ => wpAny_pure ⟨plainId_quiet PySem.F.plain_extend_loop _, fin _ I5⟩)
  refine wpAny_bind (wpAny_rule ?_)
  refine wpAny_bind ?_
  show wpAny _ _ (updateSeq qn (·.push .none) >>= fun _ => updateSeq qn (·.pop)) _ _ _
  obtain ⟨z3, its3, k3, r3, hlen3, e3⟩ := I5.lstM hq3
  cases r3
  refine wpAny_bind (wpAny_updateSeq e3 rfl ?_)
  have I6 := I5.lset (f := (·.push Value.none)) (its' := [Value.none]) (ys := [.non]) (t' := s4.toks + 1) hq3 e3 (by simp) (.cons rfl .nil) (by rw [List.length_singleton, sizeLine_eq]; decide)
  obtain ⟨z4, its4, k4, r4, hl4, e4⟩ := I6.lstM upd_same
  obtain ⟨u4, rfl, ru4⟩ := r4.one
  refine wpAny_updateSeq e4 rfl ?_ (by show 1 ≤ sizeLine; rw [sizeLine_eq]; decide) (by show 0 ≤ sizeLine + 1; exact Nat.zero_le _)
  refine wpAny_pure ⟨plainId_quiet PySem.F.plain_extend_loop _, fin _ ?_⟩
  have I7 := I6.lset (f := (·.pop)) (its := [u4]) (its' := []) (ys := []) (t' := s4.toks + 1) upd_same e4 (by rfl) .nil (Nat.zero_le _)
  rw [upd_upd] at I7
  have hH : upd (upd (upd H qn (.lst [])) it (ItO l it 0)) qn (.lst []) = upd (upd H qn (.lst [])) it (ItO l it 0) := by
    funext b
    by_cases hb : b = qn
    · rw [hb, upd_same, hq3]
    · rw [upd_ne hb]
  rw [hH] at I7
  exact I7
end
end U

set_option Elab.async false
set_option linter.all false
set_option maxRecDepth 100000
set_option maxHeartbeats 4000000
/-! enumerate over a tuple -/
namespace U
open PySem PySem.Spec PyProof.Rows L2
open Sem (wp)
open AutoSeq1 (wpAny_loadPart')
section
variable {prog : Program} {w : World} {A : Around} {E : Value → Shared → Prop} {s : Shared}
theorem nextOf_tup_item {it t : Addr} {i : Nat} {items : Array Value} {x : Value} {Q : Value → Shared → Prop} (hit : s.heap.IsTupleIter it t i) (ht : s.heap.IsTuple t items) (hx : items[i]? = some x)
    (hQ : ∀ h', h'.IsTupleIter it t (i + 1) → Heap.SameBut it s.heap h' → Q x { s with heap := h' }) : wpAny (model prog w) A (Builtin.SmallTypes.nextOf (.ref it)) Q E s := by
  obtain ⟨o, ho, hc, hd⟩ := id hit
  obtain ⟨ol, hol, _, nl, hdl⟩ := ht
  unfold Builtin.SmallTypes.nextOf
  refine wpAny_bind (wpAny_callSpecial?_slot (name := Str.ofString "__next__") hit.typeIs PySem.F.slot_tuple_iterator_next
    (wpAny_call_entry PySem.F.slot_tuple_iterator_next hit.typeIs PySem.F.entry_tuple_iterator_next ?_ (PySem.F.args_tuple_iterator_next_1 _)))
  show wpAny _ _ (field (.ref it) 0 >>= _) _ _ s
  refine wpAny_bind (wpAny_field ho hd (x := .ref t) rfl ?_)
  show wpAny _ _ (if (Value.ref t == Value.none) = true then _ else _) _ _ s
  rw [if_neg (show ¬ ((Value.ref t == Value.none) = true) from Bool.false_ne_true)]
  show wpAny _ _ (field (.ref it) 1 >>= _) _ _ s
  refine wpAny_bind (wpAny_field ho hd (x := .int i 0) rfl ?_)
  show wpAny _ _ (seqItems? (.ref t) >>= _) _ _ s
  refine wpAny_bind (wpAny_seqItems hol hdl ?_)
  simp only [Int.toNat_natCast, hx]
  refine wpAny_bind (wpAny_setField ho hd (by simp) (wpAny_pure ⟨x, rfl, wpAny_pure (hQ _ ?_ (Heap.SameBut.update ..))⟩))
  exact ⟨_, Heap.get?_update_self _ ho (Obj.isFreed_of_fields (Obj.data_mapFields hd _)), (Obj.cls_mapFields ..).trans hc, by
    rw [Obj.data_mapFields hd]; simp [rawInt]⟩
theorem nextOf_tup_end {it t : Addr} {i : Nat} {items : Array Value} {Q : Value → Shared → Prop} (hh : A.handled = none) (hit : s.heap.IsTupleIter it t i) (ht : s.heap.IsTuple t items) (hx : items[i]? = none)
    (hE : ∀ h' e, Heap.ExtBut it s.heap h' → (∃ o, h'.get? e = some o ∧ o.cls = .type "StopIteration") → E (.ref e) { s with heap := h' }) : wpAny (model prog w) A (Builtin.SmallTypes.nextOf (.ref it)) Q E s := by
  obtain ⟨o, ho, hc, hd⟩ := id hit
  obtain ⟨ol, hol, _, nl, hdl⟩ := ht
  unfold Builtin.SmallTypes.nextOf
  refine wpAny_bind (wpAny_callSpecial?_slot (name := Str.ofString "__next__") hit.typeIs PySem.F.slot_tuple_iterator_next
    (wpAny_call_entry PySem.F.slot_tuple_iterator_next hit.typeIs PySem.F.entry_tuple_iterator_next ?_ (PySem.F.args_tuple_iterator_next_1 _)))
  show wpAny _ _ (field (.ref it) 0 >>= _) _ _ s
  refine wpAny_bind (wpAny_field ho hd (x := .ref t) rfl ?_)
  show wpAny _ _ (if (Value.ref t == Value.none) = true then _ else _) _ _ s
  rw [if_neg (show ¬ ((Value.ref t == Value.none) = true) from Bool.false_ne_true)]
  show wpAny _ _ (field (.ref it) 1 >>= _) _ _ s
  refine wpAny_bind (wpAny_field ho hd (x := .int i 0) rfl ?_)
  show wpAny _ _ (seqItems? (.ref t) >>= _) _ _ s
  refine wpAny_bind (wpAny_seqItems hol hdl ?_)
  simp only [Int.toNat_natCast, hx]
  refine wpAny_bind (wpAny_rule (wpAny_bind (wpAny_setField ho hd (by simp) ?_)))
  show wpAny _ _ (newExc (.type "StopIteration") [] >>= _) _ _ _
  refine wpAny_bind ?_
  simp only [newExc, newTuple]
  refine wpAny_bind (wpAny_newObj_type ?_ (by size_fits))
  refine wpAny_bind (m := firstArgMember _ _) (wpAny_of_eq (a := Value.none) (by first | rfl | (simp only [firstArgMember]; rfl)) ?_)
  refine wpAny_newObj_type ?_ (by size_fits)
  simp only [raiseNew]
  refine wpAny_bind (wpAny_handled ?_)
  rw [show A.in1.handled = none from hh]
  refine wpAny_bind (wpAny_pure (wpAny_throw ?_))
  exact hE _ _ (((Heap.SameBut.update ..).extBut.push _).push _) ⟨_, Heap.get?_push_size _ rfl, rfl⟩
end
theorem draws_tup {prog : Program} {w : World} {A : Around} (hh : A.handled = none) (it t : Addr) (hne : t ≠ it) (items : Array Value) :
    Draws prog w A it [it, t] items.size (fun i v => items[i]? = some v) (fun i h => h.IsTupleIter it t i ∧ h.IsTuple t items) where
  live := fun _ _ st => let ⟨o, ho, _⟩ := st.1; ⟨o, ho⟩
  frame := fun _ _ _ st hk => ⟨let ⟨o, ho, r⟩ := st.1; ⟨o, hk it (by simp) o ho, r⟩, let ⟨o, ho, r⟩ := st.2; ⟨o, hk t (by simp) o ho, r⟩⟩
  item := fun i s Q E hi st hQ => by
    refine nextOf_tup_item st.1 st.2 (x := items[i]) (by simp [hi]) fun h' hit' hs' => ?_
    exact hQ _ h' s.toks (by simp [hi]) ⟨hit', st.2.extBut hs'.extBut hne⟩ hs'
  done := fun s Q E st hE => nextOf_tup_end hh st.1 st.2 (by simp) hE
theorem meets_enumerate_newT (l : Addr) (items : Array Value) (n : Nat) (dct : Option Addr) (sl : Array (Option Value)) :
    Meets (Builtin.«enumerate.__new__» ⟨[.type "enumerate", .ref l], []⟩) (fun _ R s => s.heap.get? l = some { cls := .type "tuple", dict := dct, data := .seq items n, slots := sl } ∧
      R (.ok (.ret (.ref (s.heap.push { cls := .type "tuple_iterator", data := .fields #[.ref l, .int 0 0] }).objs.size)))
        { s with heap := (s.heap.push { cls := .type "tuple_iterator", data := .fields #[.ref l, .int 0 0] }).push { cls := .type "enumerate", data := .fields #[.none, .bool false, .ref s.heap.objs.size, rawInt 0, .none, .none] } }) :=
  .of_wp fun prog w A R s h => by
    obtain ⟨hp, g, d, tk, os⟩ := s; obtain ⟨hl, h⟩ := h
    have hsub := sub_enumerate
    have hL : Heap.IsTuple (Shared.heap ⟨hp, g, d, tk, os⟩) l items := ⟨_, hl, rfl, n, rfl⟩
    wp_walk using wpAny_loadPart' hl
    refine wpAny_stack_any fun st => wpAny_pure ?_
    split
    · rename_i c _ _ _ _ _
      cases (c == Value.type "enumerate")
      · wp_walk using wpAny_loadPart' hl, wpAny_pyIter_tuple hL
        exact ⟨_, rfl, h⟩
      · wp_walk using wpAny_loadPart' hl, wpAny_pyIter_tuple hL
        exact ⟨_, rfl, h⟩
    · wp_walk using wpAny_loadPart' hl, wpAny_pyIter_tuple hL
      exact ⟨_, rfl, h⟩
theorem call_enumerate_tup {prog : Program} {w : World} {A : Around} {E : Value → Shared → Prop} {s : Shared} {l : Addr} {items : Array Value} {Q : Value → Shared → Prop} (hL : s.heap.IsTuple l items)
    (h : ∀ h', IsEnum h' (s.heap.objs.size + 1) s.heap.objs.size 0 .none → h'.IsTupleIter s.heap.objs.size l 0 → h'.objs.size = s.heap.objs.size + 2 →
      (∀ b o, s.heap.get? b = some o → h'.get? b = some o) → Q (.ref (s.heap.objs.size + 1)) { s with heap := h' }) :
    wpAny (model prog w) A (call (.type "enumerate") [.ref l]) Q E s := by
  obtain ⟨⟨c, dct, dt, sl⟩, hl, hc, n, hd⟩ := hL
  replace hc : c = .type "tuple" := hc
  replace hd : dt = .seq items n := hd
  subst hc hd
  refine callType_new PySem.F.called_enumerate (by decide) (PySem.F.typeCall_enumerate_1 _) (PySem.F.newCall_enumerate_1 _) (fun obj => PySem.F.args_object_init_2 obj _) PySem.F.entry_enumerate_new
    (meets_enumerate_newT l items n dct sl) ⟨hl, ?_⟩
  have hz : (s.heap.push { cls := .type "tuple_iterator", data := .fields #[.ref l, .int 0 0] }).objs.size = s.heap.objs.size + 1 := Heap.size_push ..
  show _ ∧ _
  rw [hz]
  have he : IsEnum ((s.heap.push { cls := .type "tuple_iterator", data := .fields #[.ref l, .int 0 0] }).push
      { cls := .type "enumerate", data := .fields #[.none, .bool false, .ref s.heap.objs.size, rawInt 0, .none, .none] }) (s.heap.objs.size + 1) s.heap.objs.size 0 .none := by
    have := Heap.get?_push_size (s.heap.push { cls := .type "tuple_iterator", data := .fields #[.ref l, .int 0 0] })
      (o := { cls := .type "enumerate", data := .fields #[.none, .bool false, .ref s.heap.objs.size, rawInt 0, .none, .none] }) rfl
    rw [hz] at this; exact this
  refine ⟨⟨_, he, rfl⟩, h _ he ⟨_, Heap.get?_push_of_some _ (Heap.get?_push_size _ rfl), rfl, rfl⟩ (by rw [Heap.size_push, hz]) fun b o x => Heap.get?_push_of_some _ (Heap.get?_push_of_some _ x)⟩
/-- the tuple at a, each item in a new pair -/
def Itet (K : PySem.W.Frag) (a : Addr) : It :=
  ⟨fun i H => ∃ (xs : List V) (x : V), SqT K H a xs ∧ xs[i]? = some x, fun i H v H' => ∃ T x, v = .ref T ∧ H T = none ∧ H' = upd H T (.tup [.int (i : Nat), x]) ∧ ∀ xs, SqT K H a xs → xs[i]? = some x, fun i H => ∃ xs : List V, SqT K H a xs ∧ xs.length ≤ i⟩
theorem enumT_end {prog : Program} {w : World} {A : Around} {E : Value → Shared → Prop} {s : Shared} {e it l : Addr} {i : Nat} {items : Array Value} {old : Value} {Q : Option Value → Shared → Prop} (hh : A.handled = none)
    (he : IsEnum s.heap e it i old) (hit : s.heap.IsTupleIter it l i) (hl : s.heap.IsTuple l items) (hx : items[i]? = none)
    (hQ : ∀ h', Heap.ExtBut it s.heap h' → Q none { s with heap := h' }) : wpAny (model prog w) A (pyNext (.ref e)) Q E s := by
  have hT : s.TypeIs (.ref e) "enumerate" := ⟨_, he, rfl⟩
  unfold pyNext
  refine wpAny_bind (wpAny_attempt (wpAny_callSpecial?_slot (name := Str.ofString "__next__") hT PySem.F.slot_enumerate_next
    (wpAny_call_entry PySem.F.slot_enumerate_next hT PySem.F.entry_enumerate_next ?_ (PySem.F.args_enumerate_next_1 _))))
  show wpAny _ _ (field (.ref e) 2 >>= _) _ _ _
  refine wpAny_bind (wpAny_field he rfl (x := .ref it) rfl ?_)
  refine wpAny_bind (nextOf_tup_end hh hit hl hx fun h' x he' hx' => ?_)
  obtain ⟨o, ho, hc⟩ := hx'
  refine wpAny_bind (wpAny_isInstance (T := "StopIteration") (b := true) ⟨o, ho, hc⟩ isSubtype_stop ?_)
  exact wpAny_pure (hQ _ he')
theorem vals_inj : ∀ {xs ys : List V} {us : List Value}, Vals xs us → Vals ys us → xs = ys
  | [], ys, _, r1, r2 => by
    cases r1
    cases r2
    rfl
  | x :: xs, ys, _, r1, r2 => by
    cases r1 with
    | cons a b =>
      cases r2 with
      | cons c d => rw [RelV.inj a c, vals_inj b d]
theorem tup_inj {X : Cx} {pins : List (Addr × Obj)} {σ : L2.St} {H : Hp} {s : Shared} {a : Addr} {xs ys : List V} (I : Inv X pins σ H s) (h : SqT X.K H a xs) (h' : SqT X.K H a ys) : xs = ys := by
  obtain ⟨its, r, ⟨o, e, _, n, d⟩, _⟩ := I.tuple h
  obtain ⟨its', r', ⟨o', e', _, n', d'⟩, _⟩ := I.tuple h'
  have z := Option.some.inj (e.symm.trans e')
  subst z
  rw [d] at d'
  have q : its = its' := by
    injection d' with d1 d2
    simpa using d1
  subst q
  exact vals_inj r r'
theorem turn_enumT {P : Program} {w : World} {K : PySem.W.Frag} {elts : List Expr} {kk : Nat} {tpos : Pos} (a e it : Addr) :
    Turn P w K (.Tuple elts kk tpos) (Itet K a) [e, it] e (fun i h => (∃ old, IsEnum h e it ((i : Nat) : Int) old) ∧ h.IsTupleIter it a i ∧ e ≠ it ∧ a ≠ it ∧ e ≠ a) where
  mem := by simp
  obj := fun i h st b hb => by
    obtain ⟨⟨old, he⟩, ⟨o, ho, hc, hd⟩, _⟩ := st
    have e' : b = e ∨ b = it := by simpa using hb
    rcases e' with z | z
    · rw [z]; exact ⟨_, he, fun v q => nomatch q⟩
    · rw [z]; exact ⟨o, ho, fun v q => by rw [hd] at q; cases q⟩
  keep := fun i h h' st k => let ⟨⟨old, he⟩, ⟨o, ho, r⟩, hne⟩ := st; ⟨⟨old, k e (by simp) _ he⟩, ⟨o, k it (by simp) o ho, r⟩, hne⟩
  item := by
    intro X hP hw hK hc i pins s σ H E I hf st hg
    subst hP hw hK
    obtain ⟨⟨old, he⟩, hit, hne, hai, hea⟩ := st
    obtain ⟨xs, x, hq, hx⟩ := hg
    obtain ⟨its, rv, p, hz⟩ := I.tuple hq
    obtain ⟨u, hu, ru⟩ := rv.get hx
    have hel : e < s.heap.objs.size := Heap.lt_size he
    have hil : it < s.heap.objs.size := by obtain ⟨_, q, _⟩ := hit; exact Heap.lt_size q
    have hlt : i < its.toArray.size := by
      rw [List.size_toArray]
      obtain ⟨q, _⟩ := List.getElem?_eq_some_iff.mp hu
      exact q
    refine wpAny_pyNext_enum_itemD (draws_tup (prog := X.prog) (w := X.w) (A := X.A.in1) (I.ok.hd hc) it a hai its.toArray) he ⟨hit, p⟩ hlt hne (by simp [hne, hea]) fun u' h' tk hu' ho hit' hT hsz hk => ?_
    have hu2 : its.toArray[i]? = some u := by rw [List.getElem?_toArray]; exact hu
    rw [hu2] at hu'
    obtain rfl := Option.some.inj hu'
    refine ⟨_, rfl, wpAny_letOwnedTupleGo_enum (s := { s with heap := h', toks := tk + 1 }) ho fun h'' he' sb => ?_⟩
    have hT2 : h''.get? s.heap.objs.size = some { cls := .type "tuple", data := .seq #[.int i tk, u] } := (sb.2 _ (Nat.ne_of_gt hel)).trans hT
    have new : ObjOk X.prog X.w (upd H s.heap.objs.size (.tup [.int (i : Nat), x])) h'' s.heap.objs.size (.tup [.int (i : Nat), x]) :=
      ⟨by show 2 ≤ sizeLine; decide, [.int i tk, u], .cons ⟨_, rfl⟩ (.cons ru .nil), ⟨_, hT2, rfl, _, rfl⟩⟩
    have I1 : Inv X pins σ (upd H s.heap.objs.size (.tup [.int (i : Nat), x])) { s with heap := h'', toks := tk + 1 } :=
      I.turnedNew (ch := [e, it]) (fun b ob hb q => (sb.2 b (fun z => hb (by simp [z]))).trans (hk b ob (fun z => hb (by simp [z])) (fun z => hb (by simp [z])) q)) hf (Nat.le_refl _) new
    refine ⟨.ref s.heap.objs.size, _, I1, rfl, ⟨_, x, rfl, I.hok.fresh (Nat.le_refl _), rfl, fun ys hy => by rw [tup_inj I hy hq]; exact hx⟩, ⟨⟨u, ?_⟩, ?_, hne, hai, hea⟩, fun b hb => ?_⟩
    · have e1 : ((i + 1 : Nat) : Int) = (i : Int) + 1 := by omega
      rw [e1]; exact he'
    · obtain ⟨o, ho2, r⟩ := hit'.1
      exact ⟨o, (sb.2 it (Ne.symm hne)).trans ho2, r⟩
    · have hb' : b < s.heap.objs.size := by
        have e' : b = e ∨ b = it := by simpa using hb
        rcases e' with z | z
        · rw [z]; exact hel
        · rw [z]; exact hil
      rw [upd_ne (Nat.ne_of_lt hb')]
      exact (hf b hb).1
  done := by
    intro X hP hw hK hc i pins s σ H E I hf st hg
    subst hP hw hK
    obtain ⟨⟨old, he⟩, hit, hne, hai, hea⟩ := st
    obtain ⟨xs, hq, hx⟩ := hg
    obtain ⟨its, rv, p, hz⟩ := I.tuple hq
    obtain ⟨f0, f1, f2, f3, f4, f5⟩ := hf it (by simp)
    have hl := rv.length
    have hn : its.toArray[i]? = none := by rw [List.getElem?_toArray]; exact List.getElem?_eq_none (by omega)
    exact enumT_end (I.ok.hd hc) he hit p hn fun h' eb => ⟨rfl, I.turned (t' := s.toks) (fun b o hb q => eb b o hb q) f0 f1 f3 f4 f5⟩
  self := fun A i s Q E st h => let ⟨⟨_, he⟩, _⟩ := st; wpAny_pyIter_enum he h
/-- enumerate(e): a list or a tuple -/
def iEnumU (K : PySem.W.Frag) (ta : TA) : TI := fun σ H R => ta σ H fun vs H1 => ∃ a xs, vs = [.ref a] ∧ ((SqL K H1 a xs ∧ R (Ite K a) H1) ∨ (SqT K H1 a xs ∧ R (Itet K a) H1))
theorem pi_enumU {X : Cx} {e : Expr} {ta : TA} {p pos tpos : Pos} {elts : List Expr} {kk : Nat} (hg : Gl X "enumerate") (hm : X.mg "enumerate" = none) (ha : PA X [e] ta) (hs : starEach [e] X.env = [(false, eval e X.env)] := by rfl) :
    PI X (.Tuple elts kk tpos) (.Call (.Name "enumerate" p) [e] [] pos) (iEnumU X.K ta) := by
  refine ⟨fun pins s σ H R I h => ?_⟩
  refine Call_ (ld_blt I hg hm boot_enumerate (PyProof.Rows.callWith_type1 (thn (ha.run pos pins s σ H _ I h) fun us s1 ⟨vs, H1, I1, r1, q1⟩ => ?_) hs rfl))
  obtain ⟨a, xs, ex, q⟩ := q1
  subst ex
  cases r1 with
  | cons r rr =>
    cases rr
    cases r
    have far : ∀ b, b ∈ [s1.heap.objs.size + 1, s1.heap.objs.size] → s1.heap.objs.size ≤ b := fun b hb => by
      have e' : b = s1.heap.objs.size + 1 ∨ b = s1.heap.objs.size := by simpa using hb
      rcases e' with z | z
      · rw [z]; exact Nat.le_add_right _ _
      · rw [z]; exact Nat.le_refl _
    rcases q with ⟨hq, q⟩ | ⟨hq, q⟩
    · obtain ⟨its, rv, p', hz⟩ := I1.list hq
      refine call_enumerate_list p'.isList fun h' he hit hsz hk => wpAny_pyIter_enum he ?_
      have I2 : Inv X pins σ H1 { s1 with heap := h' } := I1.kept (t' := s1.toks) hk
      exact ⟨s1.heap.objs.size + 1, [s1.heap.objs.size + 1, s1.heap.objs.size], _, _, H1, rfl, I2, turn_enum a (s1.heap.objs.size + 1) s1.heap.objs.size, ⟨⟨.none, he⟩, hit, Nat.succ_ne_self _⟩, fun b hb => I1.fpOk (far b hb) (I1.hok.fresh (far b hb)), q⟩
    · obtain ⟨its, rv, p', hz⟩ := I1.tuple hq
      have hal : a < s1.heap.objs.size := let ⟨o, ho, _⟩ := p'; Heap.lt_size ho
      refine call_enumerate_tup p' fun h' he hit hsz hk => wpAny_pyIter_enum he ?_
      have I2 : Inv X pins σ H1 { s1 with heap := h' } := I1.kept (t' := s1.toks) hk
      exact ⟨s1.heap.objs.size + 1, [s1.heap.objs.size + 1, s1.heap.objs.size], _, _, H1, rfl, I2, turn_enumT a (s1.heap.objs.size + 1) s1.heap.objs.size, ⟨⟨.none, he⟩, hit, Nat.succ_ne_self _, Nat.ne_of_lt hal, Nat.ne_of_gt (Nat.lt_succ_of_lt hal)⟩, fun b hb => I1.fpOk (far b hb) (I1.hok.fresh (far b hb)), q⟩
end U

set_option Elab.async false
set_option linter.all false
set_option maxRecDepth 100000
set_option maxHeartbeats 4000000
/-! further rules: enumerate's loops, dict(()), try / finally over several statements, an own error's __init__ that calls its base's, defs with a star parameter and a keyword-only one -/
namespace U
open PySem PySem.Spec PyProof.Rows L2
section
variable {K : PySem.W.Frag} {σ : L2.St} {H : Hp} {g : TG} {tb : TS} {nx bk ct : L2.St → Hp → Prop} {rt : VK} {a : Addr}
theorem goE (xs : List V) (Pv : Nat → L2.St → Hp → Prop) (h0 : Pv 0 σ H) (hl : ∀ i σ H, i ≤ xs.length → Pv i σ H → SqL K H a xs) (hs : ∀ (i : Nat) x σ H, xs[i]? = some x → Pv i σ H → ∀ T H', H T = none → H' T = some (.tup [.int (i : Nat), x]) → Ch [] H H' → g (.ref T) σ H' fun σ2 H2 => tb ⟨Pv (i + 1), rt, nx, Pv (i + 1)⟩ σ2 H2) (hd : ∀ σ H, Pv xs.length σ H → nx σ H) :
    ForG (Ite K a) g tb ⟨nx, rt, bk, ct⟩ σ H := by
  refine ⟨fun i m σ H => m = xs.length - i ∧ i ≤ xs.length ∧ Pv i σ H, ⟨xs.length, by simp, Nat.zero_le _, h0⟩, ?_⟩
  rintro i m σ H ⟨rfl, hi, p⟩
  by_cases hlt : i < xs.length
  · refine .inr ⟨⟨xs, xs[i], hl i σ H hi p, List.getElem?_eq_getElem hlt⟩, Pv (i + 1), fun σ' H' p' => ⟨xs.length - (i + 1), by omega, rfl, hlt, p'⟩, fun v H' y => ?_⟩
    obtain ⟨T, x, rfl, hT, rfl, hx⟩ := y
    exact hs i x σ H (hx xs (hl i σ H hi p)) p T _ hT upd_same (Ch.new hT)
  · have e : i = xs.length := by omega
    subst e
    exact .inl ⟨⟨xs, hl _ σ H hi p, Nat.le_refl _⟩, hd σ H p⟩
theorem goEt (xs : List V) (Pv : Nat → L2.St → Hp → Prop) (h0 : Pv 0 σ H) (hl : ∀ i σ H, i ≤ xs.length → Pv i σ H → SqT K H a xs) (hs : ∀ (i : Nat) x σ H, xs[i]? = some x → Pv i σ H → ∀ T H', H T = none → H' T = some (.tup [.int (i : Nat), x]) → Ch [] H H' → g (.ref T) σ H' fun σ2 H2 => tb ⟨Pv (i + 1), rt, nx, Pv (i + 1)⟩ σ2 H2) (hd : ∀ σ H, Pv xs.length σ H → nx σ H) :
    ForG (Itet K a) g tb ⟨nx, rt, bk, ct⟩ σ H := by
  refine ⟨fun i m σ H => m = xs.length - i ∧ i ≤ xs.length ∧ Pv i σ H, ⟨xs.length, by simp, Nat.zero_le _, h0⟩, ?_⟩
  rintro i m σ H ⟨rfl, hi, p⟩
  by_cases hlt : i < xs.length
  · refine .inr ⟨⟨xs, xs[i], hl i σ H hi p, List.getElem?_eq_getElem hlt⟩, Pv (i + 1), fun σ' H' p' => ⟨xs.length - (i + 1), by omega, rfl, hlt, p'⟩, fun v H' y => ?_⟩
    obtain ⟨T, x, rfl, hT, rfl, hx⟩ := y
    exact hs i x σ H (hx xs (hl i σ H hi p)) p T _ hT upd_same (Ch.new hT)
  · have e : i = xs.length := by omega
    subst e
    exact .inl ⟨⟨xs, hl _ σ H hi p, Nat.le_refl _⟩, hd σ H p⟩
theorem x_iEU {ta : TA} {R : It → Hp → Prop} (h : ta σ H fun vs H1 => ∃ a xs, vs = [.ref a] ∧ ((SqL K H1 a xs ∧ R (Ite K a) H1) ∨ (SqT K H1 a xs ∧ R (Itet K a) H1))) : iEnumU K ta σ H R := h
end
/-! ### dict(()) -/
def EmptyT (K : PySem.W.Frag) (T : Addr) : Prop := ∃ n sl, K.lookup T = some ⟨.type "tuple", none, .seq #[] n, sl⟩
def emptyB (K : PySem.W.Frag) (T : Addr) : Bool := match K.lookup T with
  | some ⟨.type c, none, .seq its _, _⟩ => decide (c = "tuple") && its.isEmpty
  | _ => false
theorem emptyB_ok {K : PySem.W.Frag} {T : Addr} (h : emptyB K T = true) : EmptyT K T := by
  unfold emptyB at h
  split at h
  · rename_i c its n sl e
    obtain ⟨h1, h2⟩ := Bool.and_eq_true_iff.mp h
    have e1 := of_decide_eq_true h1
    subst e1
    have e2 : its = #[] := by simpa using h2
    subst e2
    exact ⟨n, sl, e⟩
  · cases h
theorem tuple_keys_none : typeLookup (.type "tuple") "keys" = pure none := am_miss_of_fast (by first | decide +kernel | rfl)
section
variable {prog : Program} {w : World} {A : Around} {E : Value → Shared → Prop}
theorem miss_tup {s : Shared} {a : Addr} {xs : Array Value} {k : Nat} {sl : Array (Option Value)} {Q : Option Value → Shared → Prop} (hx : s.heap.get? a = some ⟨.type "tuple", none, .seq xs k, sl⟩) (hA : A.handled = none)
    (h : ∀ h' tk, (∀ b ob, s.heap.get? b = some ob → h'.get? b = some ob) → Q none { s with heap := h', toks := tk }) : wpAny (model prog w) A (getAttr? (.ref a) "keys") Q E s := by
  obtain ⟨hp, g, d, tk, os⟩ := s
  have hT : ∀ tk', (⟨hp, g, d, tk', os⟩ : Shared).TypeIs (.ref a) "tuple" := fun _ => ⟨_, hx, rfl⟩
  have hmiss := tuple_keys_none
  have hname : (["__module__", "__name__", "__qualname__", "__doc__", "__annotations__"] : List Str).contains "keys" = false := by decide +kernel
  have hsz : ("keys" : Str).length + 100 ≤ sizeLine := by first | size_fits | decide +kernel
  have f1 := sub_AttributeError
  have f3 := PySem.F.slot_tuple_getattribute.lookup
  have f4 := PySem.F.slot_tuple_getattribute.bind (.ref a)
  have f5 := am_tuple_getattr_none
  unfold getAttr? getAttrBy? getAttrBy
  repeat (any_goals (first | assumption | exact hT _ | ((with_reducible show wpAny _ _ (call (Value.builtin "tuple.__getattribute__") _ _) _ _ _); refine call_meets PySem.F.slot_tuple_getattribute (hT _) am_entry_tuple_getattribute (PySem.F.args_tuple_getattribute_2 _ _) (meets_getattribute_miss_tuple a xs k sl "keys" _ hmiss hname hsz) ⟨hx, hA, fun h' tk' e hx' => ?_⟩) | wp_step))
  obtain ⟨t', u', he⟩ := hx'.there
  show wpAny _ _ (getattributeRaised _ _ _ _ _ _ _) _ _ _
  unfold getattributeRaised
  repeat (any_goals (first | assumption | wp_step))
  all_goals first | exact h _ _ hx'.keeps | (dsimp only; repeat (any_goals (first | assumption | exact h _ _ hx'.keeps | wp_step)))
theorem call_dict_empty {s : Shared} {T : Addr} {k : Nat} {sl : Array (Option Value)} {Q : Value → Shared → Prop} (hh : A.handled = none) (hx : s.heap.get? T = some ⟨.type "tuple", none, .seq #[] k, sl⟩)
    (h : ∀ h' tk, h'.DictOf (mixKind prog w) s.heap.objs.size [] → (∀ b o, s.heap.get? b = some o → h'.get? b = some o) → Q (.ref s.heap.objs.size) { s with heap := h', toks := tk }) :
    wpAny (model prog w) A (call (.type "dict") [.ref T]) Q E s := by
  refine callType_codes (Q₁ := fun obj s₁ => obj = .ref s.heap.objs.size ∧ s₁ = { s with heap := s.heap.push { cls := .type "dict", data := .dict #[] } }) PySem.F.kt_called_dict (PySem.F.kt_typeCall_dict_1 _) PySem.F.entry_dict_init (kt_code_dict_new _ ⟨rfl, rfl⟩) ?_
  rintro obj s₁ ⟨rfl, rfl⟩
  have hnew : (s.heap.push { cls := .type "dict", data := .dict #[] }).DictOf (mixKind prog w) s.heap.objs.size [] := Heap.DictOf.new s.heap
  have k0 : ∀ b o, s.heap.get? b = some o → (s.heap.push { cls := .type "dict", data := .dict #[] }).get? b = some o := fun b o e => Heap.get?_push_of_some _ e
  refine ⟨hnew.typeIs, PySem.F.args_dict_init_2 _ _, ?_⟩
  unfold Builtin.«dict.__init__»
  refine wpAny_bind ?_
  unfold Builtin.Dict.selfAndRest
  refine wpAny_bind (wpAny_notOrdered_dict hnew.typeIs ?_)
  show wpAny _ _ (pure (s.heap.objs.size, [Value.ref T])) _ _ _
  refine wpAny_pure ?_
  show wpAny _ _ (Builtin.Dict.updateFrom "dict.__init__" s.heap.objs.size (.ref T) [] .none) _ _ _
  unfold Builtin.Dict.updateFrom
  refine wpAny_bind (wpAny_typeOf (T := "tuple") ⟨_, k0 _ _ hx, rfl⟩ ?_)
  rw [if_pos (by first | decide | rfl | simp)]
  refine wpAny_bind (miss_tup (k0 _ _ hx) hh fun h1 tk1 hk1 => ?_)
  rw [if_pos (show (none : Option Value).isNone = true from rfl)]
  refine wpAny_bind (wpAny_rule ?_)
  have hl1 : h1.IsTuple T #[] := ⟨_, hk1 _ _ (k0 _ _ hx), rfl, k, rfl⟩
  have hS1 : s.heap.objs.size < h1.objs.size := by
    have e : (s.heap.push { cls := .type "dict", data := .dict #[] }).get? s.heap.objs.size = some { cls := .type "dict", data := .dict #[] } := Heap.get?_push_size _ rfl
    exact Heap.lt_size (hk1 _ _ e)
  refine wpAny_bind (wpAny_pyIter_tuple hl1 ?_)
  have k2 : ∀ b o, h1.get? b = some o → (h1.push { cls := .type "tuple_iterator", data := .fields #[.ref T, .int 0 0] }).get? b = some o := fun b o e => Heap.get?_push_of_some _ e
  have key : codeAny (model prog w) A.in1 (.builtin "dict.update.loop" ⟨[.ref s.heap.objs.size, .ref h1.objs.size, .int 0 0, .none], []⟩) (wants (fun r s₂ => r = .none ∧ Q (.ref s.heap.objs.size) s₂) E)
      { s with heap := h1.push { cls := .type "tuple_iterator", data := .fields #[.ref T, .int 0 0] }, toks := tk1 } := by
    refine codeAny_builtin ud_entry ?_
    rw [Around.under_plainId ud_plain _]
    show wpAny _ A.in1.in1 (pyNext (.ref h1.objs.size) >>= _) _ _ _
    have hT : T < h1.objs.size := let ⟨_, e, _⟩ := hl1; Heap.lt_size e
    refine wpAny_bind (wpAny_pyNext_tuple_end (i := 0) (t := T) (items := #[]) (A := A.in1.in1) hh ⟨_, Heap.get?_push_size _ rfl, rfl, rfl⟩ (let ⟨o, e, r⟩ := hl1; ⟨o, k2 _ _ e, r⟩) rfl fun h' he => ?_)
    show wpAny _ A.in1.in1 (Builtin.Dict.addKeywords s.heap.objs.size [] >>= _) _ _ _
    refine wpAny_bind (wpAny_pure (wpAny_pure ?_))
    refine ⟨rfl, h h' tk1 ?_ fun b o e => he b o (Nat.ne_of_lt (Nat.lt_trans (Heap.lt_size e) hS1)) (k2 _ _ (hk1 _ _ (k0 _ _ e)))⟩
    exact ((hnew.at fun o e => hk1 _ _ e).at fun o e => k2 _ _ e).extBut he (Nat.ne_of_lt hS1)
  first
    | exact wpAny_pure ⟨plainId_quiet ud_plain _, key⟩
    | exact wpAny_bind (wpAny_pure (wpAny_pure ⟨plainId_quiet ud_plain _, key⟩))
end
def rDict0 (K : PySem.W.Frag) : List V → Hp → VK → Prop := fun xs H Q => ∃ T, xs = [.ref T] ∧ EmptyT K T ∧ ∀ p H', H p = none → H' p = some (.dK []) → Ch [] H H' → Q (.ref p) H'
def rDictD : List V → Hp → VK → Prop := fun xs H Q => ∃ a kvs, xs = [.ref a] ∧ H a = some (.dK kvs) ∧ ∀ p H', H p = none → H' p = some (.dK kvs) → Ch [] H H' → Q (.ref p) H'
section
variable {X : Cx}
theorem c_dict0 (hcalm : X.calm = true) : CallR X (.type "dict") (rDict0 X.K) := by
  intro pins s σ H xs us Q I r q
  obtain ⟨T, rfl, ⟨n, sl, hT⟩, q⟩ := q
  obtain rfl := Vals.ref1 r
  have fr : H s.heap.objs.size = none := I.hok.fresh (Nat.le_refl _)
  refine call_dict_empty (I.ok.hd hcalm) (I.kIn _ _ hT) fun h' tk hd' k => ?_
  have hm : (s.heap.objs.size == sysModules) = false := beq_eq_false_iff_ne.mpr (Nat.ne_of_gt I.big)
  exact ⟨.ref s.heap.objs.size, upd H s.heap.objs.size (.dK []), I.laid (t' := tk) k (Nat.le_refl _) (show ObjOk X.prog X.w _ _ _ (.dK []) from ⟨Nat.zero_le _, hm, [], .nil, hd'⟩), rfl, q _ _ fr upd_same (Ch.new fr)⟩
theorem c_dictD : CallR X (.type "dict") rDictD := by
  intro pins s σ H xs us Q I r q
  obtain ⟨a, kvs, rfl, ha, q⟩ := q
  obtain rfl := Vals.ref1 r
  exact d_copyOf I (.inl ha) fun p s' hp I' => ⟨.ref p, _, I', rfl, q p _ hp upd_same (Ch.new hp)⟩
def rDictU (K : PySem.W.Frag) : List V → Hp → VK → Prop := fun xs H Q => rDict0 K xs H Q ∨ rDictD xs H Q
theorem c_dict (hcalm : X.calm = true) : CallR X (.type "dict") (rDictU X.K) := fun pins s σ H xs us Q I r q => q.elim (fun q => c_dict0 hcalm pins s σ H xs us Q I r q) fun q => c_dictD pins s σ H xs us Q I r q
end
/-! ### try: s1; s2; return e / finally: fs, with exceptions -/
/-- the reading: behind each the next; then the finally suite, the value handed on; an exception meets the suite too -/
def tFin3 (t1 t2 : WX → TS) (te : WX → TE) (tf tfs : TS) (Wout : WX) : TS := fun D σ H =>
  t1 (wFin tfs Wout) ⟨fun σ1 H1 => t2 (wFin tfs Wout) ⟨fun σ2 H2 => te (wFin tfs Wout) σ2 H2 fun v H3 => tf { D with nx := fun _ H4 => D.rt v H4 } σ2 H3, fun _ _ => False, fun _ _ => False, fun _ _ => False⟩ σ1 H1, fun _ _ => False, fun _ _ => False, fun _ _ => False⟩ σ H
section
variable {X : Cx} {s1 s2 f₀ : Stmt} {fs : List Stmt} {e : Expr} {rp pos : Pos} {t1 t2 : WX → TS} {te : WX → TE} {tf tfs : TS} {Wout : WX}
theorem ps_fin3 (hs : X.stack = X.env :: X.outer) (hf : X.env.frame = some X.env.locals) (hex : X.ex = []) (tk : Takes X Wout)
    (h1 : ∀ (W : WX) (pn : List (Addr × Obj)) (xe : Value → Shared → Prop), Takes (X.tr pn xe) W → PassesOwn (model X.prog X.w) X.A X.env xe → PS (X.tr pn xe) s1 (t1 W))
    (h2 : ∀ (W : WX) (pn : List (Addr × Obj)) (xe : Value → Shared → Prop), Takes (X.tr pn xe) W → PassesOwn (model X.prog X.w) X.A X.env xe → PS (X.tr pn xe) s2 (t2 W))
    (he : ∀ (W : WX) (pn : List (Addr × Obj)) (xe : Value → Shared → Prop), Takes (X.tr pn xe) W → PassesOwn (model X.prog X.w) X.A X.env xe → PE (X.tr pn xe) e (te W))
    (hfin : PSs X.nox (f₀ :: fs) tf) (hsu : ∀ (a : Addr) (pn : List (Addr × Obj)), PSs (X.suite a pn) (f₀ :: fs) tfs) : PS X (.Try [s1, s2, .Return (some e) rp] [] [] (f₀ :: fs) pos) (tFin3 t1 t2 te tf tfs Wout) := by
  refine ⟨fun pins s σ H D I h => ?_⟩
  have ok := I.ok
  have key : ∀ (u : Value) (s' : Shared), XE (X.tr (X.pn ++ pins) (fun x s₁ => wpAny (model X.prog X.w) X.A (noteFrame x X.env) (fun _ s₂ => FinallyRaised X.prog X.w X.A X.xe X.env (f₀ :: fs) (SP X pins D) x s₂) (FinallyRaised X.prog X.w X.A X.xe X.env (f₀ :: fs) (SP X pins D)) s₁)) (wFin tfs Wout) u s' →
    wpAny (model X.prog X.w) X.A (noteFrame u X.env) (fun _ s₂ => FinallyRaised X.prog X.w X.A X.xe X.env (f₀ :: fs) (SP X pins D) u s₂) (FinallyRaised X.prog X.w X.A X.xe X.env (f₀ :: fs) (SP X pins D)) s' := fun u s' xx => fin_exc hs hf hex ok tk hsu xx
  generalize hxe : (fun (x : Value) (s₁ : Shared) => wpAny (model X.prog X.w) X.A (noteFrame x X.env) (fun _ s₂ => FinallyRaised X.prog X.w X.A X.xe X.env (f₀ :: fs) (SP X pins D) x s₂) (FinallyRaised X.prog X.w X.A X.xe X.env (f₀ :: fs) (SP X pins D)) s₁) = xe at key
  have tk2 : Takes (X.tr (X.pn ++ pins) xe) (wFin tfs Wout) := fun u s' xx => by
    have q := key u s' xx
    have e2 : xe u s' = wpAny (model X.prog X.w) X.A (noteFrame u X.env) (fun _ s₂ => FinallyRaised X.prog X.w X.A X.xe X.env (f₀ :: fs) (SP X pins D) u s₂) (FinallyRaised X.prog X.w X.A X.xe X.env (f₀ :: fs) (SP X pins D)) s' := by rw [← hxe]
    show xe u s'
    rw [e2]
    exact q
  have pss : PassesOwn (model X.prog X.w) X.A X.env xe := by
    rw [← hxe]
    exact PassesOwn.looking
  refine wpAny_Try_finally ?_
  have hx2 : ∀ {m : Sem Flow} {Q : Flow → Shared → Prop} {s : Shared}, wpAny (model X.prog X.w) X.A m Q xe s → wpAny (model X.prog X.w) X.A m Q (fun e s₁ => wpAny (model X.prog X.w) X.A (noteFrame e X.env) (fun _ s₂ => FinallyRaised X.prog X.w X.A X.xe X.env (f₀ :: fs) (SP X pins D) e s₂) (FinallyRaised X.prog X.w X.A X.xe X.env (f₀ :: fs) (SP X pins D)) s₁) s := fun {m Q s} q => by
    rw [hxe]
    exact q
  refine hx2 ?_
  have run1 := (h1 (wFin tfs Wout) (X.pn ++ pins) xe tk2 pss).run [] s σ H _ (I.toTry xe) h
  refine wpAny_execs_cons ?_
  refine wpAny_mono run1 (fun f z1 q => ?_) (fun _ _ z => z)
  cases f with
  | ret u =>
    obtain ⟨_, _, _, _, _, q⟩ := q
    exact q.elim
  | brk =>
    obtain ⟨_, _, _, q⟩ := q
    exact q.elim
  | cont =>
    obtain ⟨_, _, _, q⟩ := q
    exact q.elim
  | next =>
    obtain ⟨σ1, H1, I1, q1⟩ := q
    refine wpAny_execs_cons (wpAny_mono ((h2 (wFin tfs Wout) (X.pn ++ pins) xe tk2 pss).run [] z1 σ1 H1 _ I1 q1) (fun f z2 q => ?_) (fun _ _ z => z))
    cases f with
    | ret u =>
      obtain ⟨_, _, _, _, _, q⟩ := q
      exact q.elim
    | brk =>
      obtain ⟨_, _, _, q⟩ := q
      exact q.elim
    | cont =>
      obtain ⟨_, _, _, q⟩ := q
      exact q.elim
    | next =>
      obtain ⟨σ2, H2, I2, q2⟩ := q
      refine wpAny_execs_cons (wpAny_Return_some (wpAny_mono ((he (wFin tfs Wout) (X.pn ++ pins) xe tk2 pss).run [] z2 σ2 H2 _ I2 q2) (fun u z3 q => ?_) (fun _ _ z => z)))
      obtain ⟨v, H3, I3, r3, q3⟩ := q
      exact fin_ret hfin (I3.ofTry ok) r3 q3
end
/-! ### D.__init__(self, ..), D an own class over ValueError without an __init__ of its own -/
structure BaseInit (K : PySem.W.Frag) (D : Addr) : Prop where
  sp : PySem.W.specialIn K (.ref D) "__getattribute__" = some (some (.builtin "type.__getattribute__"))
  rd : PySem.W.readsIn K D (.type "type") = true
  fi : PySem.W.findCls K (.ref D) (.type "type") "__init__" = some (.val (.builtin "ValueError.__init__"))
section
variable {X : Cx} {e : Expr} {es : List Expr} {ta : TA} {p1 p2 pos : Pos}
theorem pe_veinitB {x : Str} {D : Addr} {pl : Sem Bool} (hg : Gl X x) (hm : X.mg x = some (.ref D)) (b : BaseInit X.K D) (ha : PA X (e :: es) ta) (hdb : (x == ("__debug__" : Str)) = false := by decide)
    (hc : eval (.Call (.Attribute (.Name x p1) "__init__" p2) (e :: es) [] pos) X.env = (do
      let ov ← eval (.Name x p1) X.env
      standAt p2.atName
      let (f, first) ← holding [ov] (getMethod ov "__init__" pl)
      callWith pos f first (backTo pos (starEach (e :: es) X.env)) (backToKw pos (keywordEach [] X.env))) := by rfl)
    (he : starEach (e :: es) X.env = (false, eval e X.env) :: starEach es X.env := by rfl) (hpl : (backTo pos (starEach es X.env)).any (·.1) = false := by rfl) :
    PE X (.Call (.Attribute (.Name x p1) "__init__" p2) (e :: es) [] pos) (tVeI X.K ta) := by
  refine ⟨fun pins s σ H Q I h => ?_⟩
  refine PySem.W.methodCall_KW (ld_glob I hg hm ?_ hdb) hc
  refine PySem.W.method_cls I.kIn b.sp (PySem.W.cls_value I.kIn b.rd b.fi rfl ?_)
  show wpAny _ _ (callWith pos (Value.builtin "ValueError.__init__") [] (backTo pos (starEach (e :: es) X.env)) []) _ _ _
  refine PyProof.Rows.callWith_method1 (thn (ha.run pos pins _ σ H _ (I.tok _) h) fun us s1 ⟨vs, H1, I1, r1, a, C, ws, ev, hl, T, ea, q⟩ => ?_) he hpl
  subst ev
  cases r1 with
  | @cons _ u0 _ ur ra rw' =>
    obtain rfl : u0 = Value.ref a := ra
    have hlen : ur.length ≤ sizeLine := by
      rw [← Paired.length rw', sizeLine_eq]
      omega
    exact oinit_ok T I1 ea hlen fun s' J => ⟨.non, H1, J, rfl, q⟩
end
def oexB (K : PySem.W.Frag) (C : Addr) : Bool := (match K.lookup C with
  | some ⟨.type t, _, .cls cd, sl⟩ => (match cd.mro, sl.toList with
    | .ref C' :: bm, [_, _, _, _, some (.builtin n), _] => C' == C && n == "ValueError.__new__" && !cd.hasDel && cd.hasDict && t == "type" && PySem.HandSPX.refsVE bm
    | _, _ => false)
  | _ => false) && (PySem.W.findIn K (.ref C) "__setattr__" == some (some (.builtin "object.__setattr__")) && PySem.W.subIn K (.ref C) (.type "BaseException") == some true && PySem.W.typeIn K (.ref C) == some (.type "type") && PySem.W.keepIn K (.ref C))
theorem oexB_ok {K : PySem.W.Frag} {C : Addr} (h : oexB K C = true) : OexC K C := by
  obtain ⟨h1, h2⟩ := Bool.and_eq_true_iff.mp h
  simp only [Bool.and_eq_true, beq_iff_eq] at h2
  obtain ⟨⟨⟨a, b⟩, c⟩, d⟩ := h2
  refine ⟨?_, a, b, c, d⟩
  split at h1
  · rename_i t dd cd sl ho
    split at h1
    · rename_i C' bm k0 k1 k2 k3 n k5 hm hs
      simp only [Bool.and_eq_true, beq_iff_eq, Bool.not_eq_true'] at h1
      obtain ⟨⟨⟨⟨⟨rfl, rfl⟩, hdel⟩, hdict⟩, ht⟩, hok⟩ := h1
      obtain ⟨nm, bs, mro, ns, qn, hd, sn, sub, ab, col, del⟩ := cd
      dsimp only at hm hdel hdict
      subst hm hdel hdict ht
      have hsl : sl = #[k0, k1, k2, k3, some (.builtin "ValueError.__new__"), k5] := by
        obtain ⟨l⟩ := sl
        simp only at hs
        rw [hs]
      subst hsl
      exact ⟨_, _, _, _, _, _, _, _, _, _, _, _, _, _, _, ho, hok⟩
    · cases h1
  · cases h1
def baseB (K : PySem.W.Frag) (D : Addr) : Bool := (PySem.W.specialIn K (.ref D) "__getattribute__" == some (some (.builtin "type.__getattribute__"))) && (PySem.W.readsIn K D (.type "type") && (match PySem.W.findCls K (.ref D) (.type "type") "__init__" with
  | some (.val (.builtin n)) => n == "ValueError.__init__"
  | _ => false))
theorem baseB_ok {K : PySem.W.Frag} {D : Addr} (h : baseB K D = true) : BaseInit K D := by
  obtain ⟨h1, h2⟩ := Bool.and_eq_true_iff.mp h
  obtain ⟨h2, h3⟩ := Bool.and_eq_true_iff.mp h2
  refine ⟨beq_iff_eq.mp h1, h2, ?_⟩
  split at h3
  · rename_i n e
    have q := beq_iff_eq.mp h3
    subst q
    exact e
  · cases h3
/-! ### def f(self, *v, k): called with one more argument and the keyword -/
def FnK (P : Program) (w : World) (K : PySem.W.Frag) (mg : Str → Option Value) (base : Heap) (CX : CXT) (k : Nat) (f : Addr) (nm : Str) (sp : Sp) : Prop :=
  ∀ (A : Around) (outer : List Env) (s : Shared) (H : Hp) (us : List Value) (w0 : Value) (vs : List V) (z : V) (Q : VK) (E : XK), Room k A → Env0 P w K mg base A outer s H → Vals vs us → RelV z w0 → sp (vs ++ [z]) H Q E →
    codeAny (model P w) A (.call (.ref f) ⟨us, [(nm, w0)]⟩) (CR CX outer P w H s Q E) s
theorem fn_star1kw {P : Program} {w : World} {K : PySem.W.Frag} {mg : Str → Option Value} {base : Heap} {CX : CXT} {k : Nat} {x qual : Str} {params : Arguments} {body : List Stmt} {scope : Scope} {f : Addr} {N : List Str} {p1 pk pv : Str} {sp : Sp}
    (F : ∃ fd, FunD K x qual params body scope [] [] f fd) (S : FnScope N [p1, pk, pv] scope) (hCX : StX.CXUp CX)
    (hb : ∀ (kV doc pm : Value) (an : Option Addr) (cdv ct : Value) (a y w0 : Value), bindArgs (PySem.W.fnOf x qual params body scope .none kV doc pm an cdv ct) ⟨[a, y], [(pk, w0)]⟩ = (newTuple [y] >>= fun t => pure [(p1, a), (pk, w0), (pv, t)]))
    (hbody : ∀ (cdv : Value) (A : Around) (outer : List Env) (s : Shared) (H : Hp) (vs : List V) (Q : VK) (E : XK), Room k (A.deeper (envOfC qual scope s.heap.objs.size f cdv)) → sp vs H Q E →
      ∃ t, PSs (cxOf CX P w K mg base N qual scope f cdv A outer s H E) body t ∧ t ⟨fun _ H' => Q .non H', Q, fun _ _ => False, fun _ _ => False⟩ (start N vs) H) :
    FnK P w K mg base CX (k + 1) f pk (fun vs H Q E => ∃ a y z, vs = [a, y, z] ∧ ∀ p, H p = none → sp [a, z, .ref p] (upd H p (.tup [y])) Q E) := by
  obtain ⟨fd, F⟩ := F
  obtain ⟨oc, od, dV, kV, doc, pm, an, cdv, ct, osl, rfl, lk, hcd, hD, hK⟩ := F.ex
  have hdV : dV = .none := by
    rcases hD with ⟨_, q⟩ | ⟨q, _⟩
    · exact q
    · exact absurd rfl q
  subst hdV
  intro A outer s H us w0 vs z Q E hr e0 r rz hsp
  obtain ⟨a, y, z', ev, hq⟩ := hsp
  have e2 : vs = [a, y] ∧ z = z' := by
    match vs, ev with
    | [], ev => simp at ev
    | [_], ev => simp at ev
    | [_, _], ev => simpa [and_assoc] using ev
    | _ :: _ :: _ :: _, ev => simp at ev
  obtain ⟨rfl, rfl⟩ := e2
  obtain ⟨ua, uy, rfl, ra, ry⟩ := vals2 r
  have hn : H s.heap.objs.size = Option.none := e0.hok.fresh (Nat.le_refl _)
  refine StX.run_bnd lk hcd S hr e0 (G := fun xs H2 => ∃ p, H p = Option.none ∧ xs = [a, z, .ref p] ∧ H2 = upd H p (.tup [y])) (fun A' Ex Q' h => ?_) fun s2 H2 xs ⟨p, hp, ex, eH⟩ hr' => ?_
  · rw [hb]
    refine wpAny_bind (wpAny_newTuple (wpAny_pure ?_) (by show 1 ≤ sizeLine; decide))
    have new : ObjOk P w (upd H s.heap.objs.size (.tup [y])) (s.heap.push ({ cls := .type "tuple", data := .seq [uy].toArray } : Obj)) s.heap.objs.size (.tup [y]) := ⟨by show 1 ≤ sizeLine; decide, [uy], .cons ry .nil, ⟨_, Heap.get?_push_size _ rfl, rfl, _, rfl⟩⟩
    have un := StX.un_laid (fs := frs outer) (s := s) (o := ({ cls := .type "tuple", data := .seq [uy].toArray } : Obj)) (u := .tup [y]) hn
    exact h _ _ [a, z, .ref s.heap.objs.size] [ua, w0, .ref s.heap.objs.size] (StX.env0_laid e0 new) un rfl (fun e s' => hCX outer s H _ _ E e s' un (fun b o q => Heap.get?_push_of_some _ q) rfl) (.cons ra (.cons rz (.cons rfl .nil))) rfl ⟨_, hn, rfl, rfl⟩
  · subst ex eH
    exact hbody cdv A outer s2 _ _ Q E hr' (hq p hp)
def tMethK (C : Addr) (m : Str) (sp : Sp) (E : XK) (ta : TE) (t : TA) (te : TE) : TE := fun σ H Q => ta σ H fun x H1 => ∃ a dx fs, x = .ref a ∧ H1 a = some (.ins C dx fs) ∧ fs.lookup m = none ∧ t σ H1 fun vs H2 => te σ H2 fun z H3 => ∃ z', [z] = [z'] ∧ sp (.ref a :: vs ++ [z']) H3 Q E
theorem pe_methK {X : Cx} {CX : CXT} {k : Nat} {C f : Addr} {m nm : Str} {sp : Sp} {E : XK} {o e e2 : Expr} {es : List Expr} {ta te : TE} {t : TA} {apos pos kpos : Pos} {pl : Sem Bool} (he : PE X o ta) (c : Cls X.K C) (hm : Meth X.K C m f)
    (F : FnK X.prog X.w X.K X.mg X.base CX k f nm sp) (hr : Room k X.A) (hx : Passes CX X E) (ha : PA X (e :: es) t) (h2 : PE X e2 te)
    (hall : (backToKw pos (keywordEach [⟨some nm, e2, kpos⟩] X.env)).all (·.1.isSome) = true := by rfl) (hks : (backToKw pos (keywordEach [⟨some nm, e2, kpos⟩] X.env)).filterMap (·.1) = [nm] := by rfl)
    (hst : starEach (e :: es) X.env = (false, eval e X.env) :: starEach es X.env := by rfl) (hpl : ((backTo pos (starEach (e :: es) X.env)).any (·.1) || (backToKw pos (keywordEach [⟨some nm, e2, kpos⟩] X.env)).any (·.1.isNone)) = false := by rfl)
    (ht : eval (.Call (.Attribute o m apos) (e :: es) [⟨some nm, e2, kpos⟩] pos) X.env = (do
      let ov ← eval o X.env
      standAt apos.atName
      let (f, first) ← holding [ov] (getMethod ov m pl)
      callWith pos f first (backTo pos (starEach (e :: es) X.env)) (backToKw pos (keywordEach [⟨some nm, e2, kpos⟩] X.env))) := by rfl) :
    PE X (.Call (.Attribute o m apos) (e :: es) [⟨some nm, e2, kpos⟩] pos) (tMethK C m sp E ta t te) := by
  refine ⟨fun pins s σ H Q I h => ?_⟩
  refine PySem.W.methodCall_KW (pl := pl) (thn (he.run pins s σ H _ I h) fun u s1 ⟨x, H1, I1, rx, a, dx, fs, ex, ea, l, q⟩ => ?_) ht
  subst ex
  obtain rfl : u = Value.ref a := rx
  refine getmeth_ok I1 ea c hm l ?_
  refine PySem.W.callWith_KW (first := [.ref a]) (h₀ := X.base) I1.ok.mod.kin hm.kp hall (thn (ha.run pos pins s1 σ H1 _ I1 q) fun us s2 ⟨vs, H2, I2, r, q2⟩ => ?_) hpl hst
  refine thn ((pk_cons (nm := some nm) (kpos := kpos) h2 pk_nil).run pos pins s2 σ H2 (fun zs H3 => ∃ z, zs = [z] ∧ sp (.ref a :: vs ++ [z]) H3 Q E) I2 ?_) fun ws s3 ⟨zs, H3, I3, rz, z, ez, q3⟩ => ⟨I3.kIn, ?_⟩
  · exact q2
  · rw [hks]
    subst ez
    obtain ⟨w0, rfl, rw0⟩ := vals1 rz
    refine wpAny_call (codeAny_mono (F X.A X.stack s3 H3 (.ref a :: us) w0 (.ref a :: vs) z Q E hr I3.env0 (.cons rfl r) rw0 q3) fun r s' hq => ?_)
    cases r with
    | error e => exact hx pins σ H3 s3 e s' I3 hq
    | ok fl =>
      cases fl with
      | ret u => exact I3.after hq
      | next => exact False.elim hq
      | brk => exact False.elim hq
      | cont => exact False.elim hq
theorem x_methK {C : Addr} {m : Str} {sp : Sp} {E : XK} {ta te : TE} {t : TA} {σ : L2.St} {H : Hp} {Q : VK} (h : ta σ H fun x H1 => ∃ a dx fs, x = .ref a ∧ H1 a = some (.ins C dx fs) ∧ fs.lookup m = none ∧ t σ H1 fun vs H2 => te σ H2 fun z H3 => ∃ z', [z] = [z'] ∧ sp (.ref a :: vs ++ [z']) H3 Q E) : tMethK C m sp E ta t te σ H Q := h
end U

set_option Elab.async false
set_option linter.all false
set_option maxRecDepth 100000
set_option maxHeartbeats 4000000
/-! facts of the written part, by tests -/
namespace U
open PySem PySem.Spec PyProof.Rows L2 ClX
/-- the i-th def of a property of the class -/
def pgA (K : PySem.W.Frag) (C : Addr) (f : Str) (i : Nat) : Addr := match PySem.W.recIn K (He.ma K C f) "property" with
  | some vs => (match vs[i]? with
    | some (.ref g) => g
    | _ => 0)
  | none => 0
def propB (K : PySem.W.Frag) (C : Addr) (f : Str) : Bool := PySem.W.findIn K (.ref C) f == some (some (.ref (He.ma K C f))) && (PySem.W.specialIn K (.ref (He.ma K C f)) "__get__" == some (some (.builtin "property.__get__")) && (PySem.W.takesIn K (.ref (He.ma K C f)) == some true &&
  (match PySem.W.recIn K (He.ma K C f) "property" with
  | some (.ref g :: _) => g == pgA K C f 0
  | _ => false)))
theorem propB_ok {K : PySem.W.Frag} {C : Addr} {f : Str} (h : propB K C f = true) : PropOf K C f (He.ma K C f) (pgA K C f 0) := by
  obtain ⟨h1, h⟩ := Bool.and_eq_true_iff.mp h
  obtain ⟨h2, h⟩ := Bool.and_eq_true_iff.mp h
  obtain ⟨h3, h4⟩ := Bool.and_eq_true_iff.mp h
  refine ⟨beq_iff_eq.mp h1, beq_iff_eq.mp h2, beq_iff_eq.mp h3, ?_⟩
  split at h4
  · rename_i g rest e
    have q := beq_iff_eq.mp h4
    subst q
    exact ⟨rest, e⟩
  · cases h4
def psetB (K : PySem.W.Frag) (C : Addr) (f : Str) : Bool := PySem.W.takerIn K C f == some (some (.ref (He.ma K C f))) && (PySem.W.typeIn K (.ref (He.ma K C f)) == some (.type "property") &&
  (match PySem.W.recIn K (He.ma K C f) "property" with
  | some (_ :: .ref g :: _) => g == pgA K C f 1
  | _ => false))
theorem psetB_ok {K : PySem.W.Frag} {C : Addr} {f : Str} (h : psetB K C f = true) : PropSet K C f (He.ma K C f) (pgA K C f 1) := by
  obtain ⟨h1, h⟩ := Bool.and_eq_true_iff.mp h
  obtain ⟨h2, h4⟩ := Bool.and_eq_true_iff.mp h
  refine ⟨beq_iff_eq.mp h1, beq_iff_eq.mp h2, ?_⟩
  split at h4
  · rename_i a g rest e
    have q := beq_iff_eq.mp h4
    subst q
    exact ⟨a, rest, e⟩
  · cases h4
/-- C.f is the constant v -/
def cvalB (K : PySem.W.Frag) (C : Addr) (f : Str) (v : V) : Bool := (match PySem.W.findCls K (.ref C) (.type "type") f with
  | some (.val u) => He.relB v u
  | _ => false) && (PySem.W.readsIn K C (.type "type") && PySem.W.specialIn K (.ref C) "__getattribute__" == some (some (.builtin "type.__getattribute__")))
structure CV (K : PySem.W.Frag) (C : Addr) (f : Str) (v : V) : Prop where
  cr : CRead K C (.type "type")
  cv : ∃ u, CVal K C (.type "type") f v u
theorem cvalB_ok {K : PySem.W.Frag} {C : Addr} {f : Str} {v : V} (h : cvalB K C f v = true) : CV K C f v := by
  obtain ⟨h1, h⟩ := Bool.and_eq_true_iff.mp h
  obtain ⟨h2, h3⟩ := Bool.and_eq_true_iff.mp h
  refine ⟨⟨h2, beq_iff_eq.mp h3⟩, ?_⟩
  split at h1
  · rename_i u e
    exact ⟨u, e, He.relB_ok h1⟩
  · cases h1
theorem x_cval {K : PySem.W.Frag} {C : Addr} {f : Str} {v : V} {R : V → Prop} (c : CV K C f v) (q : R v) : ∃ C' mc v' u, V.ref C = .ref C' ∧ CRead K C' mc ∧ CVal K C' mc f v' u ∧ R v' :=
  let ⟨u, k⟩ := c.cv
  ⟨C, _, v, u, rfl, c.cr, k, q⟩
def neB (K : PySem.W.Frag) (C : Addr) : Bool := PySem.W.findIn K (.ref C) "__ne__" == some (some (.builtin "object.__ne__")) && (PySem.W.subIn K (.ref C) (.type "object") == some true && (PySem.W.findIn K (.ref C) "__eq__" == some (some (.ref (He.ma K C "__eq__"))) && (PySem.W.isFn K (.ref (He.ma K C "__eq__")) && PySem.W.keepIn K (.ref (He.ma K C "__eq__")))))
theorem neB_ok {K : PySem.W.Frag} {C : Addr} (h : neB K C = true) : NeC K C (He.ma K C "__eq__") := by
  obtain ⟨h1, h⟩ := Bool.and_eq_true_iff.mp h
  obtain ⟨h2, h⟩ := Bool.and_eq_true_iff.mp h
  obtain ⟨h3, h⟩ := Bool.and_eq_true_iff.mp h
  obtain ⟨h4, h5⟩ := Bool.and_eq_true_iff.mp h
  exact ⟨beq_iff_eq.mp h1, beq_iff_eq.mp h2, ⟨beq_iff_eq.mp h3, h4, h5⟩⟩
/-- isinstance of an instance of C: C itself -/
structure IsC (K : PySem.W.Frag) (C : Addr) : Prop where
  ha : PySem.W.findIn K (.ref C) "__class__" = some (some (.builtin "object.__class__"))
  hn : PySem.W.specialIn K (.builtin "object.__class__") "__get__" = some (some (.builtin "getset_descriptor.__get__"))
  htk : PySem.W.takesIn K (.builtin "object.__class__") = some true
  hm : PySem.W.mroIn K C (.type "object") = some true
  ki : PySem.W.kitOne K (.ref C) (.ref C) = some true
def iscB (K : PySem.W.Frag) (C : Addr) : Bool := PySem.W.findIn K (.ref C) "__class__" == some (some (.builtin "object.__class__")) && (PySem.W.specialIn K (.builtin "object.__class__") "__get__" == some (some (.builtin "getset_descriptor.__get__")) && (PySem.W.takesIn K (.builtin "object.__class__") == some true && (PySem.W.mroIn K C (.type "object") == some true && PySem.W.kitOne K (.ref C) (.ref C) == some true)))
theorem iscB_ok {K : PySem.W.Frag} {C : Addr} (h : iscB K C = true) : IsC K C := by
  obtain ⟨h1, h⟩ := Bool.and_eq_true_iff.mp h
  obtain ⟨h2, h⟩ := Bool.and_eq_true_iff.mp h
  obtain ⟨h3, h⟩ := Bool.and_eq_true_iff.mp h
  obtain ⟨h4, h5⟩ := Bool.and_eq_true_iff.mp h
  exact ⟨beq_iff_eq.mp h1, beq_iff_eq.mp h2, beq_iff_eq.mp h3, beq_iff_eq.mp h4, beq_iff_eq.mp h5⟩
theorem x_isC {K : PySem.W.Frag} {a C dx : Addr} {fs : List (Str × V)} {H : Hp} {Q : VK} (h : H a = some (.ins C dx fs)) (cl : Cls K C) (i : IsC K C) (q : Q (.bl true) H) : rIsi K [.ref a, .ref C] H Q :=
  ⟨.ref a, .ref C, .ref C, .ref C, true, rfl, .own C, .base (.ins h cl i.ha i.hn i.htk i.hm), i.ki, q⟩
def exmB (K : PySem.W.Frag) (C D : Addr) : Bool := PySem.W.exmOne K (.ref C) (.ref D) == some true
theorem exmB_ok {K : PySem.W.Frag} {C D : Addr} (h : exmB K C D = true) : PySem.W.exmOne K (.ref C) (.ref D) = some true := beq_iff_eq.mp h
/-- isinstance with built-in types, by the value -/
theorem kit_ii {K : PySem.W.Frag} : PySem.W.kitOne K (.type "int") (.type "int") = some true := kit_ty (by decide +kernel)
theorem x_isNon {K : PySem.W.Frag} {T : String} {b : Bool} {H : Hp} {Q : VK} (e : kitB "NoneType" T = some b) (q : Q (.bl b) H) : rIsi K [.non, .ty T] H Q := ⟨.non, .ty T, _, _, b, rfl, .ty T, .base .non, kit_ty e, q⟩
theorem x_isInt {K : PySem.W.Frag} {T : String} {b : Bool} {i : Int} {H : Hp} {Q : VK} (e : kitB "int" T = some b) (q : Q (.bl b) H) : rIsi K [.int i, .ty T] H Q := ⟨.int i, .ty T, _, _, b, rfl, .ty T, .base (.int i), kit_ty e, q⟩
theorem x_isBl {K : PySem.W.Frag} {T : String} {b c : Bool} {H : Hp} {Q : VK} (e : kitB "bool" T = some b) (q : Q (.bl b) H) : rIsi K [.bl c, .ty T] H Q := ⟨.bl c, .ty T, _, _, b, rfl, .ty T, .base (.bl c), kit_ty e, q⟩
theorem x_isStr {K : PySem.W.Frag} {T : String} {b : Bool} {z : Str} {H : Hp} {Q : VK} (e : kitB "str" T = some b) (q : Q (.bl b) H) : rIsi K [.str z, .ty T] H Q := ⟨.str z, .ty T, _, _, b, rfl, .ty T, .base (.str z), kit_ty e, q⟩
theorem tyx_tup {K : PySem.W.Frag} {a : Addr} {xs : List V} {H : Hp} (h : SqT K H a xs) : TyX K H (.ref a) (.type "tuple") := by
  rcases h with (h | ⟨o, h⟩) | ⟨o, its, n, e1, e2, _⟩
  · exact .base (.tup h)
  · exact .fTuple h
  · exact .kTuple e1 e2
theorem tyx_lst {K : PySem.W.Frag} {a : Addr} {xs : List V} {H : Hp} (h : H a = some (.lst xs)) : TyX K H (.ref a) (.type "list") := .base (.lst h)
theorem x_isLst {K : PySem.W.Frag} {T : String} {b : Bool} {a : Addr} {xs : List V} {H : Hp} {Q : VK} (h : H a = some (.lst xs)) (e : kitB "list" T = some b) (q : Q (.bl b) H) : rIsi K [.ref a, .ty T] H Q := ⟨.ref a, .ty T, _, _, b, rfl, .ty T, tyx_lst h, kit_ty e, q⟩
theorem x_isTup {K : PySem.W.Frag} {T : String} {b : Bool} {a : Addr} {xs : List V} {H : Hp} {Q : VK} (h : SqT K H a xs) (e : kitB "tuple" T = some b) (q : Q (.bl b) H) : rIsi K [.ref a, .ty T] H Q := ⟨.ref a, .ty T, _, _, b, rfl, .ty T, tyx_tup h, kit_ty e, q⟩
end U

set_option Elab.async false
set_option linter.all false
set_option maxRecDepth 100000
set_option maxHeartbeats 4000000
/-! dicts: membership, equality of the same entries; data compared -/
namespace U
open PySem PySem.Spec PyProof.Rows L2
def flatR : V → Bool
  | .ref _ => true
  | v => flatB v
theorem eqAt_sameR {A : Around} {s : Shared} {v : V} {u u' : Value} (r : RelV v u) (r' : RelV v u') (f : flatR v = true) : SeqAt.EqAt A s u u' true := by
  cases v with
  | ref a => cases (show u = Value.ref a from r); cases (show u' = Value.ref a from r'); exact SeqAt.EqAt.same _
  | _ => exact eqAt_same r r' f
theorem hits_allR {κ : Type} [DecidableEq κ] {A : Around} {s : Shared} {kvs : List (κ × V)} {vb : List (κ × Value)} (rb : KV kvs vb) {ks : List (κ × V)} {va : List (κ × Value)} (ra : KV ks va) :
    (∀ p ∈ ks, valV kvs p.1 = some p.2 ∧ flatR p.2 = true) → PySem.W.KeqHits A s vb va true := by
  unfold KV at ra
  induction ra with
  | nil => intro _; exact .nil
  | @cons p q ps qs h t ih =>
    intro hp
    obtain ⟨h1, h2⟩ := h
    obtain ⟨e, f⟩ := hp p List.mem_cons_self
    have rr : RelO (some p.2) (valueAt vb p.1) := by rw [← e]; exact rb.val p.1
    obtain ⟨y, hy, ry⟩ := rr.some_of
    obtain ⟨k, v⟩ := q
    have h1' : p.1 = k := h1
    rw [h1'] at hy
    show PySem.W.KeqHits A s vb ((k, v) :: qs) (true && true)
    exact .hit hy (eqAt_sameR h2 ry f) (ih fun p' hm => hp p' (List.mem_cons_of_mem _ hm))
def rEqDI : R2 := fun x y H Q => ∃ a b kvs, x = .ref a ∧ y = .ref b ∧ H a = some (.dK kvs) ∧ H b = some (.dK kvs) ∧ (kvs.map (·.1)).Nodup ∧ (∀ p ∈ kvs, flatR p.2 = true) ∧ Q (.bl true) H
section
variable {X : Cx}
theorem u_eqDI (hu : X.A.units < cLine) : OpR X (compareOp .Eq) rEqDI := by
  intro pins s σ H x y v u Q I rx ry h
  obtain ⟨a, b, kvs, rfl, rfl, ea, eb, nd, fl, q⟩ := h
  obtain rfl : v = Value.ref a := rx
  obtain rfl : u = Value.ref b := ry
  obtain ⟨_, ya, va, ra, da⟩ := (show ObjOk X.prog X.w H s.heap a (.dK kvs) from I.hok a _ ea)
  obtain ⟨_, yb, vb, rb, db⟩ := (show ObjOk X.prog X.w H s.heap b (.dK kvs) from I.hok b _ eb)
  have hl : va.length = vb.length := ra.length.symm.trans rb.length
  refine PySem.W.keq_eq (knd := mixKind X.prog X.w) (r := true) ya yb da db hu (fun _ => hits_allR rb ra fun p hp => ⟨val_nodup nd p hp, fl p hp⟩) ?_
  have e : (va.length == vb.length && true) = true := by simp [hl]
  rw [e]
  exact ⟨.bl true, H, I, rfl, q⟩
def rLenD : List V → Hp → VK → Prop := fun xs H Q => ∃ a kvs, xs = [V.ref a] ∧ H a = some (.dK kvs) ∧ Q (.int (kvs.length : Nat)) H
theorem c_lenD : CallR X (.builtin "len") rLenD := by
  intro pins s σ H xs us Q I r h
  obtain ⟨a, kvs, rfl, e, q⟩ := h
  obtain rfl := Vals.ref1 r
  exact d_len I (.inl e) fun t s' I' => ⟨.int kvs.length, H, I', ⟨t, rfl⟩, q⟩
def rSortD : List V → Hp → VK → Prop := fun xs H Q => ∃ (a : Addr) (kvs : List (Key × V)) (ks : List Str), xs = [.ref a] ∧ Rd H a (.dK kvs) ∧ kvs.map (·.1) = ks.map Sum.inr ∧ ks.length < 64 ∧ ∀ ys p, ys.Perm ks → sortedS ys = true → H p = none → Q (.ref p) (upd H p (.lst (ys.map V.str)))
theorem c_sortD (hcalm : X.calm = true) : CallR X (.builtin "sorted") rSortD := call_sortedD hcalm
def rInD : R2 := fun x y H Q => ∃ a o, y = .ref a ∧ DGet H a x o ∧ Q (.bl o.isSome) H
def rNotInD : R2 := fun x y H Q => ∃ a o, y = .ref a ∧ DGet H a x o ∧ Q (.bl (!o.isSome)) H
theorem u_inD (hu : X.A.units + 1 < cLine) : OpR X (compareOp .In) rInD := by
  intro pins s σ H x y v u Q I rx ry h
  obtain ⟨a, o, rfl, g, q⟩ := h
  obtain rfl : u = Value.ref a := ry
  exact d_in hu I g rx fun s3 I3 => ⟨.bl o.isSome, H, I3, rfl, q⟩
theorem u_notinD (hu : X.A.units + 1 < cLine) : OpR X (compareOp .NotIn) rNotInD := by
  intro pins s σ H x y v u Q I rx ry h
  obtain ⟨a, o, rfl, g, q⟩ := h
  obtain rfl : u = Value.ref a := ry
  exact d_notIn hu I g rx fun s3 I3 => ⟨.bl (!o.isSome), H, I3, rfl, q⟩
end
section
variable {K : PySem.W.Frag} {H : Hp} {Q : VK} {x y v : V} {d e : PyData} {a : Addr} {z : Str} {kvs : List (Key × V)}
theorem x_eqDat (h1 : Dt K H x d) (h2 : Dt K H y e) (s1 : SeqAt.shaped d = true) (s2 : SeqAt.shaped e = true) (q : Q (.bl (PyData.eqv d e)) H) : rEqU K x y H Q := .inr ⟨d, e, h1.dp, h2.dp, s1, s2, q⟩
theorem x_inD (h : H a = some (.dK kvs)) (q : Q (.bl (valV kvs (.inr z)).isSome) H) : rInD (.str z) (.ref a) H Q := ⟨a, _, rfl, DGet.k (k := .inr z) h, q⟩
theorem x_notInD (h : H a = some (.dK kvs)) (q : Q (.bl (!(valV kvs (.inr z)).isSome)) H) : rNotInD (.str z) (.ref a) H Q := ⟨a, _, rfl, DGet.k (k := .inr z) h, q⟩
theorem x_inDy (h : H a = some (.dK kvs)) (l : valV kvs (.inr z) = some v) (q : Q (.bl true) H) : rInD (.str z) (.ref a) H Q := x_inD h (by rw [l]; exact q)
theorem x_inDn (h : H a = some (.dK kvs)) (l : valV kvs (.inr z) = none) (q : Q (.bl false) H) : rInD (.str z) (.ref a) H Q := x_inD h (by rw [l]; exact q)
theorem x_notInDy (h : H a = some (.dK kvs)) (l : valV kvs (.inr z) = some v) (q : Q (.bl false) H) : rNotInD (.str z) (.ref a) H Q := x_notInD h (by rw [l]; exact q)
theorem x_notInDn (h : H a = some (.dK kvs)) (l : valV kvs (.inr z) = none) (q : Q (.bl true) H) : rNotInD (.str z) (.ref a) H Q := x_notInD h (by rw [l]; exact q)
theorem x_dget {R : V → Prop} (h : H a = some (.dK kvs)) (l : valV kvs (.inr z) = some v) (q : R v) : ∃ b w, V.ref a = .ref b ∧ DGet H b (.str z) (some w) ∧ R w := ⟨a, v, rfl, by rw [← l]; exact DGet.k (k := .inr z) h, q⟩
theorem x_dput {nx : Hp → Prop} (h : H a = some (.dK kvs)) (hl : kvs.length < sizeLine) (n : valV kvs (.inr z) = none) (q : ∀ H', H' a = some (.dK (kvs ++ [(.inr z, v)])) → Ch [a] H H' → nx H') : ∃ b H', V.ref a = .ref b ∧ DPut H b (.str z) v H' ∧ nx H' := by
  refine ⟨a, _, rfl, DPut.k (k := .inr z) h hl, q _ ?_ (Ch.mut h rfl)⟩
  rw [upd_same, putK_new v n]
theorem x_eqDI {b : Addr} (ha : H a = some (.dK kvs)) (hb : H b = some (.dK kvs)) (nd : (kvs.map (·.1)).Nodup) (fl : ∀ p ∈ kvs, flatR p.2 = true) (q : Q (.bl true) H) : rEqDI (.ref a) (.ref b) H Q := ⟨a, b, kvs, rfl, rfl, ha, hb, nd, fl, q⟩
end
/-! ### names with values, in order: a dict -/
/-- a table of names and data -/
def DvA (K : PySem.W.Frag) (H : Hp) : List (Key × V) → List (Str × PyData) → Prop
  | [], [] => True
  | (k, v) :: r, (z, d) :: s => k = .inr z ∧ Dt K H v d ∧ DvA K H r s
  | _, _ => False
section
variable {K : PySem.W.Frag} {H H' : Hp} {S : List Addr}
theorem DvA.ch : ∀ {kvs : List (Key × V)} {ks : List (Str × PyData)}, DvA K H kvs ks → Ch S H H' → DvA K H' kvs ks
  | [], [], _, _ => trivial
  | (k, v) :: r, (z, d) :: s, h, c => ⟨h.1, h.2.1.ch c, h.2.2.ch c⟩
  | [], _ :: _, h, _ => h.elim
  | _ :: _, [], h, _ => h.elim
theorem DvA.snoc {z : Str} {v : V} {d : PyData} (hd : Dt K H v d) : ∀ {kvs : List (Key × V)} {ks : List (Str × PyData)}, DvA K H kvs ks → DvA K H (kvs ++ [(.inr z, v)]) (ks ++ [(z, d)])
  | [], [], _ => ⟨rfl, hd, trivial⟩
  | (k, v) :: r, (z, d) :: s, h => ⟨h.1, h.2.1, DvA.snoc hd h.2.2⟩
  | [], _ :: _, h => h.elim
  | _ :: _, [], h => h.elim
theorem DvA.length : ∀ {kvs : List (Key × V)} {ks : List (Str × PyData)}, DvA K H kvs ks → kvs.length = ks.length
  | [], [], _ => rfl
  | (k, v) :: r, (z, d) :: s, h => by rw [List.length_cons, List.length_cons, h.2.2.length]
  | [], _ :: _, h => h.elim
  | _ :: _, [], h => h.elim
theorem DvA.keys : ∀ {kvs : List (Key × V)} {ks : List (Str × PyData)}, DvA K H kvs ks → kvs.map (·.1) = (ks.map (·.1)).map Sum.inr
  | [], [], _ => rfl
  | (k, v) :: r, (z, d) :: s, h => by
    rw [List.map_cons, List.map_cons, List.map_cons, h.2.2.keys, h.1]
  | [], _ :: _, h => h.elim
  | _ :: _, [], h => h.elim
/-- looked up -/
theorem DvA.get {z : Str} : ∀ {kvs : List (Key × V)} {ks : List (Str × PyData)}, DvA K H kvs ks → (valV kvs (.inr z) = none ∧ ks.lookup z = none) ∨ ∃ v d, valV kvs (.inr z) = some v ∧ ks.lookup z = some d ∧ Dt K H v d
  | [], [], _ => .inl ⟨rfl, rfl⟩
  | (k, v) :: r, (y, d) :: s, h => by
    obtain ⟨h1, h2, h3⟩ := h
    subst h1
    by_cases e : y = z
    · subst e
      exact .inr ⟨v, d, valV_pos rfl, by simp [List.lookup], h2⟩
    · have e1 : valV ((.inr y, v) :: r) (.inr z) = valV r (.inr z) := valV_neg fun q => e (by injection q)
      have e2 : List.lookup z ((y, d) :: s) = List.lookup z s := by
        have : (z == y) = false := by simpa using fun q => e q.symm
        simp [List.lookup, this]
      rw [e1, e2]
      exact DvA.get h3
  | [], _ :: _, h => h.elim
  | _ :: _, [], h => h.elim
theorem lookup_none {z : Str} {β : Type} : ∀ {ks : List (Str × β)}, z ∉ ks.map (·.1) → ks.lookup z = none
  | [], _ => rfl
  | (y, d) :: s, h => by
    have h1 : z ≠ y := fun q => h (by rw [q]; exact List.mem_cons_self)
    have h3 : (z == y) = false := by simpa using h1
    have h2 : (match z == y with | true => some d | false => List.lookup z s) = none := by
      rw [h3]
      exact lookup_none fun m => h (List.mem_cons_of_mem _ m)
    exact h2
/-- of names that are in order apart -/
theorem lookup_some {z : Str} {β : Type} {d : β} : ∀ {ks : List (Str × β)}, (ks.map (·.1)).Nodup → (z, d) ∈ ks → ks.lookup z = some d
  | [], _, h => by cases h
  | (y, e) :: s, nd, h => by
    rw [List.map_cons, List.nodup_cons] at nd
    rcases List.mem_cons.mp h with q | q
    · injection q with q1 q2
      subst q1 q2
      simp [List.lookup]
    · have h1 : z ≠ y := fun w => nd.1 (by rw [← w]; exact List.mem_map.mpr ⟨_, q, rfl⟩)
      have h3 : (z == y) = false := by simpa using h1
      have h2 : (match z == y with | true => some e | false => List.lookup z s) = some d := by
        rw [h3]
        exact lookup_some nd.2 q
      exact h2
theorem DvA.flat : ∀ {kvs : List (Key × V)} {ks : List (Str × PyData)}, DvA K H kvs ks → ∀ p ∈ kvs, flatR p.2 = true
  | [], [], _ => fun p hp => by cases hp
  | (k, v) :: r, (z, d) :: s, h => fun p hp => by
    rcases List.mem_cons.mp hp with q | q
    · rw [q]
      obtain ⟨_, h2, _⟩ := h
      cases h2 <;> rfl
    · exact DvA.flat h.2.2 p q
  | [], _ :: _, h => h.elim
  | _ :: _, [], h => h.elim
theorem DvA.nodup {kvs : List (Key × V)} {ks : List (Str × PyData)} (h : DvA K H kvs ks) (nd : (ks.map (·.1)).Nodup) : (kvs.map (·.1)).Nodup := by
  rw [h.keys]
  exact List.Pairwise.map _ (fun a b q e => q (by injection e)) nd
end
end U

set_option Elab.async false
set_option linter.all false
set_option maxRecDepth 100000
set_option maxHeartbeats 4000000
/-! steps over attributes, dicts, own methods, properties -/
namespace U
open PySem PySem.Spec PyProof.Rows L2 ClX
/-- a new instance -/
def NwO (H1 : Hp) (C : Addr) (R : Addr → Hp → Prop) : Prop := ∀ x dx H', H1 x = none → H1 dx = none → dx ≠ x → H' = upd (upd H1 dx (.own x)) x (.ins C dx []) → R x H'
section
variable {K : PySem.W.Frag} {σ : L2.St} {H : Hp} {Q : VK} {v x y : V} {a b C dx : Addr} {fs : List (Str × V)} {f m : Str} {ta tb tv te to ti : TE} {tA : TA} {D : Ends} {sp : Sp} {E : XK} {nx bk ct : L2.St → Hp → Prop} {rt : VK} {kvs : List (Key × V)} {z : Str}
theorem x_fld (h : ta σ H fun x H1 => ∃ a C dx fs v, x = .ref a ∧ H1 a = some (.ins C dx fs) ∧ Cls K C ∧ NoAttr K C f ∧ fs.lookup f = some v ∧ Q v H1) : tFld K ta f σ H Q := h
theorem x_fldB {R : V → Prop} (h : H a = some (.ins C dx fs)) (c : Cls K C) (n : NoAttr K C f) (l : fs.lookup f = some v) (q : R v) : ∃ a' C' dx' fs' v', V.ref a = .ref a' ∧ H a' = some (.ins C' dx' fs') ∧ Cls K C' ∧ NoAttr K C' f ∧ fs'.lookup f = some v' ∧ R v' := ⟨a, C, dx, fs, v, rfl, h, c, n, l, q⟩
theorem x_sfld (h : tv σ H fun y H1 => ta σ H1 fun x H2 => ∃ a C dx fs, x = .ref a ∧ H2 a = some (.ins C dx fs) ∧ Cls K C ∧ NoAttr K C f ∧ fs.length < 1000 ∧ nx σ (upd H2 a (.ins C dx (putF f y fs)))) : sFld K ta tv f ⟨nx, rt, bk, ct⟩ σ H := h
theorem x_sfldB {R : Hp → Prop} (h : H a = some (.ins C dx fs)) (c : Cls K C) (n : NoAttr K C f) (hl : fs.length < 1000) (q : ∀ H', H' a = some (.ins C dx (putF f y fs)) → Ch [a] H H' → R H') : ∃ a' C' dx' fs', V.ref a = .ref a' ∧ H a' = some (.ins C' dx' fs') ∧ Cls K C' ∧ NoAttr K C' f ∧ fs'.length < 1000 ∧ R (upd H a' (.ins C' dx' (putF f y fs'))) := ⟨a, C, dx, fs, rfl, h, c, n, hl, q _ upd_same (Ch.mut h rfl)⟩
theorem x_cvalS (h : ta σ H fun x H1 => ∃ C mc v u, x = .ref C ∧ CRead K C mc ∧ CVal K C mc f v u ∧ Q v H1) : tCVal K ta f σ H Q := h
theorem x_dgetS (h : ta σ H fun x H1 => tb σ H1 fun y H2 => ∃ a v, x = .ref a ∧ DGet H2 a y (some v) ∧ Q v H2) : tDGet ta tb σ H Q := h
theorem x_dputS (h : tv σ H fun v H1 => ta σ H1 fun x H2 => tb σ H2 fun y H3 => ∃ a H4, x = .ref a ∧ DPut H3 a y v H4 ∧ nx σ H4) : sDPut ta tb tv ⟨nx, rt, bk, ct⟩ σ H := h
theorem x_callTy {r : List V → Hp → VK → Prop} (h : tA σ H fun vs H1 => r vs H1 Q) : tCB r tA σ H Q := h
theorem x_subOS (h : to σ H fun x H1 => ti σ H1 fun y H2 => ∃ a dx fs, x = .ref a ∧ H2 a = some (.ins C dx fs) ∧ sp [.ref a, y] H2 Q E) : tSubO C sp E to ti σ H Q := h
theorem x_putOS (h : tv σ H fun v H1 => to σ H1 fun x H2 => ti σ H2 fun y H3 => ∃ a dx fs, x = .ref a ∧ H3 a = some (.ins C dx fs) ∧ sp [.ref a, y, v] H3 (fun _ H' => nx σ H') E) : sPutO C sp E to ti tv ⟨nx, rt, bk, ct⟩ σ H := h
theorem x_psetS (h : tv σ H fun v H1 => to σ H1 fun x H2 => ∃ a dx fs, x = .ref a ∧ H2 a = some (.ins C dx fs) ∧ sp [.ref a, v] H2 (fun _ H' => nx σ H') E) : sPset C sp E to tv ⟨nx, rt, bk, ct⟩ σ H := h
theorem x_propS {dvs : List V} (h : ta σ H fun x H1 => ∃ a dx fs, x = .ref a ∧ H1 a = some (.ins C dx fs) ∧ sp (.ref a :: dvs) H1 Q E) : tProp C sp dvs E ta σ H Q := h
theorem x_methR (h : ta σ H fun x H1 => ∃ a dx fs, x = .ref a ∧ H1 a = some (.ins C dx fs) ∧ fs.lookup m = none ∧ tA σ H1 fun vs H2 => sp (x :: vs) H2 Q E) : tMethR C m sp E ta tA σ H Q := h
theorem x_makeR (h : tA σ H fun vs H1 => NwO H1 C fun x H' => sp (V.ref x :: vs) H' (fun v H2 => v = .non ∧ Q (.ref x) H2) E) : StX.tMakeR C sp E tA σ H Q := by
  have e : (fun (vs : List V) (H1 : Hp) => NwO H1 C fun x H' => sp (V.ref x :: vs) H' (fun v H2 => v = .non ∧ Q (.ref x) H2) E) = fun vs H1 => ∀ x dx, H1 x = none → H1 dx = none → dx ≠ x → sp (V.ref x :: vs) (upd (upd H1 dx (.own x)) x (.ins C dx [])) (fun v H2 => v = .non ∧ Q (.ref x) H2) E := by
    funext vs H1
    exact propext ⟨fun z x dx a b c => z x dx _ a b c rfl, fun z x dx H' a b c e => by rw [e]; exact z x dx a b c⟩
  rw [e] at h
  exact h
/-- the object of an own operation, at hand -/
theorem x_obj {R : Addr → Prop} (h : H a = some (.ins C dx fs)) (q : R a) : ∃ a' dx' fs', V.ref a = .ref a' ∧ H a' = some (.ins C dx' fs') ∧ R a' := ⟨a, dx, fs, rfl, h, q⟩
theorem x_objM {R : Addr → Prop} (h : H a = some (.ins C dx fs)) (l : fs.lookup m = none) (q : R a) : ∃ a' dx' fs', V.ref a = .ref a' ∧ H a' = some (.ins C dx' fs') ∧ fs'.lookup m = none ∧ R a' := ⟨a, dx, fs, rfl, h, l, q⟩
theorem nO {R : Addr → Hp → Prop} (q : ∀ x dx H', H x = none → H' x = some (.ins C dx []) → Ch [] H H' → R x H') : NwO H C R := fun x dx H' hx hd ne e =>
  q x dx H' hx (by rw [e]; exact upd_same) (by rw [e]; exact (Ch.new hd).nilL (Ch.new (by rw [upd_ne (Ne.symm ne)]; exact hx)))
end
section
variable {X : Cx} {CX : CXT} {k : Nat} {f C : Addr} {sp : Sp} {E : XK} {x m : Str} {p pos apos : Pos} {o : Expr} {ta : TE}
/-- C() -/
theorem pe_makeR0 (M : Mk X.K C f) (F : FnR X.prog X.w X.K X.mg X.base CX k f sp) (hr : Room (k + 1) X.A) (hg : Gl X x) (hm : X.mg x = some (.ref C)) (hx : Passes CX X E) (hdb : (x == ("__debug__" : Str)) = false := by decide) :
    PE X (.Call (.Name x p) [] [] pos) (StX.tMakeR C sp E tNil) := by
  refine ⟨fun pins s σ H Q I h => ?_⟩
  refine wpAny_Call_Name_kw (ld_glob I hg hm ?_ hdb)
  exact PySem.W.callWith_K0 I.kIn M.kp (StX.run_makeR (us := []) M F hr hx I .nil h)
end
/-! ### inside a comprehension: K told -/
section
variable {X : Cx} {K : PySem.W.Frag}
theorem pe_fldE {e : Expr} {f : Str} {pos : Pos} {ta : TE} (hK : X.K = K) (he : PE X e ta) (hb : attributeBase e f X.env (eval e X.env) = eval e X.env) : PE X (.Attribute e f pos) (tFld K ta f) := by subst hK; exact pe_fld he hb
theorem ix_seqE (hK : X.K = K) : IxR X (rIx K) := by subst hK; exact ix_seq
theorem u_eqE (hK : X.K = K) (hu : X.A.units + 64 < cLine) : OpR X (compareOp .Eq) (rEqU K) := by subst hK; exact u_eq hu
theorem u_neE (hK : X.K = K) (hu : X.A.units + 64 < cLine) : OpR X (compareOp .NotEq) (rNeU K) := by subst hK; exact u_ne hu
theorem u_addE (hK : X.K = K) : OpR X (binaryOp .Add) (rAdd K) := by subst hK; exact u_add
theorem u_inE (hK : X.K = K) : OpR X (compareOp .In) (rInU K) := by subst hK; exact u_in
theorem u_notinE (hK : X.K = K) : OpR X (compareOp .NotIn) (rNotInU K) := by subst hK; exact u_notin
theorem c_lenE (hK : X.K = K) : CallR X (.builtin "len") (rLenC K) := by subst hK; exact c_len
theorem c_listE (hK : X.K = K) : CallR X (.type "list") (rListC K) := by subst hK; exact c_list
theorem c_tupleE (hK : X.K = K) : CallR X (.type "tuple") (rTupC K) := by subst hK; exact c_tuple
theorem c_isiE (hK : X.K = K) : CallR X (.builtin "isinstance") (rIsi K) := by subst hK; exact call_isi
end
section
variable {K : PySem.W.Frag} {σ : L2.St} {H : Hp} {v : V} {vs xs r : List V} {a : Addr} {Qs : L2.St → Hp → Prop} {t : TG} {u us : TGs} {n : Nat} {Q : VK}
theorem x_gtup (h : SqT K H a xs) (hl : xs.length = n) (q : us xs σ H Qs) : gTup K n us (.ref a) σ H Qs := ⟨a, xs, rfl, h, hl, q⟩
theorem x_gcons (q : t v σ H fun σ' H' => u r σ' H' Qs) : gCons t u (v :: r) σ H Qs := ⟨v, r, rfl, q⟩
theorem x_gnil (q : Qs σ H) : gNil [] σ H Qs := ⟨rfl, q⟩
def NwD (H1 : Hp) (R : Addr → Hp → Prop) : Prop := ∀ p H', H1 p = none → H' = upd H1 p (.dK []) → R p H'
theorem x_dnew (h : NwD H fun p H' => Q (.ref p) H') : tDNewK σ H Q := fun p hp => h p _ hp rfl
theorem nD {R : Addr → Hp → Prop} (q : ∀ p H', H p = none → H' p = some (.dK []) → Ch [] H H' → R p H') : NwD H R := fun p H' hp e => q p H' hp (by rw [e]; exact upd_same) (by rw [e]; exact Ch.new hp)
end
section
variable {X : Cx} {K : PySem.W.Frag} {CX : CXT} {k : Nat} {C p g : Addr} {f : Str} {ps : List Str} {sp : Sp} {E : XK} {e : Expr} {pos : Pos} {ta : TE}
theorem pg_tupE {es : List Expr} {k : Nat} {t : TGs} {n : Nat} (hK : X.K = K) (hc : X.calm = true) (h : PGs X es t)
    (hn : (assignEach es X.env).length = n := by rfl) (hst : (assignEach es X.env).findIdx? (·.1) = none := by rfl) : PG X (.Tuple es k pos) (gTup K n t) := by
  subst hK
  exact pg_tup hc h hn hst
theorem pe_propF (he : PE X e ta) (c : Cls X.K C) (hp : PropOf X.K C f p g) (F : FD X.prog X.w X.K X.mg X.base CX0 k g ps sp) (hr : Room (k + 1) X.A) (hab : attributeBase e f X.env (eval e X.env) = eval e X.env := by rfl) : PE X (.Attribute e f pos) (tProp C sp [] E ta) := by
  refine ⟨fun pins s σ H Q I h => ?_⟩
  obtain ⟨fd, F1, b⟩ := F.ex
  exact (pe_prop (E := E) he c hp F1 hr b .nil (fun _ _ _ _ _ _ _ h => h.elim) hab).run pins s σ H Q I h
end
end U

set_option Elab.async false
set_option linter.all false
set_option maxRecDepth 100000
set_option maxHeartbeats 4000000
/-! l.extend(t) of a tuple; l.pop(); steps -/
namespace U
open PySem PySem.Spec PyProof.Rows L2
open AutoSeq1 (wpAny_loadPart')
theorem extend_tup (l : Addr) (items : Array Value) (n : Nat) (b : Addr) (items2 : Array Value) (n2 : Nat) (dct : Option Addr) (sl : Array (Option Value)) (hs0 : ¬(!items.isEmpty && Builtin.List.listTooLong (items.size + items2.size)) = true) (hs1 : items.size ≤ sizeLine) (hs2 : items.size + items2.size ≤ sizeLine + 1) :
    Meets (Builtin.«list.extend» ⟨[.ref l, .ref b], []⟩) (fun _ R s => s.heap.get? l = some { cls := .type "list", dict := none, data := .seq items n, slots := #[] } ∧ s.heap.get? b = some { cls := .type "tuple", dict := dct, data := .seq items2 n2, slots := sl } ∧ R (.ok (.ret Value.none)) { s with heap := s.heap.update l (Obj.mapSeq fun x => x ++ items2), toks := s.toks }) :=
  .of_wp fun prog w A R s h => by
    obtain ⟨hp, g, d, tk, os⟩ := s; obtain ⟨hl, hb, h⟩ := h; have f1 := AutoSeq1.idx_int; have f2 := AutoSeq1.sub_tuple_tuple; have f3 := AutoSeq1.sub_list_list; have f4 := AutoSeq1.sub_tuple_list; have f5 := AutoSeq1.sub_list_tuple;
    have hz' : (items ++ items2).size ≤ sizeLine + 1 := by rw [Array.size_append]; exact hs2
    wp_walk using (wpAny_updateSeq hl rfl (hz := hs1) (_hz' := hz')), wpAny_loadPart' hl, wpAny_loadPart' hb; exact ⟨_, rfl, h⟩
def rExtendT (K : PySem.W.Frag) : V → List V → Hp → VK → Prop := fun x vs H Q => ∃ l b xs zs, x = .ref l ∧ vs = [.ref b] ∧ H l = some (.lst xs) ∧ SqT K H b zs ∧ xs.length + zs.length ≤ sizeLine ∧ Q .non (upd H l (.lst (xs ++ zs)))
theorem mt_extendT {X : Cx} : MtR X "list.extend" (rExtendT X.K) := by
  intro pins s σ H x vs v us Q I rx rv h
  obtain ⟨l, b, xs, zs, rfl, rfl, hH, hB, hz, q⟩ := h
  cases rx
  obtain ⟨u, rfl, ru⟩ := rv.one
  cases ru
  obtain ⟨z, its, n, r, hl, e⟩ := I.lstM hH
  obtain ⟨its2, r2, ⟨⟨oc, dct, dt, sl⟩, e2, hc, n2, hd⟩, z2⟩ := I.tuple hB
  simp only at hc hd
  subst hc hd
  have hl2 := r2.length
  have hsz : its.toArray.size + its2.toArray.size ≤ sizeLine := by rw [List.size_toArray, List.size_toArray]; omega
  have hlong : ¬ (!its.toArray.isEmpty && Builtin.List.listTooLong (its.toArray.size + its2.toArray.size)) = true := by
    rw [notLongL hsz, Bool.and_false]
    exact Bool.false_ne_true
  refine call_meets PySem.F.slot_list_extend ⟨_, e, rfl⟩ PySem.F.entry_list_extend (PySem.F.args_list_extend_2 _ _)
    (extend_tup l its.toArray n b its2.toArray n2 dct sl hlong (by rw [List.size_toArray]; omega) (by omega)) ⟨e, e2, ?_⟩
  refine ⟨.non, _, I.lset (its' := its ++ its2) hH e (by simp) (r.append r2) ?_, rfl, q⟩
  rw [List.length_append]
  omega
section
variable {K : PySem.W.Frag} {H : Hp} {Q : VK} {l b : Addr} {xs zs : List V} {y : V}
theorem x_extendT (h : H l = some (.lst xs)) (hb : SqT K H b zs) (hz : xs.length + zs.length ≤ sizeLine) (q : ∀ H', H' l = some (.lst (xs ++ zs)) → Ch [l] H H' → Q .non H') : rExtendT K (.ref l) [.ref b] H Q := ⟨l, b, xs, zs, rfl, rfl, h, hb, hz, q _ upd_same (Ch.mut h rfl)⟩
theorem x_pop (h : H l = some (.lst (xs ++ [y]))) (q : ∀ H', H' l = some (.lst xs) → Ch [l] H H' → Q y H') : rPop (.ref l) [] H Q := by
  refine ⟨l, xs ++ [y], y, rfl, rfl, h, by simp, ?_⟩
  rw [List.dropLast_concat]
  exact q _ upd_same (Ch.mut h rfl)
end
end U

set_option Elab.async false
set_option linter.all false
set_option maxRecDepth 100000
set_option maxHeartbeats 4000000
/-! a hook over a small part of the heap: the globals' dict, what it names, the classes' dicts, what these name, codes, defaults -/
namespace U
open PySem PySem.Spec PyProof.Rows L2
def refsN (o : Obj) : List Addr := match o.data with
  | .func fd => He.refV fd.code ++ (He.refV fd.defaults ++ He.refV fd.kwdefaults)
  | .cls cd => [cd.ns]
  | .fields vs => vs.toList.flatMap He.refV
  | .seq its _ => its.toList.flatMap He.refV
  | _ => []
def refsDict (o : Obj) : List Addr := match o.data with
  | .dict es _ => es.toList.flatMap fun e => He.refV e.val
  | _ => []
def stepN (g : Addr → Option Obj) (f : Obj → List Addr) (as : List Addr) : List Addr := as.flatMap fun a => match g a with
  | some o => f o
  | none => []
/-- addresses, forced one by one -/
def frAs {α : Type} : List Addr → List Addr → (List Addr → α) → α
  | [], acc, k => k acc
  | a :: r, acc, k => HandSHeadRun.frNat a fun a => frAs r (a :: acc) k
theorem frAs_eq {α : Type} (k : List Addr → α) : ∀ (l acc : List Addr), ∃ l', frAs l acc k = k l'
  | [], acc => ⟨acc, rfl⟩
  | a :: r, acc => by
    obtain ⟨l', e⟩ := frAs_eq k r (a :: acc)
    refine ⟨l', ?_⟩
    show HandSHeadRun.frNat a (fun a => frAs r (a :: acc) k) = _
    rw [HandSHeadRun.frNat_eq, e]
/-- the part, its spine and addresses forced -/
def frK {α : Type} (g : Addr → Option Obj) : List Addr → PySem.W.Frag → (PySem.W.Frag → α) → α
  | [], acc, k => k acc
  | a :: r, acc, k => match g a with
    | some o => frK g r ((a, o) :: acc) k
    | none => frK g r acc k
theorem frK_eq {α : Type} {g : Addr → Option Obj} {k : PySem.W.Frag → α} : ∀ (l : List Addr) (acc : PySem.W.Frag), (∀ a o, (a, o) ∈ acc → g a = some o) → ∃ K : PySem.W.Frag, frK g l acc k = k K ∧ ∀ a o, (a, o) ∈ K → g a = some o
  | [], acc, h => ⟨acc, rfl, h⟩
  | a :: r, acc, h => by
    cases e : g a with
    | none =>
      obtain ⟨K, e1, e2⟩ := frK_eq (g := g) (k := k) r acc h
      refine ⟨K, ?_, e2⟩
      show (match g a with | some o => frK g r ((a, o) :: acc) k | none => frK g r acc k) = _
      rw [e]
      exact e1
    | some o =>
      obtain ⟨K, e1, e2⟩ := frK_eq (g := g) (k := k) r ((a, o) :: acc) (fun b u hb => by
        rcases List.mem_cons.mp hb with q | q
        · injection q with q1 q2
          rw [q1, q2, e]
        · exact h b u q)
      refine ⟨K, ?_, e2⟩
      show (match g a with | some o => frK g r ((a, o) :: acc) k | none => frK g r acc k) = _
      rw [e]
      exact e1
theorem mem_of_lk {a : Addr} {o : Obj} : ∀ {l : List (Addr × Obj)}, l.lookup a = some o → (a, o) ∈ l
  | [], h => by cases h
  | (b, u) :: r, h => by
    have h2 : (match a == b with | true => some u | false => r.lookup a) = some o := h
    cases q : (a == b) with
    | true =>
      rw [q] at h2
      rw [beq_iff_eq.mp q, Option.some.inj h2]
      exact List.mem_cons_self
    | false =>
      rw [q] at h2
      exact List.mem_cons_of_mem _ (mem_of_lk h2)
/-- a def that stands at an address of its own: a property's -/
structure GetD where
  adr : PySem.W.Frag → Addr
  name : Str
  qual : Str
  params : Arguments
  body : List Stmt
  scope : Scope
def fnWA (K : PySem.W.Frag) (a : Addr) : He.FnW := match K.lookup a with
  | some ⟨_, _, .func fd, _⟩ => some (fd.name, fd.qualname, fd.params, fd.body, fd.scope, fd.globals, fd.closure, fd.builtins)
  | _ => none
def GetD.val (d : GetD) : He.FnW := some (d.name, d.qual, d.params, .stmts d.body, d.scope, mainGlobals, [], builtinsNs)
def GetD.ok (K : PySem.W.Frag) (d : GetD) : Bool := PySem.W.keepIn K (.ref (d.adr K)) && (match K.lookup (d.adr K) with
  | some ⟨_, _, .func fd, _⟩ => PySem.W.codeIn K fd.code d.qual && (He.dflB K fd.defaults [] && He.kwdB K fd.kwdefaults [])
  | _ => false)
theorem GetD.funD {K : PySem.W.Frag} {d : GetD} (e : fnWA K (d.adr K) = d.val) (c : d.ok K = true) : ∃ fd, FunD K d.name d.qual d.params d.body d.scope [] [] (d.adr K) fd := by
  obtain ⟨kp, c2⟩ := Bool.and_eq_true_iff.mp c
  unfold fnWA at e
  cases q : K.lookup (d.adr K) with
  | none =>
    rw [q] at c2
    cases c2
  | some o =>
    obtain ⟨oc, od, dt, osl⟩ := o
    rw [q] at c2 e
    cases dt with
    | func fd =>
      obtain ⟨n1, n2, n3, n4, n5, n6, n7, n8, n9, n10, n11, n12, n13, n14, n15⟩ := fd
      have e2 : (some (n1, n2, n3, n4, n5, n6, n7, n15) : He.FnW) = some (d.name, d.qual, d.params, .stmts d.body, d.scope, mainGlobals, [], builtinsNs) := e
      simp only [Option.some.injEq, Prod.mk.injEq] at e2
      obtain ⟨h1, h2, h3, h4, h5, h6, h7, h8⟩ := e2
      subst h1 h2 h3 h4 h5 h6 h7 h8
      have c3 : (PySem.W.codeIn K n13 d.qual && (He.dflB K n8 [] && He.kwdB K n9 [])) = true := c2
      obtain ⟨k1, k2⟩ := Bool.and_eq_true_iff.mp c3
      obtain ⟨k3, k4⟩ := Bool.and_eq_true_iff.mp k2
      exact ⟨_, ⟨oc, od, n8, n9, n10, n11, n12, n13, n14, osl, rfl, q, k1, He.dflB_ok k3, He.kwdB_ok k4⟩, kp⟩
    | _ => cases c2
abbrev AlY : Type := He.AlD × List He.FnW × Bool
def obsY (fa : List He.Fa) (fn : List He.DefD) (gt : List GetD) (ex : PySem.W.Frag → Bool) (K : PySem.W.Frag) : AlY := (He.obsD fa fn K, gt.map (fun d => fnWA K (d.adr K)), (gt.all fun d => d.ok K) && ex K)
/-- the levels -/
def asY {α : Type} (g : Addr → Option Obj) (k : List Addr → α) : α :=
  frAs (stepN g refsDict [mainGlobals]) [] fun l1 =>
  frAs (stepN g refsN l1) [] fun l2 =>
  frAs (stepN g refsDict l2) [] fun l3 =>
  frAs (stepN g refsN l3) [] fun l4 =>
  frAs (stepN g refsN l4) [] fun l5 => k (cStatics :: mainGlobals :: (l1 ++ (l2 ++ (l3 ++ (l4 ++ l5)))))
theorem asY_eq {α : Type} (g : Addr → Option Obj) (k : List Addr → α) : ∃ l, asY g k = k l := by
  unfold asY
  obtain ⟨l1, e1⟩ := frAs_eq (fun l1 => frAs (stepN g refsN l1) [] fun l2 => frAs (stepN g refsDict l2) [] fun l3 => frAs (stepN g refsN l3) [] fun l4 => frAs (stepN g refsN l4) [] fun l5 => k (cStatics :: mainGlobals :: (l1 ++ (l2 ++ (l3 ++ (l4 ++ l5)))))) (stepN g refsDict [mainGlobals]) []
  rw [e1]
  obtain ⟨l2, e2⟩ := frAs_eq (fun l2 => frAs (stepN g refsDict l2) [] fun l3 => frAs (stepN g refsN l3) [] fun l4 => frAs (stepN g refsN l4) [] fun l5 => k (cStatics :: mainGlobals :: (l1 ++ (l2 ++ (l3 ++ (l4 ++ l5)))))) (stepN g refsN l1) []
  rw [e2]
  obtain ⟨l3, e3⟩ := frAs_eq (fun l3 => frAs (stepN g refsN l3) [] fun l4 => frAs (stepN g refsN l4) [] fun l5 => k (cStatics :: mainGlobals :: (l1 ++ (l2 ++ (l3 ++ (l4 ++ l5)))))) (stepN g refsDict l2) []
  rw [e3]
  obtain ⟨l4, e4⟩ := frAs_eq (fun l4 => frAs (stepN g refsN l4) [] fun l5 => k (cStatics :: mainGlobals :: (l1 ++ (l2 ++ (l3 ++ (l4 ++ l5)))))) (stepN g refsN l3) []
  rw [e4]
  obtain ⟨l5, e5⟩ := frAs_eq (fun l5 => k (cStatics :: mainGlobals :: (l1 ++ (l2 ++ (l3 ++ (l4 ++ l5)))))) (stepN g refsN l4) []
  rw [e5]
  exact ⟨_, rfl⟩
def obsYG (fa : List He.Fa) (fn : List He.DefD) (gt : List GetD) (ex : PySem.W.Frag → Bool) (g : Addr → Option Obj) : AlY := asY g fun l => frK g l [] (obsY fa fn gt ex)
theorem obsYG_eq (fa : List He.Fa) (fn : List He.DefD) (gt : List GetD) (ex : PySem.W.Frag → Bool) (h : Heap) : ∃ K : PySem.W.Frag, obsYG fa fn gt ex h.get? = obsY fa fn gt ex K ∧ K.In h := by
  unfold obsYG
  obtain ⟨l, e⟩ := asY_eq h.get? (fun l => frK h.get? l [] (obsY fa fn gt ex))
  rw [e]
  obtain ⟨K, e1, e2⟩ := frK_eq (k := obsY fa fn gt ex) l [] (fun _ _ z => nomatch z) (g := h.get?)
  exact ⟨K, e1, fun a o q => e2 a o (mem_of_lk q)⟩
structure SaysY (fa : List He.Fa) (fn : List He.DefD) (gt : List GetD) (ex : PySem.W.Frag → Bool) (K : PySem.W.Frag) : Prop where
  d : He.SaysD fa fn K
  gv : gt.map (fun d => fnWA K (d.adr K)) = gt.map GetD.val
  gk : (gt.all fun d => d.ok K) = true
  more : ex K = true
theorem SaysY.get {fa : List He.Fa} {fn : List He.DefD} {gt : List GetD} {ex : PySem.W.Frag → Bool} {K : PySem.W.Frag} (c : SaysY fa fn gt ex K) (i : Nat) {d : GetD} (h : gt[i]? = some d := by rfl) : ∃ fd, FunD K d.name d.qual d.params d.body d.scope [] [] (d.adr K) fd := by
  have e2 : (gt.map fun d => fnWA K (d.adr K))[i]? = (gt.map GetD.val)[i]? := by rw [c.gv]
  rw [List.getElem?_map, List.getElem?_map, h] at e2
  exact GetD.funD (Option.some.inj e2) (List.all_eq_true.mp c.gk d (List.mem_of_getElem? h))
def hookY (fa : List He.Fa) (fn : List He.DefD) (gt : List GetD) (ex : PySem.W.Frag → Bool) : PySem.W.Hook where
  α := AlY
  obs := fun s => obsYG fa fn gt ex s.heap.get?
  val := fun _ => (He.valD fn, gt.map GetD.val, true)
  says := fun _ h => ∃ K : PySem.W.Frag, K.In h ∧ SaysY fa fn gt ex K
  of := fun _ s e => by
    obtain ⟨K, e1, e2⟩ := obsYG_eq fa fn gt ex s.heap
    have e3 : obsY fa fn gt ex K = (He.valD fn, gt.map GetD.val, true) := e1.symm.trans e
    have e4 : ((gt.all fun d => d.ok K) && ex K) = true := congrArg (fun z : AlY => z.2.2) e3
    obtain ⟨e5, e6⟩ := Bool.and_eq_true_iff.mp e4
    exact ⟨K, e2, ⟨congrArg (fun z : AlY => z.1) e3, congrArg (fun z : AlY => z.2.1) e3, e5, e6⟩⟩
  keeps := fun _ _ _ ⟨K, hK, c⟩ k => ⟨K, PySem.W.Frag.In.keeps hK k, c⟩
theorem obsYG_at {fa : List He.Fa} {fn : List He.DefD} {gt : List GetD} {ex : PySem.W.Frag → Bool} {g : Addr → Option Obj} {s : Shared} (h : ∀ a, g a = s.heap.get? a) : obsYG fa fn gt ex g = (hookY fa fn gt ex).obs s := by
  have e : g = s.heap.get? := funext h
  rw [e] <;> rfl
end U

set_option Elab.async false
set_option linter.all false
set_option maxRecDepth 100000
set_option maxHeartbeats 4000000
/-! the hook with tables of the top (dicts with text keys), and classmethods -/
namespace U
open PySem PySem.Spec PyProof.Rows L2
abbrev AlZ : Type := AlY × List (Option (List (Option (Str × Int))))
def obsZ (fa : List He.Fa) (fn : List He.DefD) (gt : List GetD) (ex : PySem.W.Frag → Bool) (ts : List He.Tab) (K : PySem.W.Frag) : AlZ := (obsY fa fn gt ex K, ts.map fun t => He.dicW K (t.1 K))
def obsZG (fa : List He.Fa) (fn : List He.DefD) (gt : List GetD) (ex : PySem.W.Frag → Bool) (ts : List He.Tab) (g : Addr → Option Obj) : AlZ := asY g fun l => frK g l [] (obsZ fa fn gt ex ts)
theorem obsZG_eq (fa : List He.Fa) (fn : List He.DefD) (gt : List GetD) (ex : PySem.W.Frag → Bool) (ts : List He.Tab) (h : Heap) : ∃ K : PySem.W.Frag, obsZG fa fn gt ex ts h.get? = obsZ fa fn gt ex ts K ∧ K.In h := by
  unfold obsZG
  obtain ⟨l, e⟩ := asY_eq h.get? (fun l => frK h.get? l [] (obsZ fa fn gt ex ts))
  rw [e]
  obtain ⟨K, q1, q2⟩ := frK_eq (k := obsZ fa fn gt ex ts) l [] (fun _ _ z => nomatch z) (g := h.get?)
  exact ⟨K, q1, fun a o q => q2 a o (mem_of_lk q)⟩
structure SaysZ (fa : List He.Fa) (fn : List He.DefD) (gt : List GetD) (ex : PySem.W.Frag → Bool) (ts : List He.Tab) (w : World) (K : PySem.W.Frag) : Prop where
  y : SaysY fa fn gt ex K
  t : ts.map (fun t => He.dicW K (t.1 K)) = ts.map fun t => some (He.keysIn w.params t.2)
theorem SaysZ.tab {fa : List He.Fa} {fn : List He.DefD} {gt : List GetD} {ex : PySem.W.Frag → Bool} {ts : List He.Tab} {w : World} {K : PySem.W.Frag} (c : SaysZ fa fn gt ex ts w K) (i : Nat) {t : He.Tab} (h : ts[i]? = some t := by rfl) : ∃ es n, KDict K w (t.1 K) es n := by
  have q : (ts.map fun t => He.dicW K (t.1 K))[i]? = (ts.map fun t => some (He.keysIn w.params t.2))[i]? := by rw [c.t]
  rw [List.getElem?_map, List.getElem?_map, h] at q
  exact He.dicW_ok (Option.some.inj q)
def hookZ (fa : List He.Fa) (fn : List He.DefD) (gt : List GetD) (ex : PySem.W.Frag → Bool) (ts : List He.Tab) : PySem.W.Hook where
  α := AlZ
  obs := fun s => obsZG fa fn gt ex ts s.heap.get?
  val := fun w => ((He.valD fn, gt.map GetD.val, true), ts.map fun t => some (He.keysIn w.params t.2))
  says := fun w h => ∃ K : PySem.W.Frag, K.In h ∧ SaysZ fa fn gt ex ts w K
  of := fun _ s e => by
    obtain ⟨K, q1, q2⟩ := obsZG_eq fa fn gt ex ts s.heap
    have q3 := q1.symm.trans e
    have q0 : obsY fa fn gt ex K = (He.valD fn, gt.map GetD.val, true) := congrArg (fun z : AlZ => z.1) q3
    have q4 : ((gt.all fun d => d.ok K) && ex K) = true := congrArg (fun z : AlY => z.2.2) q0
    obtain ⟨q5, q6⟩ := Bool.and_eq_true_iff.mp q4
    exact ⟨K, q2, ⟨congrArg (fun z : AlY => z.1) q0, congrArg (fun z : AlY => z.2.1) q0, q5, q6⟩, congrArg (fun z : AlZ => z.2) q3⟩
  keeps := fun _ _ _ ⟨K, hK, c⟩ k => ⟨K, PySem.W.Frag.In.keeps hK k, c⟩
theorem obsZG_at {fa : List He.Fa} {fn : List He.DefD} {gt : List GetD} {ex : PySem.W.Frag → Bool} {ts : List He.Tab} {g : Addr → Option Obj} {s : Shared} (h : ∀ a, g a = s.heap.get? a) : obsZG fa fn gt ex ts g = (hookZ fa fn gt ex ts).obs s := by
  have q : g = s.heap.get? := funext h
  rw [q] <;> rfl
/-- a classmethod: its def's place -/
def cmA (K : PySem.W.Frag) (C : Addr) (m : Str) : Addr := He5.wf K C "classmethod" m
def cmB (K : PySem.W.Frag) (C : Addr) (m : Str) : Bool := He5.wrapB K C "classmethod" "classmethod.__get__" m && (PySem.W.fnIn K (cmA K C m) && (PySem.W.readsIn K C (.type "type") && PySem.W.specialIn K (.ref C) "__getattribute__" == some (some (.builtin "type.__getattribute__"))))
structure CMt (K : PySem.W.Frag) (C : Addr) (m : Str) : Prop where
  cr : ClX.CRead K C (.type "type")
  cm : ClX.CMet K C (.type "type") m (He.ma K C m) (cmA K C m)
theorem cmB_ok {K : PySem.W.Frag} {C : Addr} {m : Str} (h : cmB K C m = true) : CMt K C m := by
  obtain ⟨h1, h⟩ := Bool.and_eq_true_iff.mp h
  obtain ⟨h2, h⟩ := Bool.and_eq_true_iff.mp h
  obtain ⟨h3, h4⟩ := Bool.and_eq_true_iff.mp h
  exact ⟨⟨h3, beq_iff_eq.mp h4⟩, He5.cmet_of h1 h2⟩
/-- a table's value -/
def tabB (K : PySem.W.Frag) (d : Addr) (z : Str) (v : V) : Bool := match PySem.W.nsIn K d z with
  | some (some u) => He.relB v u
  | _ => false
theorem tabB_ok {K : PySem.W.Frag} {d : Addr} {z : Str} {v : V} (h : tabB K d z v = true) : ∃ u, PySem.W.nsIn K d z = some (some u) ∧ RelV v u := by
  unfold tabB at h
  split at h
  · rename_i u e
    exact ⟨u, e, He.relB_ok h⟩
  · cases h
end U

set_option Elab.async false
set_option linter.all false
set_option maxRecDepth 100000
set_option maxHeartbeats 4000000
namespace U
open PySem PySem.Spec PyProof.Rows L2
def top (i : Nat) : Stmt := PySem.Challenge.pw_struckbodies_k91_whole_wrong_nursery_lin.main.body.getD i (.Pass ⟨0, 0, 0, 0⟩)
abbrev s_is_name : Stmt := (top 23)
abbrev N_is_name : List Str := ["text", "char"]
theorem sc_is_name : FnScope N_is_name ["text"] (defScope s_is_name) := ⟨rfl, rfl, rfl, by decide +kernel, rfl, by decide +kernel, by decide +kernel⟩
abbrev s_check_name : Stmt := (top 24)
abbrev N_check_name : List Str := ["name"]
theorem sc_check_name : FnScope N_check_name ["name"] (defScope s_check_name) := ⟨rfl, rfl, rfl, by decide +kernel, rfl, by decide +kernel, by decide +kernel⟩
abbrev s_check_number : Stmt := (top 25)
abbrev N_check_number : List Str := ["number"]
theorem sc_check_number : FnScope N_check_number ["number"] (defScope s_check_number) := ⟨rfl, rfl, rfl, by decide +kernel, rfl, by decide +kernel, by decide +kernel⟩
abbrev s_height_of : Stmt := (top 33)
abbrev N_height_of : List Str := ["member", "one"]
theorem sc_height_of : FnScope N_height_of ["member"] (defScope s_height_of) := ⟨rfl, rfl, rfl, by decide +kernel, rfl, by decide +kernel, by decide +kernel⟩
abbrev s_strike_of : Stmt := (top 38)
abbrev N_strike_of : List Str := ["line"]
theorem sc_strike_of : FnScope N_strike_of ["line"] (defScope s_strike_of) := ⟨rfl, rfl, rfl, by decide +kernel, rfl, by decide +kernel, by decide +kernel⟩
abbrev s_body_named : Stmt := (top 39)
abbrev N_body_named : List Str := ["desk", "name", "index", "e"]
theorem sc_body_named : FnScope N_body_named ["desk", "name", "index"] (defScope s_body_named) := ⟨rfl, rfl, rfl, by decide +kernel, rfl, by decide +kernel, by decide +kernel⟩
abbrev s_made_nursery : Stmt := (top 40)
abbrev N_made_nursery : List Str := ["strike", "rule", "members", "index", "e"]
theorem sc_made_nursery : FnScope N_made_nursery ["strike", "rule", "members", "index"] (defScope s_made_nursery) := ⟨rfl, rfl, rfl, by decide +kernel, rfl, by decide +kernel, by decide +kernel⟩
abbrev s_read_nursery : Stmt := (top 41)
abbrev N_read_nursery : List Str := ["desk", "text", "lines", "strike", "frames", "whole", "index", "line", "word", "_", "rest", "rule", "members", "made"]
theorem sc_read_nursery : FnScope N_read_nursery ["desk", "text"] (defScope s_read_nursery) := ⟨rfl, rfl, rfl, by decide +kernel, rfl, by decide +kernel, by decide +kernel⟩
abbrev s_copied : Stmt := (top 47)
abbrev N_copied : List Str := ["book"]
theorem sc_copied : FnScope N_copied ["book"] (defScope s_copied) := ⟨rfl, rfl, rfl, by decide +kernel, rfl, by decide +kernel, by decide +kernel⟩
abbrev s_blocks_of : Stmt := (top 81)
abbrev N_blocks_of : List Str := ["statement"]
theorem sc_blocks_of : FnScope N_blocks_of ["statement"] (defScope s_blocks_of) := ⟨rfl, rfl, rfl, by decide +kernel, rfl, by decide +kernel, by decide +kernel⟩
abbrev s_check_parts : Stmt := (top 84)
abbrev N_check_parts : List Str := ["book", "statement", "word"]
theorem sc_check_parts : FnScope N_check_parts ["book", "statement"] (defScope s_check_parts) := ⟨rfl, rfl, rfl, by decide +kernel, rfl, by decide +kernel, by decide +kernel⟩
abbrev s_check_all : Stmt := (top 85)
abbrev N_check_all : List Str := ["book", "statements", "depth", "statement", "word", "block"]
theorem sc_check_all : FnScope N_check_all ["book", "statements", "depth"] (defScope s_check_all) := ⟨rfl, rfl, rfl, by decide +kernel, rfl, by decide +kernel, by decide +kernel⟩
abbrev s_in_order : Stmt := (top 86)
abbrev N_in_order : List Str := ["statements", "found", "statement", "block"]
theorem sc_in_order : FnScope N_in_order ["statements"] (defScope s_in_order) := ⟨rfl, rfl, rfl, by decide +kernel, rfl, by decide +kernel, by decide +kernel⟩
abbrev s__law_pool : Stmt := (top 93)
abbrev N__law_pool : List Str := ["script"]
theorem sc__law_pool : FnScope N__law_pool ["script"] (defScope s__law_pool) := ⟨rfl, rfl, rfl, by decide +kernel, rfl, by decide +kernel, by decide +kernel⟩
abbrev s__law_mixed : Stmt := (top 94)
abbrev N__law_mixed : List Str := ["cell", "turn", "limit", "first", "second", "third"]
theorem sc__law_mixed : FnScope N__law_mixed ["cell", "turn", "limit"] (defScope s__law_mixed) := ⟨rfl, rfl, rfl, by decide +kernel, rfl, by decide +kernel, by decide +kernel⟩
abbrev s__law_draw : Stmt := (top 95)
abbrev N__law_draw : List Str := ["pool", "limit", "digit", "cell"]
theorem sc__law_draw : FnScope N__law_draw ["pool", "limit"] (defScope s__law_draw) := ⟨rfl, rfl, rfl, by decide +kernel, rfl, by decide +kernel, by decide +kernel⟩
abbrev s__law_name : Stmt := (top 96)
abbrev N__law_name : List Str := ["pool", "signs", "name", "k"]
theorem sc__law_name : FnScope N__law_name ["pool"] (defScope s__law_name) := ⟨rfl, rfl, rfl, by decide +kernel, rfl, by decide +kernel, by decide +kernel⟩
abbrev s__law_fresh : Stmt := (top 97)
abbrev N__law_fresh : List Str := ["pool", "used", "name", "sign"]
theorem sc__law_fresh : FnScope N__law_fresh ["pool", "used"] (defScope s__law_fresh) := ⟨rfl, rfl, rfl, by decide +kernel, rfl, by decide +kernel, by decide +kernel⟩
abbrev s__law_once : Stmt := (top 98)
abbrev N__law_once : List Str := ["names", "found", "name"]
theorem sc__law_once : FnScope N__law_once ["names"] (defScope s__law_once) := ⟨rfl, rfl, rfl, by decide +kernel, rfl, by decide +kernel, by decide +kernel⟩
abbrev s__law_sorted : Stmt := (top 99)
abbrev N__law_sorted : List Str := ["rows", "done", "row", "at"]
theorem sc__law_sorted : FnScope N__law_sorted ["rows"] (defScope s__law_sorted) := ⟨rfl, rfl, rfl, by decide +kernel, rfl, by decide +kernel, by decide +kernel⟩
abbrev s__law_same : Stmt := (top 100)
abbrev N__law_same : List Str := ["actual", "expected", "k"]
theorem sc__law_same : FnScope N__law_same ["actual", "expected"] (defScope s__law_same) := ⟨rfl, rfl, rfl, by decide +kernel, rfl, by decide +kernel, by decide +kernel⟩
abbrev s__law_shape : Stmt := (top 101)
abbrev N__law_shape : List Str := ["pool", "depth", "count", "rule", "members", "k"]
theorem sc__law_shape : FnScope N__law_shape ["pool", "depth", "count"] (defScope s__law_shape) := ⟨rfl, rfl, rfl, by decide +kernel, rfl, by decide +kernel, by decide +kernel⟩
abbrev s__law_lines : Stmt := (top 102)
abbrev N__law_lines : List Str := ["shape", "names", "lines", "one", "line"]
theorem sc__law_lines : FnScope N__law_lines ["shape", "names"] (defScope s__law_lines) := ⟨rfl, rfl, rfl, by decide +kernel, rfl, by decide +kernel, by decide +kernel⟩
abbrev s__law_is_name : Stmt := (top 103)
abbrev N__law_is_name : List Str := ["text", "signs", "sign"]
theorem sc__law_is_name : FnScope N__law_is_name ["text"] (defScope s__law_is_name) := ⟨rfl, rfl, rfl, by decide +kernel, rfl, by decide +kernel, by decide +kernel⟩
abbrev s__law_strike_line : Stmt := (top 104)
abbrev N__law_strike_line : List Str := ["line", "name", "word", "rest", "names", "one"]
theorem sc__law_strike_line : FnScope N__law_strike_line ["line"] (defScope s__law_strike_line) := ⟨rfl, rfl, rfl, by decide +kernel, rfl, by decide +kernel, by decide +kernel⟩
abbrev s__law_refusal : Stmt := (top 105)
abbrev N__law_refusal : List Str := ["frame", "rule", "rules", "many", "levels"]
theorem sc__law_refusal : FnScope N__law_refusal ["frame"] (defScope s__law_refusal) := ⟨rfl, rfl, rfl, by decide +kernel, rfl, by decide +kernel, by decide +kernel⟩
abbrev s__law_due : Stmt := (top 106)
abbrev N__law_due : List Str := ["lines", "known", "frames", "k", "line", "done", "last"]
theorem sc__law_due : FnScope N__law_due ["lines", "known"] (defScope s__law_due) := ⟨rfl, rfl, rfl, by decide +kernel, rfl, by decide +kernel, by decide +kernel⟩
abbrev s__law_spoilt : Stmt := (top 107)
abbrev N__law_spoilt : List Str := ["pool", "lines", "names", "at", "choice", "line", "cut", "more"]
theorem sc__law_spoilt : FnScope N__law_spoilt ["pool", "lines", "names"] (defScope s__law_spoilt) := ⟨rfl, rfl, rfl, by decide +kernel, rfl, by decide +kernel, by decide +kernel⟩
abbrev s_law : Stmt := (top 108)
abbrev N_law : List Str := ["script", "pool", "count", "shape", "names", "k", "desk", "name", "lines", "turn", "due", "made", "e", "bodies", "rules", "line", "one", "body"]
theorem sc_law : FnScope N_law ["script"] (defScope s_law) := ⟨rfl, rfl, rfl, by decide +kernel, rfl, by decide +kernel, by decide +kernel⟩
abbrev s_Nursery___init__ : Stmt := (inClass (top 34) 3)
abbrev N_Nursery___init__ : List Str := ["self", "strike", "rule", "members", "at", "member"]
theorem sc_Nursery___init__ : FnScope N_Nursery___init__ ["self", "strike", "rule", "members"] (defScope s_Nursery___init__) := ⟨rfl, rfl, rfl, by decide +kernel, rfl, by decide +kernel, by decide +kernel⟩
abbrev s_Nursery_bodies : Stmt := (inClass (top 34) 6)
abbrev N_Nursery_bodies : List Str := ["self", "found", "member"]
theorem sc_Nursery_bodies : FnScope N_Nursery_bodies ["self"] (defScope s_Nursery_bodies) := ⟨rfl, rfl, rfl, by decide +kernel, rfl, by decide +kernel, by decide +kernel⟩
abbrev s_Nursery_inner : Stmt := (inClass (top 34) 7)
abbrev N_Nursery_inner : List Str := ["self", "found", "member"]
theorem sc_Nursery_inner : FnScope N_Nursery_inner ["self"] (defScope s_Nursery_inner) := ⟨rfl, rfl, rfl, by decide +kernel, rfl, by decide +kernel, by decide +kernel⟩
abbrev s_Strike___init__ : Stmt := (inClass (top 36) 1)
abbrev N_Strike___init__ : List Str := ["self", "name", "shield", "found", "one"]
theorem sc_Strike___init__ : FnScope N_Strike___init__ ["self", "name", "shield"] (defScope s_Strike___init__) := ⟨rfl, rfl, rfl, by decide +kernel, rfl, by decide +kernel, by decide +kernel⟩
abbrev s_Strike___eq__ : Stmt := (inClass (top 36) 2)
abbrev N_Strike___eq__ : List Str := ["self", "other"]
theorem sc_Strike___eq__ : FnScope N_Strike___eq__ ["self", "other"] (defScope s_Strike___eq__) := ⟨rfl, rfl, rfl, by decide +kernel, rfl, by decide +kernel, by decide +kernel⟩
abbrev s_Book___init__ : Stmt := (inClass (top 46) 2)
abbrev N_Book___init__ : List Str := ["self", "kinds", "sizes"]
theorem sc_Book___init__ : FnScope N_Book___init__ ["self", "kinds", "sizes"] (defScope s_Book___init__) := ⟨rfl, rfl, rfl, by decide +kernel, rfl, by decide +kernel, by decide +kernel⟩
abbrev s_Book___eq__ : Stmt := (inClass (top 46) 9)
abbrev N_Book___eq__ : List Str := ["self", "other"]
theorem sc_Book___eq__ : FnScope N_Book___eq__ ["self", "other"] (defScope s_Book___eq__) := ⟨rfl, rfl, rfl, by decide +kernel, rfl, by decide +kernel, by decide +kernel⟩
abbrev s_Body___init__ : Stmt := (inClass (top 89) 3)
abbrev N_Body___init__ : List Str := ["self", "book", "statements", "many"]
theorem sc_Body___init__ : FnScope N_Body___init__ ["self", "book", "statements"] (defScope s_Body___init__) := ⟨rfl, rfl, rfl, by decide +kernel, rfl, by decide +kernel, by decide +kernel⟩
abbrev s_Desk___init__ : Stmt := (inClass (top 91) 0)
abbrev N_Desk___init__ : List Str := ["self", "book"]
theorem sc_Desk___init__ : FnScope N_Desk___init__ ["self", "book"] (defScope s_Desk___init__) := ⟨rfl, rfl, rfl, by decide +kernel, rfl, by decide +kernel, by decide +kernel⟩
abbrev s_Desk___getitem__ : Stmt := (inClass (top 91) 1)
abbrev N_Desk___getitem__ : List Str := ["self", "name"]
theorem sc_Desk___getitem__ : FnScope N_Desk___getitem__ ["self", "name"] (defScope s_Desk___getitem__) := ⟨rfl, rfl, rfl, by decide +kernel, rfl, by decide +kernel, by decide +kernel⟩
abbrev s_Desk___setitem__ : Stmt := (inClass (top 91) 2)
abbrev N_Desk___setitem__ : List Str := ["self", "name", "body"]
theorem sc_Desk___setitem__ : FnScope N_Desk___setitem__ ["self", "name", "body"] (defScope s_Desk___setitem__) := ⟨rfl, rfl, rfl, by decide +kernel, rfl, by decide +kernel, by decide +kernel⟩
abbrev s_BadLine___init__ : Stmt := (inClass (top 9) 0)
abbrev N_BadLine___init__ : List Str := ["self", "line"]
theorem sc_BadLine___init__ : FnScope N_BadLine___init__ ["self", "line"] (defScope s_BadLine___init__) := ⟨rfl, rfl, rfl, by decide +kernel, rfl, by decide +kernel, by decide +kernel⟩
abbrev s_BadNumber___init__ : Stmt := (inClass (top 5) 0)
abbrev N_BadNumber___init__ : List Str := ["self", "number"]
theorem sc_BadNumber___init__ : FnScope N_BadNumber___init__ ["self", "number"] (defScope s_BadNumber___init__) := ⟨rfl, rfl, rfl, by decide +kernel, rfl, by decide +kernel, by decide +kernel⟩
abbrev s_BadMember___init__ : Stmt := (inClass (top 16) 0)
abbrev N_BadMember___init__ : List Str := ["self", "at"]
theorem sc_BadMember___init__ : FnScope N_BadMember___init__ ["self", "at"] (defScope s_BadMember___init__) := ⟨rfl, rfl, rfl, by decide +kernel, rfl, by decide +kernel, by decide +kernel⟩
abbrev s_TooLarge___init__ : Stmt := (inClass (top 12) 0)
abbrev N_TooLarge___init__ : List Str := ["self", "most"]
theorem sc_TooLarge___init__ : FnScope N_TooLarge___init__ ["self", "most"] (defScope s_TooLarge___init__) := ⟨rfl, rfl, rfl, by decide +kernel, rfl, by decide +kernel, by decide +kernel⟩
abbrev s_NoBody___init__ : Stmt := (inClass (top 14) 0)
abbrev N_NoBody___init__ : List Str := ["self", "name"]
theorem sc_NoBody___init__ : FnScope N_NoBody___init__ ["self", "name"] (defScope s_NoBody___init__) := ⟨rfl, rfl, rfl, by decide +kernel, rfl, by decide +kernel, by decide +kernel⟩
abbrev s_Book_stores : Stmt := (inClass (top 46) 13)
abbrev N_Book_stores : List Str := ["self", "many", "name"]
theorem sc_Book_stores : FnScope N_Book_stores ["self"] (defScope s_Book_stores) := ⟨rfl, rfl, rfl, by decide +kernel, rfl, by decide +kernel, by decide +kernel⟩
abbrev s_Strike_read : Stmt := (inClass (top 36) 7)
abbrev N_Strike_read : List Str := ["cls", "text", "name", "word", "rest", "names", "one", "found"]
theorem sc_Strike_read : FnScope N_Strike_read ["cls", "text"] (defScope s_Strike_read) := ⟨rfl, rfl, rfl, by decide +kernel, rfl, by decide +kernel, by decide +kernel⟩
structure Txt (w : World) (K : PySem.W.Frag) (mg : Str → Option Value) : Prop where
  g_is_name : mg "is_name" = some (.ref (He.ga K "is_name"))
  g_check_name : mg "check_name" = some (.ref (He.ga K "check_name"))
  g_check_number : mg "check_number" = some (.ref (He.ga K "check_number"))
  g_state : mg "state" = some (.ref (He.ga K "state"))
  g_after : mg "after" = some (.ref (He.ga K "after"))
  g_height_of : mg "height_of" = some (.ref (He.ga K "height_of"))
  g_strike_of : mg "strike_of" = some (.ref (He.ga K "strike_of"))
  g_body_named : mg "body_named" = some (.ref (He.ga K "body_named"))
  g_made_nursery : mg "made_nursery" = some (.ref (He.ga K "made_nursery"))
  g_read_nursery : mg "read_nursery" = some (.ref (He.ga K "read_nursery"))
  g_check_kind : mg "check_kind" = some (.ref (He.ga K "check_kind"))
  g_copied : mg "copied" = some (.ref (He.ga K "copied"))
  g_cell_names : mg "cell_names" = some (.ref (He.ga K "cell_names"))
  g_first_store : mg "first_store" = some (.ref (He.ga K "first_store"))
  g_check_argument : mg "check_argument" = some (.ref (He.ga K "check_argument"))
  g_check_at : mg "check_at" = some (.ref (He.ga K "check_at"))
  g_check_action : mg "check_action" = some (.ref (He.ga K "check_action"))
  g_halves : mg "halves" = some (.ref (He.ga K "halves"))
  g_value_of : mg "value_of" = some (.ref (He.ga K "value_of"))
  g_settled : mg "settled" = some (.ref (He.ga K "settled"))
  g_size_of : mg "size_of" = some (.ref (He.ga K "size_of"))
  g_listed : mg "listed" = some (.ref (He.ga K "listed"))
  g_statement_code : mg "statement_code" = some (.ref (He.ga K "statement_code"))
  g_block_code : mg "block_code" = some (.ref (He.ga K "block_code"))
  g_program : mg "program" = some (.ref (He.ga K "program"))
  g_advance : mg "advance" = some (.ref (He.ga K "advance"))
  g_ask_of : mg "ask_of" = some (.ref (He.ga K "ask_of"))
  g_exit_of : mg "exit_of" = some (.ref (He.ga K "exit_of"))
  g_following : mg "following" = some (.ref (He.ga K "following"))
  g_way_out : mg "way_out" = some (.ref (He.ga K "way_out"))
  g_left : mg "left" = some (.ref (He.ga K "left"))
  g_forward : mg "forward" = some (.ref (He.ga K "forward"))
  g_run : mg "run" = some (.ref (He.ga K "run"))
  g_blocks_of : mg "blocks_of" = some (.ref (He.ga K "blocks_of"))
  g_check_now : mg "check_now" = some (.ref (He.ga K "check_now"))
  g_check_cell : mg "check_cell" = some (.ref (He.ga K "check_cell"))
  g_check_parts : mg "check_parts" = some (.ref (He.ga K "check_parts"))
  g_check_all : mg "check_all" = some (.ref (He.ga K "check_all"))
  g_in_order : mg "in_order" = some (.ref (He.ga K "in_order"))
  g__law_pool : mg "_law_pool" = some (.ref (He.ga K "_law_pool"))
  g__law_mixed : mg "_law_mixed" = some (.ref (He.ga K "_law_mixed"))
  g__law_draw : mg "_law_draw" = some (.ref (He.ga K "_law_draw"))
  g__law_name : mg "_law_name" = some (.ref (He.ga K "_law_name"))
  g__law_fresh : mg "_law_fresh" = some (.ref (He.ga K "_law_fresh"))
  g__law_once : mg "_law_once" = some (.ref (He.ga K "_law_once"))
  g__law_sorted : mg "_law_sorted" = some (.ref (He.ga K "_law_sorted"))
  g__law_same : mg "_law_same" = some (.ref (He.ga K "_law_same"))
  g__law_shape : mg "_law_shape" = some (.ref (He.ga K "_law_shape"))
  g__law_lines : mg "_law_lines" = some (.ref (He.ga K "_law_lines"))
  g__law_is_name : mg "_law_is_name" = some (.ref (He.ga K "_law_is_name"))
  g__law_strike_line : mg "_law_strike_line" = some (.ref (He.ga K "_law_strike_line"))
  g__law_refusal : mg "_law_refusal" = some (.ref (He.ga K "_law_refusal"))
  g__law_due : mg "_law_due" = some (.ref (He.ga K "_law_due"))
  g__law_spoilt : mg "_law_spoilt" = some (.ref (He.ga K "_law_spoilt"))
  g_law : mg "law" = some (.ref (He.ga K "law"))
  g_DeedError : mg "DeedError" = some (.ref (He.ga K "DeedError"))
  g_OtherBook : mg "OtherBook" = some (.ref (He.ga K "OtherBook"))
  g_BadName : mg "BadName" = some (.ref (He.ga K "BadName"))
  g_BadNumber : mg "BadNumber" = some (.ref (He.ga K "BadNumber"))
  g_BadKind : mg "BadKind" = some (.ref (He.ga K "BadKind"))
  g_BadAction : mg "BadAction" = some (.ref (He.ga K "BadAction"))
  g_BadStatement : mg "BadStatement" = some (.ref (He.ga K "BadStatement"))
  g_BadLine : mg "BadLine" = some (.ref (He.ga K "BadLine"))
  g_UnknownStep : mg "UnknownStep" = some (.ref (He.ga K "UnknownStep"))
  g_UnknownCell : mg "UnknownCell" = some (.ref (He.ga K "UnknownCell"))
  g_TooLarge : mg "TooLarge" = some (.ref (He.ga K "TooLarge"))
  g_Clash : mg "Clash" = some (.ref (He.ga K "Clash"))
  g_NoBody : mg "NoBody" = some (.ref (He.ga K "NoBody"))
  g_BadRule : mg "BadRule" = some (.ref (He.ga K "BadRule"))
  g_BadMember : mg "BadMember" = some (.ref (He.ga K "BadMember"))
  g_OtherStrike : mg "OtherStrike" = some (.ref (He.ga K "OtherStrike"))
  g_Nursery : mg "Nursery" = some (.ref (He.ga K "Nursery"))
  g_Strike : mg "Strike" = some (.ref (He.ga K "Strike"))
  g_Book : mg "Book" = some (.ref (He.ga K "Book"))
  g_Body : mg "Body" = some (.ref (He.ga K "Body"))
  g_Desk : mg "Desk" = some (.ref (He.ga K "Desk"))
  n_len : mg "len" = none
  n_int : mg "int" = none
  n_str : mg "str" = none
  n_bool : mg "bool" = none
  n_list : mg "list" = none
  n_tuple : mg "tuple" = none
  n_dict : mg "dict" = none
  n_isinstance : mg "isinstance" = none
  n_range : mg "range" = none
  n_enumerate : mg "enumerate" = none
  n_sorted : mg "sorted" = none
  n_max : mg "max" = none
  v_LETTERS : ∃ u, mg "LETTERS" = some u ∧ RelV (.str "abcdefghijklmnopqrstuvwxyz") u
  v_DIGITS : ∃ u, mg "DIGITS" = some u ∧ RelV (.str "0123456789") u
  v_LONGEST : ∃ u, mg "LONGEST" = some u ∧ RelV (.int 12) u
  v_GREATEST : ∃ u, mg "GREATEST" = some u ∧ RelV (.int 999) u
  v_DONE : ∃ u, mg "DONE" = some u ∧ RelV (.str "done") u
  v_ERROR : ∃ u, mg "ERROR" = some u ∧ RelV (.str "error") u
  v_RULES : ∃ u, mg "RULES" = some u ∧ RelV (.ref (He.ga K "RULES")) u
  q_RULES : ∀ H, SqT K H (He.ga K "RULES") [.str "first", .str "rank", .str "least", .str "all"]
  v_NUMBERED : ∃ u, mg "NUMBERED" = some u ∧ RelV (.ref (He.ga K "NUMBERED")) u
  q_NUMBERED : ∀ H, SqT K H (He.ga K "NUMBERED") [.str "answer", .str "heal"]
  v_NAMED : ∃ u, mg "NAMED" = some u ∧ RelV (.ref (He.ga K "NAMED")) u
  q_NAMED : ∀ H, SqT K H (He.ga K "NAMED") [.str "jump", .str "swap"]
  v_GUARDS : ∃ u, mg "GUARDS" = some u ∧ RelV (.ref (He.ga K "GUARDS")) u
  q_GUARDS : ∀ H, SqT K H (He.ga K "GUARDS") [.str "done", .str "error", .str "always"]
  v_READS : ∃ u, mg "READS" = some u ∧ RelV (.ref (He.ga K "READS")) u
  q_READS : ∀ H, SqT K H (He.ga K "READS") [.str "now", .str "late"]
  v_MANY : ∃ u, mg "MANY" = some u ∧ RelV (.int 3) u
  v_DEEP : ∃ u, mg "DEEP" = some u ∧ RelV (.int 2) u
  v_STOPS : ∃ u, mg "STOPS" = some u ∧ RelV (.ref (He.ga K "STOPS")) u
  q_STOPS : ∀ H, SqT K H (He.ga K "STOPS") [.str "do", .str "test", .str "leave"]
  v_LENGTHS : ∃ u, mg "LENGTHS" = some u ∧ RelV (.ref (He.ga K "LENGTHS")) u
  v_DEPTH : ∃ u, mg "DEPTH" = some u ∧ RelV (.int 4) u
  v_TIMES : ∃ u, mg "TIMES" = some u ∧ RelV (.int 9) u
  f_Book_stores : ∃ fd, FunD K "stores" "Book.stores" (defArgs s_Book_stores) (defBody s_Book_stores) (defScope s_Book_stores) [] [] (pgA K (He.ga K "Book") "stores" 0) fd
  f_Strike_read : ∃ fd, FunD K "read" "Strike.read" (defArgs s_Strike_read) (defBody s_Strike_read) (defScope s_Strike_read) [] [] (cmA K (He.ga K "Strike") "read") fd
  f_is_name : ∃ fd, FunD K "is_name" "is_name" (defArgs s_is_name) (defBody s_is_name) (defScope s_is_name) [] [] (He.ga K "is_name") fd
  f_check_name : ∃ fd, FunD K "check_name" "check_name" (defArgs s_check_name) (defBody s_check_name) (defScope s_check_name) [] [] (He.ga K "check_name") fd
  f_check_number : ∃ fd, FunD K "check_number" "check_number" (defArgs s_check_number) (defBody s_check_number) (defScope s_check_number) [] [] (He.ga K "check_number") fd
  f_height_of : ∃ fd, FunD K "height_of" "height_of" (defArgs s_height_of) (defBody s_height_of) (defScope s_height_of) [] [] (He.ga K "height_of") fd
  f_strike_of : ∃ fd, FunD K "strike_of" "strike_of" (defArgs s_strike_of) (defBody s_strike_of) (defScope s_strike_of) [] [] (He.ga K "strike_of") fd
  f_body_named : ∃ fd, FunD K "body_named" "body_named" (defArgs s_body_named) (defBody s_body_named) (defScope s_body_named) [] [] (He.ga K "body_named") fd
  f_made_nursery : ∃ fd, FunD K "made_nursery" "made_nursery" (defArgs s_made_nursery) (defBody s_made_nursery) (defScope s_made_nursery) [] [] (He.ga K "made_nursery") fd
  f_read_nursery : ∃ fd, FunD K "read_nursery" "read_nursery" (defArgs s_read_nursery) (defBody s_read_nursery) (defScope s_read_nursery) [] [] (He.ga K "read_nursery") fd
  f_copied : ∃ fd, FunD K "copied" "copied" (defArgs s_copied) (defBody s_copied) (defScope s_copied) [] [] (He.ga K "copied") fd
  f_blocks_of : ∃ fd, FunD K "blocks_of" "blocks_of" (defArgs s_blocks_of) (defBody s_blocks_of) (defScope s_blocks_of) [] [] (He.ga K "blocks_of") fd
  f_check_parts : ∃ fd, FunD K "check_parts" "check_parts" (defArgs s_check_parts) (defBody s_check_parts) (defScope s_check_parts) [] [] (He.ga K "check_parts") fd
  f_check_all : ∃ fd, FunD K "check_all" "check_all" (defArgs s_check_all) (defBody s_check_all) (defScope s_check_all) [] [] (He.ga K "check_all") fd
  f_in_order : ∃ fd, FunD K "in_order" "in_order" (defArgs s_in_order) (defBody s_in_order) (defScope s_in_order) [] [] (He.ga K "in_order") fd
  f__law_pool : ∃ fd, FunD K "_law_pool" "_law_pool" (defArgs s__law_pool) (defBody s__law_pool) (defScope s__law_pool) [] [] (He.ga K "_law_pool") fd
  f__law_mixed : ∃ fd, FunD K "_law_mixed" "_law_mixed" (defArgs s__law_mixed) (defBody s__law_mixed) (defScope s__law_mixed) [] [] (He.ga K "_law_mixed") fd
  f__law_draw : ∃ fd, FunD K "_law_draw" "_law_draw" (defArgs s__law_draw) (defBody s__law_draw) (defScope s__law_draw) [] [] (He.ga K "_law_draw") fd
  f__law_name : ∃ fd, FunD K "_law_name" "_law_name" (defArgs s__law_name) (defBody s__law_name) (defScope s__law_name) [] [] (He.ga K "_law_name") fd
  f__law_fresh : ∃ fd, FunD K "_law_fresh" "_law_fresh" (defArgs s__law_fresh) (defBody s__law_fresh) (defScope s__law_fresh) [] [] (He.ga K "_law_fresh") fd
  f__law_once : ∃ fd, FunD K "_law_once" "_law_once" (defArgs s__law_once) (defBody s__law_once) (defScope s__law_once) [] [] (He.ga K "_law_once") fd
  f__law_sorted : ∃ fd, FunD K "_law_sorted" "_law_sorted" (defArgs s__law_sorted) (defBody s__law_sorted) (defScope s__law_sorted) [] [] (He.ga K "_law_sorted") fd
  f__law_same : ∃ fd, FunD K "_law_same" "_law_same" (defArgs s__law_same) (defBody s__law_same) (defScope s__law_same) [] [] (He.ga K "_law_same") fd
  f__law_shape : ∃ fd, FunD K "_law_shape" "_law_shape" (defArgs s__law_shape) (defBody s__law_shape) (defScope s__law_shape) [] [] (He.ga K "_law_shape") fd
  f__law_lines : ∃ fd, FunD K "_law_lines" "_law_lines" (defArgs s__law_lines) (defBody s__law_lines) (defScope s__law_lines) [] [] (He.ga K "_law_lines") fd
  f__law_is_name : ∃ fd, FunD K "_law_is_name" "_law_is_name" (defArgs s__law_is_name) (defBody s__law_is_name) (defScope s__law_is_name) [] [] (He.ga K "_law_is_name") fd
  f__law_strike_line : ∃ fd, FunD K "_law_strike_line" "_law_strike_line" (defArgs s__law_strike_line) (defBody s__law_strike_line) (defScope s__law_strike_line) [] [] (He.ga K "_law_strike_line") fd
  f__law_refusal : ∃ fd, FunD K "_law_refusal" "_law_refusal" (defArgs s__law_refusal) (defBody s__law_refusal) (defScope s__law_refusal) [] [] (He.ga K "_law_refusal") fd
  f__law_due : ∃ fd, FunD K "_law_due" "_law_due" (defArgs s__law_due) (defBody s__law_due) (defScope s__law_due) [] [] (He.ga K "_law_due") fd
  f__law_spoilt : ∃ fd, FunD K "_law_spoilt" "_law_spoilt" (defArgs s__law_spoilt) (defBody s__law_spoilt) (defScope s__law_spoilt) [] [] (He.ga K "_law_spoilt") fd
  f_law : ∃ fd, FunD K "law" "law" (defArgs s_law) (defBody s_law) (defScope s_law) [] [] (He.ga K "law") fd
  f_Nursery___init__ : ∃ fd, FunD K "__init__" "Nursery.__init__" (defArgs s_Nursery___init__) (defBody s_Nursery___init__) (defScope s_Nursery___init__) [] [] (He.ma K (He.ga K "Nursery") "__init__") fd
  f_Nursery_bodies : ∃ fd, FunD K "bodies" "Nursery.bodies" (defArgs s_Nursery_bodies) (defBody s_Nursery_bodies) (defScope s_Nursery_bodies) [] [] (He.ma K (He.ga K "Nursery") "bodies") fd
  f_Nursery_inner : ∃ fd, FunD K "inner" "Nursery.inner" (defArgs s_Nursery_inner) (defBody s_Nursery_inner) (defScope s_Nursery_inner) [] [] (He.ma K (He.ga K "Nursery") "inner") fd
  f_Strike___init__ : ∃ fd, FunD K "__init__" "Strike.__init__" (defArgs s_Strike___init__) (defBody s_Strike___init__) (defScope s_Strike___init__) [] [] (He.ma K (He.ga K "Strike") "__init__") fd
  f_Strike___eq__ : ∃ fd, FunD K "__eq__" "Strike.__eq__" (defArgs s_Strike___eq__) (defBody s_Strike___eq__) (defScope s_Strike___eq__) [] [] (He.ma K (He.ga K "Strike") "__eq__") fd
  f_Book___init__ : ∃ fd, FunD K "__init__" "Book.__init__" (defArgs s_Book___init__) (defBody s_Book___init__) (defScope s_Book___init__) [.ref (He.dflAt ("Book", some "__init__") 0 K), .ref (He.dflAt ("Book", some "__init__") 1 K)] [] (He.ma K (He.ga K "Book") "__init__") fd
  f_Book___eq__ : ∃ fd, FunD K "__eq__" "Book.__eq__" (defArgs s_Book___eq__) (defBody s_Book___eq__) (defScope s_Book___eq__) [] [] (He.ma K (He.ga K "Book") "__eq__") fd
  f_Body___init__ : ∃ fd, FunD K "__init__" "Body.__init__" (defArgs s_Body___init__) (defBody s_Body___init__) (defScope s_Body___init__) [] [] (He.ma K (He.ga K "Body") "__init__") fd
  f_Desk___init__ : ∃ fd, FunD K "__init__" "Desk.__init__" (defArgs s_Desk___init__) (defBody s_Desk___init__) (defScope s_Desk___init__) [] [] (He.ma K (He.ga K "Desk") "__init__") fd
  f_Desk___getitem__ : ∃ fd, FunD K "__getitem__" "Desk.__getitem__" (defArgs s_Desk___getitem__) (defBody s_Desk___getitem__) (defScope s_Desk___getitem__) [] [] (He.ma K (He.ga K "Desk") "__getitem__") fd
  f_Desk___setitem__ : ∃ fd, FunD K "__setitem__" "Desk.__setitem__" (defArgs s_Desk___setitem__) (defBody s_Desk___setitem__) (defScope s_Desk___setitem__) [] [] (He.ma K (He.ga K "Desk") "__setitem__") fd
  f_BadLine___init__ : ∃ fd, FunD K "__init__" "BadLine.__init__" (defArgs s_BadLine___init__) (defBody s_BadLine___init__) (defScope s_BadLine___init__) [] [] (He.ma K (He.ga K "BadLine") "__init__") fd
  f_BadNumber___init__ : ∃ fd, FunD K "__init__" "BadNumber.__init__" (defArgs s_BadNumber___init__) (defBody s_BadNumber___init__) (defScope s_BadNumber___init__) [] [] (He.ma K (He.ga K "BadNumber") "__init__") fd
  f_BadMember___init__ : ∃ fd, FunD K "__init__" "BadMember.__init__" (defArgs s_BadMember___init__) (defBody s_BadMember___init__) (defScope s_BadMember___init__) [] [] (He.ma K (He.ga K "BadMember") "__init__") fd
  f_TooLarge___init__ : ∃ fd, FunD K "__init__" "TooLarge.__init__" (defArgs s_TooLarge___init__) (defBody s_TooLarge___init__) (defScope s_TooLarge___init__) [] [] (He.ma K (He.ga K "TooLarge") "__init__") fd
  f_NoBody___init__ : ∃ fd, FunD K "__init__" "NoBody.__init__" (defArgs s_NoBody___init__) (defBody s_NoBody___init__) (defScope s_NoBody___init__) [] [] (He.ma K (He.ga K "NoBody") "__init__") fd
  c_Book : Cls K (He.ga K "Book")
  na_Book__kinds : NoAttr K (He.ga K "Book") "_kinds"
  na_Book__sizes : NoAttr K (He.ga K "Book") "_sizes"
  c_Body : Cls K (He.ga K "Body")
  na_Body_book : NoAttr K (He.ga K "Body") "book"
  na_Body_statements : NoAttr K (He.ga K "Body") "statements"
  c_Desk : Cls K (He.ga K "Desk")
  na_Desk_book : NoAttr K (He.ga K "Desk") "book"
  na_Desk_reading : NoAttr K (He.ga K "Desk") "reading"
  na_Desk__bodies : NoAttr K (He.ga K "Desk") "_bodies"
  c_Nursery : Cls K (He.ga K "Nursery")
  na_Nursery_strike : NoAttr K (He.ga K "Nursery") "strike"
  na_Nursery_rule : NoAttr K (He.ga K "Nursery") "rule"
  na_Nursery_members : NoAttr K (He.ga K "Nursery") "members"
  na_Nursery_place : NoAttr K (He.ga K "Nursery") "place"
  c_Strike : Cls K (He.ga K "Strike")
  na_Strike_name : NoAttr K (He.ga K "Strike") "name"
  na_Strike_shield : NoAttr K (He.ga K "Strike") "shield"
  m_Book___eq__ : Meth K (He.ga K "Book") "__eq__" (He.ma K (He.ga K "Book") "__eq__")
  m_Desk___getitem__ : Meth K (He.ga K "Desk") "__getitem__" (He.ma K (He.ga K "Desk") "__getitem__")
  m_Desk___setitem__ : Meth K (He.ga K "Desk") "__setitem__" (He.ma K (He.ga K "Desk") "__setitem__")
  m_Nursery_bodies : Meth K (He.ga K "Nursery") "bodies" (He.ma K (He.ga K "Nursery") "bodies")
  m_Nursery_inner : Meth K (He.ga K "Nursery") "inner" (He.ma K (He.ga K "Nursery") "inner")
  m_Strike___eq__ : Meth K (He.ga K "Strike") "__eq__" (He.ma K (He.ga K "Strike") "__eq__")
  m_BadLine___init__ : Meth K (He.ga K "BadLine") "__init__" (He.ma K (He.ga K "BadLine") "__init__")
  m_BadNumber___init__ : Meth K (He.ga K "BadNumber") "__init__" (He.ma K (He.ga K "BadNumber") "__init__")
  m_BadMember___init__ : Meth K (He.ga K "BadMember") "__init__" (He.ma K (He.ga K "BadMember") "__init__")
  m_TooLarge___init__ : Meth K (He.ga K "TooLarge") "__init__" (He.ma K (He.ga K "TooLarge") "__init__")
  m_NoBody___init__ : Meth K (He.ga K "NoBody") "__init__" (He.ma K (He.ga K "NoBody") "__init__")
  mk_Book : Mk K (He.ga K "Book") (He.ma K (He.ga K "Book") "__init__")
  mk_Body : Mk K (He.ga K "Body") (He.ma K (He.ga K "Body") "__init__")
  mk_Desk : Mk K (He.ga K "Desk") (He.ma K (He.ga K "Desk") "__init__")
  mk_Nursery : Mk K (He.ga K "Nursery") (He.ma K (He.ga K "Nursery") "__init__")
  mk_Strike : Mk K (He.ga K "Strike") (He.ma K (He.ga K "Strike") "__init__")
  e_Book0 : EmptyT K (He.dflAt ("Book", some "__init__") 0 K)
  e_Book1 : EmptyT K (He.dflAt ("Book", some "__init__") 1 K)
  ne_Book : NeC K (He.ga K "Book") (He.ma K (He.ga K "Book") "__eq__")
  cv_Nursery_MEMBERS : CV K (He.ga K "Nursery") "MEMBERS" (.int 4)
  cv_Nursery_BODIES : CV K (He.ga K "Nursery") "BODIES" (.int 8)
  cv_Nursery_DEPTH : CV K (He.ga K "Nursery") "DEPTH" (.int 3)
  cv_Body_STATEMENTS : CV K (He.ga K "Body") "STATEMENTS" (.int 24)
  cv_Body_SIZE : CV K (He.ga K "Body") "SIZE" (.int 120)
  is_Nursery : IsC K (He.ga K "Nursery")
  is_Strike : IsC K (He.ga K "Strike")
  is_Body : IsC K (He.ga K "Body")
  p_Book_stores : PropOf K (He.ga K "Book") "stores" (He.ma K (He.ga K "Book") "stores") (pgA K (He.ga K "Book") "stores" 0)
  ox_BadLine : OexC K (He.ga K "BadLine")
  nf_BadLine : PySem.W.findIn K (.ref (He.ga K "BadLine")) "line" = some none
  ox_BadNumber : OexC K (He.ga K "BadNumber")
  nf_BadNumber : PySem.W.findIn K (.ref (He.ga K "BadNumber")) "number" = some none
  ox_BadMember : OexC K (He.ga K "BadMember")
  nf_BadMember : PySem.W.findIn K (.ref (He.ga K "BadMember")) "at" = some none
  ox_TooLarge : OexC K (He.ga K "TooLarge")
  nf_TooLarge : PySem.W.findIn K (.ref (He.ga K "TooLarge")) "most" = some none
  ox_NoBody : OexC K (He.ga K "NoBody")
  nf_NoBody : PySem.W.findIn K (.ref (He.ga K "NoBody")) "name" = some none
  xf_BadLine : XfC K (He.ga K "BadLine")
  ex_BadLine_BadLine : PySem.W.exmOne K (.ref (He.ga K "BadLine")) (.ref (He.ga K "BadLine")) = some true
  ex_BadNumber_DeedError : PySem.W.exmOne K (.ref (He.ga K "BadNumber")) (.ref (He.ga K "DeedError")) = some true
  ex_BadMember_DeedError : PySem.W.exmOne K (.ref (He.ga K "BadMember")) (.ref (He.ga K "DeedError")) = some true
  ex_TooLarge_DeedError : PySem.W.exmOne K (.ref (He.ga K "TooLarge")) (.ref (He.ga K "DeedError")) = some true
  ex_NoBody_DeedError : PySem.W.exmOne K (.ref (He.ga K "NoBody")) (.ref (He.ga K "DeedError")) = some true
  b_DeedError : BaseInit K (He.ga K "DeedError")
  cm_Strike_read : CMt K (He.ga K "Strike") "read"
  tv_LENGTHS_leave : ∃ u, PySem.W.nsIn K (He.ga K "LENGTHS") "leave" = some (some u) ∧ RelV (.int 2) u
  is_Book : IsC K (He.ga K "Book")
  kn_Body_Nursery : PySem.W.kitOne K (.ref (He.ga K "Body")) (.ref (He.ga K "Nursery")) = some false
  ns_Desk : PySem.W.noSeq K (He.ga K "Desk") = true
  kd_LENGTHS : ∃ es n, KDict K w (He.ga K "LENGTHS") es n
end U

set_option Elab.async false
set_option linter.all false
set_option maxRecDepth 100000
set_option maxHeartbeats 0
namespace U
open PySem PySem.Spec PyProof.Rows L2
abbrev R : PySem.W.OpenRow := PySem.W.OpenLaw.row PySem.Challenge.rw_struckbodies_k91_whole_wrong_nursery_lin
def dd_is_name : He.DefD := ⟨("is_name", none), "is_name", "is_name", defArgs s_is_name, defBody s_is_name, defScope s_is_name, [], []⟩
def dd_check_name : He.DefD := ⟨("check_name", none), "check_name", "check_name", defArgs s_check_name, defBody s_check_name, defScope s_check_name, [], []⟩
def dd_check_number : He.DefD := ⟨("check_number", none), "check_number", "check_number", defArgs s_check_number, defBody s_check_number, defScope s_check_number, [], []⟩
def dd_height_of : He.DefD := ⟨("height_of", none), "height_of", "height_of", defArgs s_height_of, defBody s_height_of, defScope s_height_of, [], []⟩
def dd_strike_of : He.DefD := ⟨("strike_of", none), "strike_of", "strike_of", defArgs s_strike_of, defBody s_strike_of, defScope s_strike_of, [], []⟩
def dd_body_named : He.DefD := ⟨("body_named", none), "body_named", "body_named", defArgs s_body_named, defBody s_body_named, defScope s_body_named, [], []⟩
def dd_made_nursery : He.DefD := ⟨("made_nursery", none), "made_nursery", "made_nursery", defArgs s_made_nursery, defBody s_made_nursery, defScope s_made_nursery, [], []⟩
def dd_read_nursery : He.DefD := ⟨("read_nursery", none), "read_nursery", "read_nursery", defArgs s_read_nursery, defBody s_read_nursery, defScope s_read_nursery, [], []⟩
def dd_copied : He.DefD := ⟨("copied", none), "copied", "copied", defArgs s_copied, defBody s_copied, defScope s_copied, [], []⟩
def dd_blocks_of : He.DefD := ⟨("blocks_of", none), "blocks_of", "blocks_of", defArgs s_blocks_of, defBody s_blocks_of, defScope s_blocks_of, [], []⟩
def dd_check_parts : He.DefD := ⟨("check_parts", none), "check_parts", "check_parts", defArgs s_check_parts, defBody s_check_parts, defScope s_check_parts, [], []⟩
def dd_check_all : He.DefD := ⟨("check_all", none), "check_all", "check_all", defArgs s_check_all, defBody s_check_all, defScope s_check_all, [], []⟩
def dd_in_order : He.DefD := ⟨("in_order", none), "in_order", "in_order", defArgs s_in_order, defBody s_in_order, defScope s_in_order, [], []⟩
def dd__law_pool : He.DefD := ⟨("_law_pool", none), "_law_pool", "_law_pool", defArgs s__law_pool, defBody s__law_pool, defScope s__law_pool, [], []⟩
def dd__law_mixed : He.DefD := ⟨("_law_mixed", none), "_law_mixed", "_law_mixed", defArgs s__law_mixed, defBody s__law_mixed, defScope s__law_mixed, [], []⟩
def dd__law_draw : He.DefD := ⟨("_law_draw", none), "_law_draw", "_law_draw", defArgs s__law_draw, defBody s__law_draw, defScope s__law_draw, [], []⟩
def dd__law_name : He.DefD := ⟨("_law_name", none), "_law_name", "_law_name", defArgs s__law_name, defBody s__law_name, defScope s__law_name, [], []⟩
def dd__law_fresh : He.DefD := ⟨("_law_fresh", none), "_law_fresh", "_law_fresh", defArgs s__law_fresh, defBody s__law_fresh, defScope s__law_fresh, [], []⟩
def dd__law_once : He.DefD := ⟨("_law_once", none), "_law_once", "_law_once", defArgs s__law_once, defBody s__law_once, defScope s__law_once, [], []⟩
def dd__law_sorted : He.DefD := ⟨("_law_sorted", none), "_law_sorted", "_law_sorted", defArgs s__law_sorted, defBody s__law_sorted, defScope s__law_sorted, [], []⟩
def dd__law_same : He.DefD := ⟨("_law_same", none), "_law_same", "_law_same", defArgs s__law_same, defBody s__law_same, defScope s__law_same, [], []⟩
def dd__law_shape : He.DefD := ⟨("_law_shape", none), "_law_shape", "_law_shape", defArgs s__law_shape, defBody s__law_shape, defScope s__law_shape, [], []⟩
def dd__law_lines : He.DefD := ⟨("_law_lines", none), "_law_lines", "_law_lines", defArgs s__law_lines, defBody s__law_lines, defScope s__law_lines, [], []⟩
def dd__law_is_name : He.DefD := ⟨("_law_is_name", none), "_law_is_name", "_law_is_name", defArgs s__law_is_name, defBody s__law_is_name, defScope s__law_is_name, [], []⟩
def dd__law_strike_line : He.DefD := ⟨("_law_strike_line", none), "_law_strike_line", "_law_strike_line", defArgs s__law_strike_line, defBody s__law_strike_line, defScope s__law_strike_line, [], []⟩
def dd__law_refusal : He.DefD := ⟨("_law_refusal", none), "_law_refusal", "_law_refusal", defArgs s__law_refusal, defBody s__law_refusal, defScope s__law_refusal, [], []⟩
def dd__law_due : He.DefD := ⟨("_law_due", none), "_law_due", "_law_due", defArgs s__law_due, defBody s__law_due, defScope s__law_due, [], []⟩
def dd__law_spoilt : He.DefD := ⟨("_law_spoilt", none), "_law_spoilt", "_law_spoilt", defArgs s__law_spoilt, defBody s__law_spoilt, defScope s__law_spoilt, [], []⟩
def dd_law : He.DefD := ⟨("law", none), "law", "law", defArgs s_law, defBody s_law, defScope s_law, [], []⟩
def dd_Nursery___init__ : He.DefD := ⟨("Nursery", some "__init__"), "__init__", "Nursery.__init__", defArgs s_Nursery___init__, defBody s_Nursery___init__, defScope s_Nursery___init__, [], []⟩
def dd_Nursery_bodies : He.DefD := ⟨("Nursery", some "bodies"), "bodies", "Nursery.bodies", defArgs s_Nursery_bodies, defBody s_Nursery_bodies, defScope s_Nursery_bodies, [], []⟩
def dd_Nursery_inner : He.DefD := ⟨("Nursery", some "inner"), "inner", "Nursery.inner", defArgs s_Nursery_inner, defBody s_Nursery_inner, defScope s_Nursery_inner, [], []⟩
def dd_Strike___init__ : He.DefD := ⟨("Strike", some "__init__"), "__init__", "Strike.__init__", defArgs s_Strike___init__, defBody s_Strike___init__, defScope s_Strike___init__, [], []⟩
def dd_Strike___eq__ : He.DefD := ⟨("Strike", some "__eq__"), "__eq__", "Strike.__eq__", defArgs s_Strike___eq__, defBody s_Strike___eq__, defScope s_Strike___eq__, [], []⟩
def dd_Book___init__ : He.DefD := ⟨("Book", some "__init__"), "__init__", "Book.__init__", defArgs s_Book___init__, defBody s_Book___init__, defScope s_Book___init__, [.adr (He.dflAt ("Book", some "__init__") 0), .adr (He.dflAt ("Book", some "__init__") 1)], []⟩
def dd_Book___eq__ : He.DefD := ⟨("Book", some "__eq__"), "__eq__", "Book.__eq__", defArgs s_Book___eq__, defBody s_Book___eq__, defScope s_Book___eq__, [], []⟩
def dd_Body___init__ : He.DefD := ⟨("Body", some "__init__"), "__init__", "Body.__init__", defArgs s_Body___init__, defBody s_Body___init__, defScope s_Body___init__, [], []⟩
def dd_Desk___init__ : He.DefD := ⟨("Desk", some "__init__"), "__init__", "Desk.__init__", defArgs s_Desk___init__, defBody s_Desk___init__, defScope s_Desk___init__, [], []⟩
def dd_Desk___getitem__ : He.DefD := ⟨("Desk", some "__getitem__"), "__getitem__", "Desk.__getitem__", defArgs s_Desk___getitem__, defBody s_Desk___getitem__, defScope s_Desk___getitem__, [], []⟩
def dd_Desk___setitem__ : He.DefD := ⟨("Desk", some "__setitem__"), "__setitem__", "Desk.__setitem__", defArgs s_Desk___setitem__, defBody s_Desk___setitem__, defScope s_Desk___setitem__, [], []⟩
def dd_BadLine___init__ : He.DefD := ⟨("BadLine", some "__init__"), "__init__", "BadLine.__init__", defArgs s_BadLine___init__, defBody s_BadLine___init__, defScope s_BadLine___init__, [], []⟩
def dd_BadNumber___init__ : He.DefD := ⟨("BadNumber", some "__init__"), "__init__", "BadNumber.__init__", defArgs s_BadNumber___init__, defBody s_BadNumber___init__, defScope s_BadNumber___init__, [], []⟩
def dd_BadMember___init__ : He.DefD := ⟨("BadMember", some "__init__"), "__init__", "BadMember.__init__", defArgs s_BadMember___init__, defBody s_BadMember___init__, defScope s_BadMember___init__, [], []⟩
def dd_TooLarge___init__ : He.DefD := ⟨("TooLarge", some "__init__"), "__init__", "TooLarge.__init__", defArgs s_TooLarge___init__, defBody s_TooLarge___init__, defScope s_TooLarge___init__, [], []⟩
def dd_NoBody___init__ : He.DefD := ⟨("NoBody", some "__init__"), "__init__", "NoBody.__init__", defArgs s_NoBody___init__, defBody s_NoBody___init__, defScope s_NoBody___init__, [], []⟩
def fnL : List He.DefD := [dd_is_name, dd_check_name, dd_check_number, dd_height_of, dd_strike_of, dd_body_named, dd_made_nursery, dd_read_nursery, dd_copied, dd_blocks_of, dd_check_parts, dd_check_all, dd_in_order, dd__law_pool, dd__law_mixed, dd__law_draw, dd__law_name, dd__law_fresh, dd__law_once, dd__law_sorted, dd__law_same, dd__law_shape, dd__law_lines, dd__law_is_name, dd__law_strike_line, dd__law_refusal, dd__law_due, dd__law_spoilt, dd_law, dd_Nursery___init__, dd_Nursery_bodies, dd_Nursery_inner, dd_Strike___init__, dd_Strike___eq__, dd_Book___init__, dd_Book___eq__, dd_Body___init__, dd_Desk___init__, dd_Desk___getitem__, dd_Desk___setitem__, dd_BadLine___init__, dd_BadNumber___init__, dd_BadMember___init__, dd_TooLarge___init__, dd_NoBody___init__]
def gg_Book_stores : GetD := ⟨fun K => (pgA K (He.ga K "Book") "stores" 0), "stores", "Book.stores", defArgs s_Book_stores, defBody s_Book_stores, defScope s_Book_stores⟩
def gg_Strike_read : GetD := ⟨fun K => (cmA K (He.ga K "Strike") "read"), "read", "Strike.read", defArgs s_Strike_read, defBody s_Strike_read, defScope s_Strike_read⟩
def gtL : List GetD := [gg_Book_stores, gg_Strike_read]
def fa0 : List He.Fa := [.glo "is_name", .glo "check_name", .glo "check_number", .glo "state", .glo "after", .glo "height_of", .glo "strike_of", .glo "body_named", .glo "made_nursery", .glo "read_nursery", .glo "check_kind", .glo "copied", .glo "cell_names", .glo "first_store", .glo "check_argument", .glo "check_at", .glo "check_action", .glo "halves", .glo "value_of", .glo "settled", .glo "size_of", .glo "listed", .glo "statement_code", .glo "block_code", .glo "program"]
def fa1 : List He.Fa := [.glo "advance", .glo "ask_of", .glo "exit_of", .glo "following", .glo "way_out", .glo "left", .glo "forward", .glo "run", .glo "blocks_of", .glo "check_now", .glo "check_cell", .glo "check_parts", .glo "check_all", .glo "in_order", .glo "_law_pool", .glo "_law_mixed", .glo "_law_draw", .glo "_law_name", .glo "_law_fresh", .glo "_law_once", .glo "_law_sorted", .glo "_law_same", .glo "_law_shape", .glo "_law_lines", .glo "_law_is_name"]
def fa2 : List He.Fa := [.glo "_law_strike_line", .glo "_law_refusal", .glo "_law_due", .glo "_law_spoilt", .glo "law", .glo "DeedError", .glo "OtherBook", .glo "BadName", .glo "BadNumber", .glo "BadKind", .glo "BadAction", .glo "BadStatement", .glo "BadLine", .glo "UnknownStep", .glo "UnknownCell", .glo "TooLarge", .glo "Clash", .glo "NoBody", .glo "BadRule", .glo "BadMember", .glo "OtherStrike", .glo "Nursery", .glo "Strike", .glo "Book", .glo "Body"]
def fa3 : List He.Fa := [.glo "Desk", .free "len", .free "int", .free "str", .free "bool", .free "list", .free "tuple", .free "dict", .free "isinstance", .free "range", .free "enumerate", .free "sorted", .free "max", .str "LETTERS" "abcdefghijklmnopqrstuvwxyz", .str "DIGITS" "0123456789", .int "LONGEST" 12, .int "GREATEST" 999, .str "DONE" "done", .str "ERROR" "error", .glo "RULES", .glo "NUMBERED", .glo "NAMED", .glo "GUARDS", .glo "READS", .int "MANY" 3]
def fa4 : List He.Fa := [.int "DEEP" 2, .glo "STOPS", .glo "LENGTHS", .int "DEPTH" 4, .int "TIMES" 9, .cls "Book", .noat "Book" "_kinds", .noat "Book" "_sizes", .cls "Body", .noat "Body" "book", .noat "Body" "statements", .cls "Desk", .noat "Desk" "book", .noat "Desk" "reading", .noat "Desk" "_bodies", .cls "Nursery", .noat "Nursery" "strike", .noat "Nursery" "rule", .noat "Nursery" "members", .noat "Nursery" "place", .cls "Strike", .noat "Strike" "name", .noat "Strike" "shield", .meth "Book" "__eq__", .meth "Desk" "__getitem__"]
def fa5 : List He.Fa := [.meth "Desk" "__setitem__", .meth "Nursery" "bodies", .meth "Nursery" "inner", .meth "Strike" "__eq__", .meth "BadLine" "__init__", .meth "BadNumber" "__init__", .meth "BadMember" "__init__", .meth "TooLarge" "__init__", .meth "NoBody" "__init__", .mkr "Book", .mkr "Body", .mkr "Desk", .mkr "Nursery", .mkr "Strike"]
def faL : List He.Fa := fa0 ++ fa1 ++ fa2 ++ fa3 ++ fa4 ++ fa5
def ex0 (K : PySem.W.Frag) : Bool := He.tupB K "RULES" [.str "first", .str "rank", .str "least", .str "all"]
def ex1 (K : PySem.W.Frag) : Bool := He.tupB K "NUMBERED" [.str "answer", .str "heal"]
def ex2 (K : PySem.W.Frag) : Bool := He.tupB K "NAMED" [.str "jump", .str "swap"]
def ex3 (K : PySem.W.Frag) : Bool := He.tupB K "GUARDS" [.str "done", .str "error", .str "always"]
def ex4 (K : PySem.W.Frag) : Bool := He.tupB K "READS" [.str "now", .str "late"]
def ex5 (K : PySem.W.Frag) : Bool := He.tupB K "STOPS" [.str "do", .str "test", .str "leave"]
def ex6 (K : PySem.W.Frag) : Bool := emptyB K (He.dflAt ("Book", some "__init__") 0 K)
def ex7 (K : PySem.W.Frag) : Bool := emptyB K (He.dflAt ("Book", some "__init__") 1 K)
def ex8 (K : PySem.W.Frag) : Bool := neB K (He.ga K "Book")
def ex9 (K : PySem.W.Frag) : Bool := cvalB K (He.ga K "Nursery") "MEMBERS" (.int 4)
def ex10 (K : PySem.W.Frag) : Bool := cvalB K (He.ga K "Nursery") "BODIES" (.int 8)
def ex11 (K : PySem.W.Frag) : Bool := cvalB K (He.ga K "Nursery") "DEPTH" (.int 3)
def ex12 (K : PySem.W.Frag) : Bool := cvalB K (He.ga K "Body") "STATEMENTS" (.int 24)
def ex13 (K : PySem.W.Frag) : Bool := cvalB K (He.ga K "Body") "SIZE" (.int 120)
def ex14 (K : PySem.W.Frag) : Bool := iscB K (He.ga K "Nursery")
def ex15 (K : PySem.W.Frag) : Bool := iscB K (He.ga K "Strike")
def ex16 (K : PySem.W.Frag) : Bool := iscB K (He.ga K "Body")
def ex17 (K : PySem.W.Frag) : Bool := propB K (He.ga K "Book") "stores"
def ex18 (K : PySem.W.Frag) : Bool := oexB K (He.ga K "BadLine")
def ex19 (K : PySem.W.Frag) : Bool := PySem.W.findIn K (.ref (He.ga K "BadLine")) "line" == some none
def ex20 (K : PySem.W.Frag) : Bool := oexB K (He.ga K "BadNumber")
def ex21 (K : PySem.W.Frag) : Bool := PySem.W.findIn K (.ref (He.ga K "BadNumber")) "number" == some none
def ex22 (K : PySem.W.Frag) : Bool := oexB K (He.ga K "BadMember")
def ex23 (K : PySem.W.Frag) : Bool := PySem.W.findIn K (.ref (He.ga K "BadMember")) "at" == some none
def ex24 (K : PySem.W.Frag) : Bool := oexB K (He.ga K "TooLarge")
def ex25 (K : PySem.W.Frag) : Bool := PySem.W.findIn K (.ref (He.ga K "TooLarge")) "most" == some none
def ex26 (K : PySem.W.Frag) : Bool := oexB K (He.ga K "NoBody")
def ex27 (K : PySem.W.Frag) : Bool := PySem.W.findIn K (.ref (He.ga K "NoBody")) "name" == some none
def ex28 (K : PySem.W.Frag) : Bool := xfB K (He.ga K "BadLine")
def ex29 (K : PySem.W.Frag) : Bool := exmB K (He.ga K "BadLine") (He.ga K "BadLine")
def ex30 (K : PySem.W.Frag) : Bool := exmB K (He.ga K "BadNumber") (He.ga K "DeedError")
def ex31 (K : PySem.W.Frag) : Bool := exmB K (He.ga K "BadMember") (He.ga K "DeedError")
def ex32 (K : PySem.W.Frag) : Bool := exmB K (He.ga K "TooLarge") (He.ga K "DeedError")
def ex33 (K : PySem.W.Frag) : Bool := exmB K (He.ga K "NoBody") (He.ga K "DeedError")
def ex34 (K : PySem.W.Frag) : Bool := baseB K (He.ga K "DeedError")
def ex35 (K : PySem.W.Frag) : Bool := cmB K (He.ga K "Strike") "read"
def ex36 (K : PySem.W.Frag) : Bool := tabB K (He.ga K "LENGTHS") "leave" (.int 2)
def ex37 (K : PySem.W.Frag) : Bool := iscB K (He.ga K "Book")
def ex38 (K : PySem.W.Frag) : Bool := PySem.W.kitOne K (.ref (He.ga K "Body")) (.ref (He.ga K "Nursery")) == some false
def ex39 (K : PySem.W.Frag) : Bool := PySem.W.noSeq K (He.ga K "Desk")
def exL : List (PySem.W.Frag → Bool) := [ex0, ex1, ex2, ex3, ex4, ex5, ex6, ex7, ex8, ex9, ex10, ex11, ex12, ex13, ex14, ex15, ex16, ex17, ex18, ex19, ex20, ex21, ex22, ex23, ex24, ex25, ex26, ex27, ex28, ex29, ex30, ex31, ex32, ex33, ex34, ex35, ex36, ex37, ex38, ex39]
def exB (K : PySem.W.Frag) : Bool := exL.all fun b => b K
def tt_LENGTHS : He.Tab := (fun K => He.ga K "LENGTHS", ["do", "put", "set", "if", "while", "when", "return", "leave", "raise"])
def tsL : List He.Tab := [tt_LENGTHS]
abbrev hk : PySem.W.Hook := hookZ faL fnL gtL exB tsL
def ob (s : PySem.W.SharedT) : AlZ := obsZG faL fnL gtL exB tsL (HandSHeadRun.getT s)
theorem ob_eq (s : PySem.W.SharedT) : ob s = hk.obs s.abs := obsZG_at (HandSHeadRun.getT_eq s)
def ln0 : List PySem.Str := ["_wall", "DeedError", "OtherBook", "BadName", "BadNumber", "BadKind", "BadAction", "BadStatement", "BadLine", "UnknownStep", "UnknownCell", "TooLarge", "Clash", "NoBody", "BadRule", "BadMember", "OtherStrike", "LETTERS", "DIGITS", "LONGEST", "GREATEST", "is_name", "check_name", "check_number", "DONE", "ERROR", "state", "after", "RULES", "height_of"]
def ln1 : List PySem.Str := ["Nursery", "Strike", "strike_of", "body_named", "made_nursery", "read_nursery", "NUMBERED", "NAMED", "check_kind", "Book", "copied", "cell_names", "first_store", "GUARDS", "READS", "MANY", "DEEP", "check_argument", "check_at", "check_action", "halves", "value_of", "settled", "size_of", "listed", "STOPS", "statement_code", "block_code", "program", "advance"]
def ln2 : List PySem.Str := ["ask_of", "exit_of", "following", "way_out", "left", "forward", "run", "LENGTHS", "DEPTH", "blocks_of", "check_now", "check_cell", "check_parts", "check_all", "in_order", "TIMES", "Body", "Desk", "_law_pool", "_law_mixed", "_law_draw", "_law_name", "_law_fresh", "_law_once", "_law_sorted", "_law_same", "_law_shape", "_law_lines", "_law_is_name", "_law_strike_line"]
def ln3 : List PySem.Str := ["_law_refusal", "_law_due", "_law_spoilt"]
def loose : List PySem.Str := ln0 ++ ln1 ++ ln2 ++ ln3
/-- the world, one of its words set -/
def setW (w : World) (b : Bool) : World := { w with params := { w.params with followText := fun r => match r == "special-get-raises" with
  | true => b
  | false => w.params.followText r } }
theorem setW_eq (w : World) : setW w (w.params.followText "special-get-raises") = w := by
  obtain ⟨d, P⟩ := w
  have e : (fun r => match r == "special-get-raises" with
    | true => P.followText "special-get-raises"
    | false => P.followText r) = P.followText := by
    funext r
    cases h : r == "special-get-raises" with
    | true => rw [beq_iff_eq.mp h]
    | false => rfl
  unfold setW
  dsimp only
  rw [e]
theorem mapQ {α β γ δ : Type} {o : Option α} {f : α → β × γ × δ} {a : β × γ × δ} (h1 : o.map (fun s => ((f s).1, (f s).2.1)) = some (a.1, a.2.1)) (h2 : o.map (fun s => (f s).2.2) = some a.2.2) : o.map f = some a := by
  cases o with
  | none => cases h1
  | some s =>
    have q : ((f s).1, (f s).2.1) = (a.1, a.2.1) := Option.some.inj h1
    obtain ⟨q1, q2⟩ := Prod.mk.inj q
    exact congrArg some (Prod.ext q1 (Prod.ext q2 (Option.some.inj h2)))
section
open PySem PySem.W PySem.Calls PyProof.Rows HandSHeadRun
theorem rA_t (w : World) (os : OsState) : (endF (stepQ (denQ tabQ) R.prog (setW w true)) 90000 R.prog (setW w true) os).map (fun s => (looksF R.prog (boot_heap (World.params (setW w true))) s.abs, seenQ (PySem.W.view R.prog [108]) loose (importedModules R.prog.main.body) (fun s => xlAt (PySem.W.view R.prog [108]) [] s && recOk R.toRowW.records s) s.abs)) = some (true, openGood (PySem.W.view R.prog [108]) loose) := by kernel_rfl
theorem rC_t (w : World) (os : OsState) : (endF (stepQ (denQ tabQ) R.prog (setW w true)) 90000 R.prog (setW w true) os).map (fun s => ob s) = some (PySem.W.Hook.val hk (setW w true)) := by kernel_rfl
theorem run_t (w : World) : HandSHeadRun.RunEq R (PySem.W.view R.prog [108]) hk ob 90000 loose (setW w true) := fun os => mapQ (rA_t w os) (rC_t w os)
theorem rA_f (w : World) (os : OsState) : (endF (stepQ (denQ tabQ) R.prog (setW w false)) 90000 R.prog (setW w false) os).map (fun s => (looksF R.prog (boot_heap (World.params (setW w false))) s.abs, seenQ (PySem.W.view R.prog [108]) loose (importedModules R.prog.main.body) (fun s => xlAt (PySem.W.view R.prog [108]) [] s && recOk R.toRowW.records s) s.abs)) = some (true, openGood (PySem.W.view R.prog [108]) loose) := by kernel_rfl
theorem rC_f (w : World) (os : OsState) : (endF (stepQ (denQ tabQ) R.prog (setW w false)) 90000 R.prog (setW w false) os).map (fun s => ob s) = some (PySem.W.Hook.val hk (setW w false)) := by kernel_rfl
theorem run_f (w : World) : HandSHeadRun.RunEq R (PySem.W.view R.prog [108]) hk ob 90000 loose (setW w false) := fun os => mapQ (rA_f w os) (rC_f w os)
end
theorem run (w : World) : HandSHeadRun.RunEq R (PySem.W.view R.prog [108]) hk ob 90000 loose w := by
  have e := setW_eq w
  cases h : w.params.followText "special-get-raises" with
  | true =>
    rw [h] at e
    rw [← e]
    exact run_t w
  | false =>
    rw [h] at e
    rw [← e]
    exact run_f w
theorem ex_ok {K : PySem.W.Frag} (c : SaysY faL fnL gtL exB K) (i : Nat) {b : PySem.W.Frag → Bool} (e : exL[i]? = some b := by rfl) : b K = true := by
  have q : (exL.all fun b => b K) = true := c.more
  exact List.all_eq_true.mp q b (List.mem_of_getElem? e)
theorem gs_ok {v : Option Value} {z : Str} (h : ∃ t, v = some (.str z t)) : ∃ u, v = some u ∧ RelV (.str z) u := by
  obtain ⟨t, e⟩ := h
  exact ⟨_, e, t, rfl⟩
theorem gi_ok {v : Option Value} {z : Int} (h : ∃ t, v = some (.int z t)) : ∃ u, v = some u ∧ RelV (.int z) u := by
  obtain ⟨t, e⟩ := h
  exact ⟨_, e, t, rfl⟩
theorem txt_of {h : Heap} {K : PySem.W.Frag} {mg : Str → Option Value} {w : World} (X : K.In h) (G : h.Ns mainGlobals mg) (c : SaysZ faL fnL gtL exB tsL w K) : Txt w K mg := {
  g_is_name := He.glo_ok X G (c.y.d.fact 0 (f := .glo "is_name") rfl),
  g_check_name := He.glo_ok X G (c.y.d.fact 1 (f := .glo "check_name") rfl),
  g_check_number := He.glo_ok X G (c.y.d.fact 2 (f := .glo "check_number") rfl),
  g_state := He.glo_ok X G (c.y.d.fact 3 (f := .glo "state") rfl),
  g_after := He.glo_ok X G (c.y.d.fact 4 (f := .glo "after") rfl),
  g_height_of := He.glo_ok X G (c.y.d.fact 5 (f := .glo "height_of") rfl),
  g_strike_of := He.glo_ok X G (c.y.d.fact 6 (f := .glo "strike_of") rfl),
  g_body_named := He.glo_ok X G (c.y.d.fact 7 (f := .glo "body_named") rfl),
  g_made_nursery := He.glo_ok X G (c.y.d.fact 8 (f := .glo "made_nursery") rfl),
  g_read_nursery := He.glo_ok X G (c.y.d.fact 9 (f := .glo "read_nursery") rfl),
  g_check_kind := He.glo_ok X G (c.y.d.fact 10 (f := .glo "check_kind") rfl),
  g_copied := He.glo_ok X G (c.y.d.fact 11 (f := .glo "copied") rfl),
  g_cell_names := He.glo_ok X G (c.y.d.fact 12 (f := .glo "cell_names") rfl),
  g_first_store := He.glo_ok X G (c.y.d.fact 13 (f := .glo "first_store") rfl),
  g_check_argument := He.glo_ok X G (c.y.d.fact 14 (f := .glo "check_argument") rfl),
  g_check_at := He.glo_ok X G (c.y.d.fact 15 (f := .glo "check_at") rfl),
  g_check_action := He.glo_ok X G (c.y.d.fact 16 (f := .glo "check_action") rfl),
  g_halves := He.glo_ok X G (c.y.d.fact 17 (f := .glo "halves") rfl),
  g_value_of := He.glo_ok X G (c.y.d.fact 18 (f := .glo "value_of") rfl),
  g_settled := He.glo_ok X G (c.y.d.fact 19 (f := .glo "settled") rfl),
  g_size_of := He.glo_ok X G (c.y.d.fact 20 (f := .glo "size_of") rfl),
  g_listed := He.glo_ok X G (c.y.d.fact 21 (f := .glo "listed") rfl),
  g_statement_code := He.glo_ok X G (c.y.d.fact 22 (f := .glo "statement_code") rfl),
  g_block_code := He.glo_ok X G (c.y.d.fact 23 (f := .glo "block_code") rfl),
  g_program := He.glo_ok X G (c.y.d.fact 24 (f := .glo "program") rfl),
  g_advance := He.glo_ok X G (c.y.d.fact 25 (f := .glo "advance") rfl),
  g_ask_of := He.glo_ok X G (c.y.d.fact 26 (f := .glo "ask_of") rfl),
  g_exit_of := He.glo_ok X G (c.y.d.fact 27 (f := .glo "exit_of") rfl),
  g_following := He.glo_ok X G (c.y.d.fact 28 (f := .glo "following") rfl),
  g_way_out := He.glo_ok X G (c.y.d.fact 29 (f := .glo "way_out") rfl),
  g_left := He.glo_ok X G (c.y.d.fact 30 (f := .glo "left") rfl),
  g_forward := He.glo_ok X G (c.y.d.fact 31 (f := .glo "forward") rfl),
  g_run := He.glo_ok X G (c.y.d.fact 32 (f := .glo "run") rfl),
  g_blocks_of := He.glo_ok X G (c.y.d.fact 33 (f := .glo "blocks_of") rfl),
  g_check_now := He.glo_ok X G (c.y.d.fact 34 (f := .glo "check_now") rfl),
  g_check_cell := He.glo_ok X G (c.y.d.fact 35 (f := .glo "check_cell") rfl),
  g_check_parts := He.glo_ok X G (c.y.d.fact 36 (f := .glo "check_parts") rfl),
  g_check_all := He.glo_ok X G (c.y.d.fact 37 (f := .glo "check_all") rfl),
  g_in_order := He.glo_ok X G (c.y.d.fact 38 (f := .glo "in_order") rfl),
  g__law_pool := He.glo_ok X G (c.y.d.fact 39 (f := .glo "_law_pool") rfl),
  g__law_mixed := He.glo_ok X G (c.y.d.fact 40 (f := .glo "_law_mixed") rfl),
  g__law_draw := He.glo_ok X G (c.y.d.fact 41 (f := .glo "_law_draw") rfl),
  g__law_name := He.glo_ok X G (c.y.d.fact 42 (f := .glo "_law_name") rfl),
  g__law_fresh := He.glo_ok X G (c.y.d.fact 43 (f := .glo "_law_fresh") rfl),
  g__law_once := He.glo_ok X G (c.y.d.fact 44 (f := .glo "_law_once") rfl),
  g__law_sorted := He.glo_ok X G (c.y.d.fact 45 (f := .glo "_law_sorted") rfl),
  g__law_same := He.glo_ok X G (c.y.d.fact 46 (f := .glo "_law_same") rfl),
  g__law_shape := He.glo_ok X G (c.y.d.fact 47 (f := .glo "_law_shape") rfl),
  g__law_lines := He.glo_ok X G (c.y.d.fact 48 (f := .glo "_law_lines") rfl),
  g__law_is_name := He.glo_ok X G (c.y.d.fact 49 (f := .glo "_law_is_name") rfl),
  g__law_strike_line := He.glo_ok X G (c.y.d.fact 50 (f := .glo "_law_strike_line") rfl),
  g__law_refusal := He.glo_ok X G (c.y.d.fact 51 (f := .glo "_law_refusal") rfl),
  g__law_due := He.glo_ok X G (c.y.d.fact 52 (f := .glo "_law_due") rfl),
  g__law_spoilt := He.glo_ok X G (c.y.d.fact 53 (f := .glo "_law_spoilt") rfl),
  g_law := He.glo_ok X G (c.y.d.fact 54 (f := .glo "law") rfl),
  g_DeedError := He.glo_ok X G (c.y.d.fact 55 (f := .glo "DeedError") rfl),
  g_OtherBook := He.glo_ok X G (c.y.d.fact 56 (f := .glo "OtherBook") rfl),
  g_BadName := He.glo_ok X G (c.y.d.fact 57 (f := .glo "BadName") rfl),
  g_BadNumber := He.glo_ok X G (c.y.d.fact 58 (f := .glo "BadNumber") rfl),
  g_BadKind := He.glo_ok X G (c.y.d.fact 59 (f := .glo "BadKind") rfl),
  g_BadAction := He.glo_ok X G (c.y.d.fact 60 (f := .glo "BadAction") rfl),
  g_BadStatement := He.glo_ok X G (c.y.d.fact 61 (f := .glo "BadStatement") rfl),
  g_BadLine := He.glo_ok X G (c.y.d.fact 62 (f := .glo "BadLine") rfl),
  g_UnknownStep := He.glo_ok X G (c.y.d.fact 63 (f := .glo "UnknownStep") rfl),
  g_UnknownCell := He.glo_ok X G (c.y.d.fact 64 (f := .glo "UnknownCell") rfl),
  g_TooLarge := He.glo_ok X G (c.y.d.fact 65 (f := .glo "TooLarge") rfl),
  g_Clash := He.glo_ok X G (c.y.d.fact 66 (f := .glo "Clash") rfl),
  g_NoBody := He.glo_ok X G (c.y.d.fact 67 (f := .glo "NoBody") rfl),
  g_BadRule := He.glo_ok X G (c.y.d.fact 68 (f := .glo "BadRule") rfl),
  g_BadMember := He.glo_ok X G (c.y.d.fact 69 (f := .glo "BadMember") rfl),
  g_OtherStrike := He.glo_ok X G (c.y.d.fact 70 (f := .glo "OtherStrike") rfl),
  g_Nursery := He.glo_ok X G (c.y.d.fact 71 (f := .glo "Nursery") rfl),
  g_Strike := He.glo_ok X G (c.y.d.fact 72 (f := .glo "Strike") rfl),
  g_Book := He.glo_ok X G (c.y.d.fact 73 (f := .glo "Book") rfl),
  g_Body := He.glo_ok X G (c.y.d.fact 74 (f := .glo "Body") rfl),
  g_Desk := He.glo_ok X G (c.y.d.fact 75 (f := .glo "Desk") rfl),
  n_len := He.free_ok X G (c.y.d.fact 76 (f := .free "len") rfl),
  n_int := He.free_ok X G (c.y.d.fact 77 (f := .free "int") rfl),
  n_str := He.free_ok X G (c.y.d.fact 78 (f := .free "str") rfl),
  n_bool := He.free_ok X G (c.y.d.fact 79 (f := .free "bool") rfl),
  n_list := He.free_ok X G (c.y.d.fact 80 (f := .free "list") rfl),
  n_tuple := He.free_ok X G (c.y.d.fact 81 (f := .free "tuple") rfl),
  n_dict := He.free_ok X G (c.y.d.fact 82 (f := .free "dict") rfl),
  n_isinstance := He.free_ok X G (c.y.d.fact 83 (f := .free "isinstance") rfl),
  n_range := He.free_ok X G (c.y.d.fact 84 (f := .free "range") rfl),
  n_enumerate := He.free_ok X G (c.y.d.fact 85 (f := .free "enumerate") rfl),
  n_sorted := He.free_ok X G (c.y.d.fact 86 (f := .free "sorted") rfl),
  n_max := He.free_ok X G (c.y.d.fact 87 (f := .free "max") rfl),
  v_LETTERS := gs_ok (He.str_ok X G (c.y.d.fact 88 (f := .str "LETTERS" "abcdefghijklmnopqrstuvwxyz") rfl)),
  v_DIGITS := gs_ok (He.str_ok X G (c.y.d.fact 89 (f := .str "DIGITS" "0123456789") rfl)),
  v_LONGEST := gi_ok (He.int_ok X G (c.y.d.fact 90 (f := .int "LONGEST" 12) rfl)),
  v_GREATEST := gi_ok (He.int_ok X G (c.y.d.fact 91 (f := .int "GREATEST" 999) rfl)),
  v_DONE := gs_ok (He.str_ok X G (c.y.d.fact 92 (f := .str "DONE" "done") rfl)),
  v_ERROR := gs_ok (He.str_ok X G (c.y.d.fact 93 (f := .str "ERROR" "error") rfl)),
  v_RULES := ⟨_, He.glo_ok X G (c.y.d.fact 94 (f := .glo "RULES") rfl), rfl⟩,
  q_RULES := fun H => He.tupB_ok (vs := [.str "first", .str "rank", .str "least", .str "all"]) (ex_ok c.y 0) H,
  v_NUMBERED := ⟨_, He.glo_ok X G (c.y.d.fact 95 (f := .glo "NUMBERED") rfl), rfl⟩,
  q_NUMBERED := fun H => He.tupB_ok (vs := [.str "answer", .str "heal"]) (ex_ok c.y 1) H,
  v_NAMED := ⟨_, He.glo_ok X G (c.y.d.fact 96 (f := .glo "NAMED") rfl), rfl⟩,
  q_NAMED := fun H => He.tupB_ok (vs := [.str "jump", .str "swap"]) (ex_ok c.y 2) H,
  v_GUARDS := ⟨_, He.glo_ok X G (c.y.d.fact 97 (f := .glo "GUARDS") rfl), rfl⟩,
  q_GUARDS := fun H => He.tupB_ok (vs := [.str "done", .str "error", .str "always"]) (ex_ok c.y 3) H,
  v_READS := ⟨_, He.glo_ok X G (c.y.d.fact 98 (f := .glo "READS") rfl), rfl⟩,
  q_READS := fun H => He.tupB_ok (vs := [.str "now", .str "late"]) (ex_ok c.y 4) H,
  v_MANY := gi_ok (He.int_ok X G (c.y.d.fact 99 (f := .int "MANY" 3) rfl)),
  v_DEEP := gi_ok (He.int_ok X G (c.y.d.fact 100 (f := .int "DEEP" 2) rfl)),
  v_STOPS := ⟨_, He.glo_ok X G (c.y.d.fact 101 (f := .glo "STOPS") rfl), rfl⟩,
  q_STOPS := fun H => He.tupB_ok (vs := [.str "do", .str "test", .str "leave"]) (ex_ok c.y 5) H,
  v_LENGTHS := ⟨_, He.glo_ok X G (c.y.d.fact 102 (f := .glo "LENGTHS") rfl), rfl⟩,
  v_DEPTH := gi_ok (He.int_ok X G (c.y.d.fact 103 (f := .int "DEPTH" 4) rfl)),
  v_TIMES := gi_ok (He.int_ok X G (c.y.d.fact 104 (f := .int "TIMES" 9) rfl)),
  f_Book_stores := c.y.get 0 (d := gg_Book_stores) rfl,
  f_Strike_read := c.y.get 1 (d := gg_Strike_read) rfl,
  f_is_name := c.y.d.def_ 0 (d := dd_is_name) rfl,
  f_check_name := c.y.d.def_ 1 (d := dd_check_name) rfl,
  f_check_number := c.y.d.def_ 2 (d := dd_check_number) rfl,
  f_height_of := c.y.d.def_ 3 (d := dd_height_of) rfl,
  f_strike_of := c.y.d.def_ 4 (d := dd_strike_of) rfl,
  f_body_named := c.y.d.def_ 5 (d := dd_body_named) rfl,
  f_made_nursery := c.y.d.def_ 6 (d := dd_made_nursery) rfl,
  f_read_nursery := c.y.d.def_ 7 (d := dd_read_nursery) rfl,
  f_copied := c.y.d.def_ 8 (d := dd_copied) rfl,
  f_blocks_of := c.y.d.def_ 9 (d := dd_blocks_of) rfl,
  f_check_parts := c.y.d.def_ 10 (d := dd_check_parts) rfl,
  f_check_all := c.y.d.def_ 11 (d := dd_check_all) rfl,
  f_in_order := c.y.d.def_ 12 (d := dd_in_order) rfl,
  f__law_pool := c.y.d.def_ 13 (d := dd__law_pool) rfl,
  f__law_mixed := c.y.d.def_ 14 (d := dd__law_mixed) rfl,
  f__law_draw := c.y.d.def_ 15 (d := dd__law_draw) rfl,
  f__law_name := c.y.d.def_ 16 (d := dd__law_name) rfl,
  f__law_fresh := c.y.d.def_ 17 (d := dd__law_fresh) rfl,
  f__law_once := c.y.d.def_ 18 (d := dd__law_once) rfl,
  f__law_sorted := c.y.d.def_ 19 (d := dd__law_sorted) rfl,
  f__law_same := c.y.d.def_ 20 (d := dd__law_same) rfl,
  f__law_shape := c.y.d.def_ 21 (d := dd__law_shape) rfl,
  f__law_lines := c.y.d.def_ 22 (d := dd__law_lines) rfl,
  f__law_is_name := c.y.d.def_ 23 (d := dd__law_is_name) rfl,
  f__law_strike_line := c.y.d.def_ 24 (d := dd__law_strike_line) rfl,
  f__law_refusal := c.y.d.def_ 25 (d := dd__law_refusal) rfl,
  f__law_due := c.y.d.def_ 26 (d := dd__law_due) rfl,
  f__law_spoilt := c.y.d.def_ 27 (d := dd__law_spoilt) rfl,
  f_law := c.y.d.def_ 28 (d := dd_law) rfl,
  f_Nursery___init__ := c.y.d.def_ 29 (d := dd_Nursery___init__) rfl,
  f_Nursery_bodies := c.y.d.def_ 30 (d := dd_Nursery_bodies) rfl,
  f_Nursery_inner := c.y.d.def_ 31 (d := dd_Nursery_inner) rfl,
  f_Strike___init__ := c.y.d.def_ 32 (d := dd_Strike___init__) rfl,
  f_Strike___eq__ := c.y.d.def_ 33 (d := dd_Strike___eq__) rfl,
  f_Book___init__ := c.y.d.def_ 34 (d := dd_Book___init__) rfl,
  f_Book___eq__ := c.y.d.def_ 35 (d := dd_Book___eq__) rfl,
  f_Body___init__ := c.y.d.def_ 36 (d := dd_Body___init__) rfl,
  f_Desk___init__ := c.y.d.def_ 37 (d := dd_Desk___init__) rfl,
  f_Desk___getitem__ := c.y.d.def_ 38 (d := dd_Desk___getitem__) rfl,
  f_Desk___setitem__ := c.y.d.def_ 39 (d := dd_Desk___setitem__) rfl,
  f_BadLine___init__ := c.y.d.def_ 40 (d := dd_BadLine___init__) rfl,
  f_BadNumber___init__ := c.y.d.def_ 41 (d := dd_BadNumber___init__) rfl,
  f_BadMember___init__ := c.y.d.def_ 42 (d := dd_BadMember___init__) rfl,
  f_TooLarge___init__ := c.y.d.def_ 43 (d := dd_TooLarge___init__) rfl,
  f_NoBody___init__ := c.y.d.def_ 44 (d := dd_NoBody___init__) rfl,
  c_Book := He.cls_ok (c.y.d.fact 105 (f := .cls "Book") rfl),
  na_Book__kinds := He.noat_ok (c.y.d.fact 106 (f := .noat "Book" "_kinds") rfl),
  na_Book__sizes := He.noat_ok (c.y.d.fact 107 (f := .noat "Book" "_sizes") rfl),
  c_Body := He.cls_ok (c.y.d.fact 108 (f := .cls "Body") rfl),
  na_Body_book := He.noat_ok (c.y.d.fact 109 (f := .noat "Body" "book") rfl),
  na_Body_statements := He.noat_ok (c.y.d.fact 110 (f := .noat "Body" "statements") rfl),
  c_Desk := He.cls_ok (c.y.d.fact 111 (f := .cls "Desk") rfl),
  na_Desk_book := He.noat_ok (c.y.d.fact 112 (f := .noat "Desk" "book") rfl),
  na_Desk_reading := He.noat_ok (c.y.d.fact 113 (f := .noat "Desk" "reading") rfl),
  na_Desk__bodies := He.noat_ok (c.y.d.fact 114 (f := .noat "Desk" "_bodies") rfl),
  c_Nursery := He.cls_ok (c.y.d.fact 115 (f := .cls "Nursery") rfl),
  na_Nursery_strike := He.noat_ok (c.y.d.fact 116 (f := .noat "Nursery" "strike") rfl),
  na_Nursery_rule := He.noat_ok (c.y.d.fact 117 (f := .noat "Nursery" "rule") rfl),
  na_Nursery_members := He.noat_ok (c.y.d.fact 118 (f := .noat "Nursery" "members") rfl),
  na_Nursery_place := He.noat_ok (c.y.d.fact 119 (f := .noat "Nursery" "place") rfl),
  c_Strike := He.cls_ok (c.y.d.fact 120 (f := .cls "Strike") rfl),
  na_Strike_name := He.noat_ok (c.y.d.fact 121 (f := .noat "Strike" "name") rfl),
  na_Strike_shield := He.noat_ok (c.y.d.fact 122 (f := .noat "Strike" "shield") rfl),
  m_Book___eq__ := He.meth_ok (c.y.d.fact 123 (f := .meth "Book" "__eq__") rfl),
  m_Desk___getitem__ := He.meth_ok (c.y.d.fact 124 (f := .meth "Desk" "__getitem__") rfl),
  m_Desk___setitem__ := He.meth_ok (c.y.d.fact 125 (f := .meth "Desk" "__setitem__") rfl),
  m_Nursery_bodies := He.meth_ok (c.y.d.fact 126 (f := .meth "Nursery" "bodies") rfl),
  m_Nursery_inner := He.meth_ok (c.y.d.fact 127 (f := .meth "Nursery" "inner") rfl),
  m_Strike___eq__ := He.meth_ok (c.y.d.fact 128 (f := .meth "Strike" "__eq__") rfl),
  m_BadLine___init__ := He.meth_ok (c.y.d.fact 129 (f := .meth "BadLine" "__init__") rfl),
  m_BadNumber___init__ := He.meth_ok (c.y.d.fact 130 (f := .meth "BadNumber" "__init__") rfl),
  m_BadMember___init__ := He.meth_ok (c.y.d.fact 131 (f := .meth "BadMember" "__init__") rfl),
  m_TooLarge___init__ := He.meth_ok (c.y.d.fact 132 (f := .meth "TooLarge" "__init__") rfl),
  m_NoBody___init__ := He.meth_ok (c.y.d.fact 133 (f := .meth "NoBody" "__init__") rfl),
  mk_Book := He.mkr_ok (c.y.d.fact 134 (f := .mkr "Book") rfl),
  mk_Body := He.mkr_ok (c.y.d.fact 135 (f := .mkr "Body") rfl),
  mk_Desk := He.mkr_ok (c.y.d.fact 136 (f := .mkr "Desk") rfl),
  mk_Nursery := He.mkr_ok (c.y.d.fact 137 (f := .mkr "Nursery") rfl),
  mk_Strike := He.mkr_ok (c.y.d.fact 138 (f := .mkr "Strike") rfl),
  e_Book0 := emptyB_ok (ex_ok c.y 6),
  e_Book1 := emptyB_ok (ex_ok c.y 7),
  ne_Book := neB_ok (ex_ok c.y 8),
  cv_Nursery_MEMBERS := cvalB_ok (ex_ok c.y 9),
  cv_Nursery_BODIES := cvalB_ok (ex_ok c.y 10),
  cv_Nursery_DEPTH := cvalB_ok (ex_ok c.y 11),
  cv_Body_STATEMENTS := cvalB_ok (ex_ok c.y 12),
  cv_Body_SIZE := cvalB_ok (ex_ok c.y 13),
  is_Nursery := iscB_ok (ex_ok c.y 14),
  is_Strike := iscB_ok (ex_ok c.y 15),
  is_Body := iscB_ok (ex_ok c.y 16),
  p_Book_stores := propB_ok (ex_ok c.y 17),
  ox_BadLine := oexB_ok (ex_ok c.y 18),
  nf_BadLine := beq_iff_eq.mp (ex_ok c.y 19),
  ox_BadNumber := oexB_ok (ex_ok c.y 20),
  nf_BadNumber := beq_iff_eq.mp (ex_ok c.y 21),
  ox_BadMember := oexB_ok (ex_ok c.y 22),
  nf_BadMember := beq_iff_eq.mp (ex_ok c.y 23),
  ox_TooLarge := oexB_ok (ex_ok c.y 24),
  nf_TooLarge := beq_iff_eq.mp (ex_ok c.y 25),
  ox_NoBody := oexB_ok (ex_ok c.y 26),
  nf_NoBody := beq_iff_eq.mp (ex_ok c.y 27),
  xf_BadLine := xfB_ok (ex_ok c.y 28),
  ex_BadLine_BadLine := exmB_ok (ex_ok c.y 29),
  ex_BadNumber_DeedError := exmB_ok (ex_ok c.y 30),
  ex_BadMember_DeedError := exmB_ok (ex_ok c.y 31),
  ex_TooLarge_DeedError := exmB_ok (ex_ok c.y 32),
  ex_NoBody_DeedError := exmB_ok (ex_ok c.y 33),
  b_DeedError := baseB_ok (ex_ok c.y 34),
  cm_Strike_read := cmB_ok (ex_ok c.y 35),
  tv_LENGTHS_leave := tabB_ok (ex_ok c.y 36),
  is_Book := iscB_ok (ex_ok c.y 37),
  kn_Body_Nursery := beq_iff_eq.mp (ex_ok c.y 38),
  ns_Desk := (ex_ok c.y 39),
  kd_LENGTHS := c.tab 0 (t := tt_LENGTHS) rfl }
end U

set_option Elab.async false
set_option linter.all false
set_option maxRecDepth 100000
set_option maxHeartbeats 0
namespace U
open PySem PySem.Spec PyProof.Rows L2
def sp_law (K : PySem.W.Frag) : Sp := fun vs H Q E => ∃ (a : Addr) (ns : List Int), vs = [.ref a] ∧ SqL K H a (ns.map V.int) ∧ ns.length ≤ 63 ∧ ∀ H', Q (.bl true) H'
def Facts : Prop := ∀ {P : Program} {w : World} {K : PySem.W.Frag} {h : Heap} {mg : Str → Option Value} {f : Addr} (X : K.In h) (G : h.Ns mainGlobals mg) (hfa : mg ("law" : Str) = some (.ref f)) (c : SaysZ faL fnL gtL exB tsL w K),
    ∃ fd : FuncData, (∀ (s : Shared) (v : Value), BindsTo s fd ⟨[v], []⟩ [("script", v)]) ∧ ∀ base : Heap, K.In base → base.Ns mainGlobals mg → FnOk P w K mg base CX0 16 f fd ["script"] (sp_law K)
end U
section
open PySem PySem.W PySem.Calls PyProof.Rows
theorem U.end_of (facts : U.Facts) : PySem.Challenge.rw_struckbodies_k91_whole_wrong_nursery_lin.Holds := by
  w_on; o_law
  refine HandSHeadRun.head_any (r := OpenLaw.row PySem.Challenge.rw_struckbodies_k91_whole_wrong_nursery_lin) (q := view (OpenLaw.row PySem.Challenge.rw_struckbodies_k91_whole_wrong_nursery_lin).prog [108]) (H := U.hk) (ob := U.ob) (M := 90000) (loose := U.loose) (d := HandSHeadRun.topDef (OpenLaw.row PySem.Challenge.rw_struckbodies_k91_whole_wrong_nursery_lin).prog 108) (kwd := []) U.ob_eq
    (by kernel_rfl) (fun s => by kernel_rfl) U.run (by kernel_rfl) (by kernel_rfl) (by kernel_rfl) (by rfl) (by first | assumption | decide +kernel) (by decide +kernel) ⟨rfl, rfl, rfl, rfl, rfl, by decide +kernel⟩ ?hw ?hc
  case hw => w_witness2
  case hc =>
    refine L2.walk_ofE (l := PySem.Challenge.rw_struckbodies_k91_whole_wrong_nursery_lin) (n := 63) (k := 16) (x := "script") (CX := L2.CX0) rfl (by decide) (by kernel_rfl) ⟨rfl, by decide, by decide⟩ ?F (fun _ _ _ _ z => z)
    intro w mg fa h Y G hmg0
    obtain ⟨K, KX, c⟩ := Y
    have hmg : mg ("law" : PySem.Str) = some (.ref fa) := by
      have e : (HandSHeadRun.topDef (OpenLaw.row PySem.Challenge.rw_struckbodies_k91_whole_wrong_nursery_lin).prog 108).name = ("law" : PySem.Str) := by kernel_rfl
      rw [← e]
      exact hmg0
    obtain ⟨fd, hb, hF⟩ := facts (P := (PySem.Challenge.rw_struckbodies_k91_whole_wrong_nursery_lin).prog) (w := w) KX G hmg c
    exact ⟨K, fd, U.sp_law K, KX, hb, fun H a ns hl _ hS => ⟨a, ns, rfl, hS, hl, fun _ => rfl⟩, hF⟩
end

set_option Elab.async false
set_option linter.all false
set_option maxRecDepth 100000
set_option maxHeartbeats 4000000
/-! o == p by an own __eq__; comprehensions over a string; sorted strings; insert; max -/
namespace U
open PySem PySem.Spec PyProof.Rows L2
section
variable {X : Cx} {pins : List (Addr × Obj)} {s : Shared} {σ : L2.St} {H : Hp} {CX : CXT} {k : Nat} {f : Addr} {sp : Sp} {E : XK} {C : Addr}
def rEqO (C : Addr) (sp : Sp) (E : XK) : R2 := fun x y H Q => ∃ a b dx dy fs gs, x = .ref a ∧ y = .ref b ∧ H a = some (.ins C dx fs) ∧ H b = some (.ins C dy gs) ∧ sp [.ref a, .ref b] H (fun v H' => ∃ c, v = .bl c ∧ Q (.bl c) H') E
theorem u_eqO (m : Meth X.K C "__eq__" f) (F : FnR X.prog X.w X.K X.mg X.base CX k f sp) (hr : Room (k + 1) X.A) (hx : Passes CX X E) : OpR X (compareOp .Eq) (rEqO C sp E) := by
  intro pins s σ H x y v u Q I rx ry h
  obtain ⟨a, b, dx, dy, fs, gs, rfl, rfl, ea, eb, h⟩ := h
  obtain rfl : v = Value.ref a := rx
  obtain rfl : u = Value.ref b := ry
  obtain ⟨od, J⟩ := inst_at I ea
  obtain ⟨od', J'⟩ := inst_at I eb
  obtain ⟨m0, hF⟩ := I.fr
  have hu := hr.units
  have KX := I.kIn
  have one : wpAny (model X.prog X.w) X.A (tryCompare (.ref a) (cmpInfo .Eq).2.1 (.ref b)) (fun r s' => ∃ v, r = some v ∧ EP X pins σ Q v s') X.xe s := by
    unfold tryCompare
    refine wpAny_bind (PySem.W.ifBound_K KX J m.at_ m.fn (wpAny_mono (run_at (vs := [.ref a, .ref b]) (us := [.ref a, .ref b]) F (hr.mono (by omega)) rfl hx I (.cons rfl (.cons rfl .nil)) h) (fun r s' q => ?_) fun _ _ x => x))
    obtain ⟨z, H', I', rz, c, ez, q⟩ := q
    subst ez
    cases rz
    exact wpAny_pure ⟨_, rfl, ⟨.bl c, H', I', rfl, q⟩⟩
  show wpAny _ _ (richCompare .Eq (.ref a) (.ref b)) _ _ _
  unfold richCompare
  simp only [oneThing_ref]
  refine wpAny_holding (wpAny_bind (wpAny_cRoomFor (by omega) ?_))
  refine wpAny_bind (J.type.here (wpAny_bind (J'.type.here ?_)))
  rw [show (Value.ref C != Value.ref C) = false from by simp]
  simp only [Bool.false_eq_true, if_false]
  refine wpAny_bind (wpAny_pure ?_)
  simp only [Bool.false_eq_true, if_false]
  refine wpAny_bind (wpAny_mono one (fun r s' z => ?_) fun _ _ e => e)
  obtain ⟨v, rfl, hq⟩ := z
  exact wpAny_pure hq
theorem x_eqO {K : PySem.W.Frag} {Q : VK} {a b dx dy : Addr} {fs gs : List (Str × V)} (ha : H a = some (.ins C dx fs)) (hb : H b = some (.ins C dy gs)) (h : sp [.ref a, .ref b] H (fun v H' => ∃ c, v = .bl c ∧ Q (.bl c) H') E) : rEqO C sp E (.ref a) (.ref b) H Q := ⟨a, b, dx, dy, fs, gs, rfl, rfl, ha, hb, h⟩
end
section
variable {K : PySem.W.Frag} {σ : L2.St} {H H1 : Hp} {g : TG} {tt : TT} {te : TE} {Q : VK} {D a : Addr} {j : Nat}
theorem lcS (z : Str) (hD : H1 D = none) (Pv : Nat → List V → Hp → Prop) (h0 : ∀ H', H' D = some (.lst []) → Ch [] H1 H' → Pv 0 [] H')
    (hs : ∀ (i : Nat) c acc H, z.cps.toList[i]? = some c → Pv i acc H → H D = some (.lst acc) → gName j (.str ⟨#[c]⟩) σ H fun σ2 H2 => tt σ2 H2 fun b H3 => if b = true then te σ2 H3 fun y H4 => LcE D Pv i y H4 else LcN D Pv i H3)
    (hd : ∀ acc H, Pv z.cps.toList.length acc H → H D = some (.lst acc) → Q (.ref D) H) : LcG (Its z) (gName j) tt te [j] σ D H1 Q := by
  refine ⟨fun i m H => m = z.cps.toList.length - i ∧ i ≤ z.cps.toList.length ∧ ∃ acc, H D = some (.lst acc) ∧ Pv i acc H, ⟨z.cps.toList.length, by simp, Nat.zero_le _, [], upd_same, h0 _ upd_same (Ch.new hD)⟩, ?_⟩
  rintro i m H ⟨rfl, hi, acc, hA, p⟩
  by_cases hlt : i < z.cps.toList.length
  · refine .inr ⟨by show i < z.cps.size; simpa using hlt, fun H' => ∃ acc, H' D = some (.lst acc) ∧ Pv (i + 1) acc H', fun H' p' => ⟨z.cps.toList.length - (i + 1), by omega, rfl, hlt, p'⟩, fun x H' y => ?_⟩
    obtain ⟨e, c, hc, ex⟩ := y
    subst e
    subst ex
    have q := hs i c acc _ (by simpa using hc) p hA
    show wipe ((wipe σ [j]).set j _) [j] = wipe σ [j] ∧ tt ((wipe σ [j]).set j _) _ _
    refine ⟨wipe1 σ _, ?_⟩
    rw [wipe1']
    exact q
  · have e : i = z.cps.toList.length := by omega
    subst e
    exact .inl ⟨by show z.cps.size ≤ _; simp, hd acc H p hA⟩
end
section
variable {K : PySem.W.Frag} {H : Hp} {Q : VK} {l : Addr} {xs : List V} {y : V} {i : Int}
def rInsert : V → List V → Hp → VK → Prop := fun x vs H Q => ∃ (l : Addr) (xs : List V) (i : Int) (y : V), x = .ref l ∧ vs = [.int i, y] ∧ H l = some (.lst xs) ∧ xs.length < sizeLine ∧ 0 ≤ i ∧ i < 2 ^ 63 ∧
    Q .non (upd H l (.lst (xs.take i.toNat ++ [y] ++ xs.drop i.toNat)))
theorem mt_insertU {X : Cx} : MtR X "list.insert" rInsert := mt_insert
theorem x_insert {k : Nat} (h : H l = some (.lst xs)) (e : i = (k : Int)) (hz : xs.length < 100000) (hk : k ≤ 100000) (q : ∀ H', H' l = some (.lst (xs.take k ++ y :: xs.drop k)) → Ch [l] H H' → Q .non H') : rInsert (.ref l) [.int i, y] H Q := by
  subst e
  refine ⟨l, xs, k, y, rfl, rfl, h, sz_lt hz, by omega, by omega, ?_⟩
  rw [Int.toNat_natCast]
  have e2 : xs.take k ++ [y] ++ xs.drop k = xs.take k ++ y :: xs.drop k := by simp
  rw [e2]
  exact q _ upd_same (Ch.mut h rfl)
theorem c_sortedS {X : Cx} : CallR X (.builtin "sorted") (rSortedS X.K) := cr_sortedS
theorem c_max {X : Cx} (hc : X.calm = true) : CallR X (.builtin "max") (rMax X.K) := cr_max hc
end
/-! ### sorted strings, plain -/
def ltS (a b : Str) : Bool := decide (a.cps.toList < b.cps.toList)
def sins (x : Str) (l : List Str) : List Str := l.takeWhile (fun y => ltS y x) ++ x :: l.dropWhile (fun y => ltS y x)
def isort (l : List Str) : List Str := l.foldl (fun d r => sins r d) []
def dedup (l : List Str) : List Str := l.foldl (fun f n => if n ∈ f then f else f ++ [n]) []
theorem ltS_total {a b : Str} (h1 : ltS a b = false) (h2 : ltS b a = false) : a = b := by
  unfold ltS at h1 h2
  rw [decide_eq_false_iff_not] at h1 h2
  exact str_ext (List.le_antisymm h2 h1)
theorem leS_trans {a b c : Str} (h1 : ltS b a = false) (h2 : ltS c b = false) : ltS c a = false := by
  unfold ltS at *
  rw [decide_eq_false_iff_not] at *
  exact List.le_trans h1 h2
theorem ltS_asymm {a b : Str} (h : ltS a b = true) : ltS b a = false := by
  unfold ltS at *
  rw [decide_eq_false_iff_not]
  exact List.lt_asymm (decide_eq_true_eq.mp h)
def SrtS (l : List Str) : Prop := l.Pairwise fun a b => ltS b a = false
theorem srt_tw {x : Str} : ∀ {l : List Str}, SrtS l → SrtS (sins x l)
  | [], _ => by
    unfold sins SrtS
    simp
  | y :: l, h => by
    obtain ⟨h1, h2⟩ := List.pairwise_cons.mp h
    unfold sins
    cases e : ltS y x with
    | true =>
      rw [List.takeWhile_cons_of_pos (by exact e), List.dropWhile_cons_of_pos (by exact e), List.cons_append]
      refine List.pairwise_cons.mpr ⟨fun z hz => ?_, srt_tw h2⟩
      rcases List.mem_append.mp hz with q | q
      · exact h1 z ((List.takeWhile_sublist _).mem q)
      rcases List.mem_cons.mp q with q | q
      · rw [q]; exact ltS_asymm e
      · exact h1 z ((List.dropWhile_sublist _).mem q)
    | false =>
      rw [List.takeWhile_cons_of_neg (by rw [e]; exact Bool.false_ne_true), List.dropWhile_cons_of_neg (by rw [e]; exact Bool.false_ne_true), List.nil_append]
      refine List.pairwise_cons.mpr ⟨fun z hz => ?_, h⟩
      rcases List.mem_cons.mp hz with q | q
      · rw [q]; exact e
      · exact leS_trans e (h1 z q)
theorem perm_sins {x : Str} {l : List Str} : (sins x l).Perm (x :: l) := by
  unfold sins
  refine List.perm_middle.trans (List.Perm.cons _ ?_)
  rw [List.takeWhile_append_dropWhile]
theorem isort_go : ∀ (l d : List Str), SrtS d → SrtS (l.foldl (fun d r => sins r d) d) ∧ (l.foldl (fun d r => sins r d) d).Perm (l ++ d)
  | [], d, h => ⟨h, .refl _⟩
  | x :: l, d, h => by
    obtain ⟨h1, h2⟩ := isort_go l (sins x d) (srt_tw h)
    exact ⟨h1, h2.trans ((List.Perm.append_left l perm_sins).trans List.perm_middle)⟩
theorem srt_uniq : ∀ {l m : List Str}, SrtS l → SrtS m → l.Perm m → l = m
  | [], m, _, _, p => p.nil_eq
  | x :: l, [], _, _, p => by
    have := p.length_eq
    simp at this
  | x :: l, y :: m, h1, h2, p => by
    obtain ⟨a1, a2⟩ := List.pairwise_cons.mp h1
    obtain ⟨b1, b2⟩ := List.pairwise_cons.mp h2
    have e : x = y := by
      have m1 : x ∈ y :: m := p.mem_iff.mp (List.mem_cons_self ..)
      have m2 : y ∈ x :: l := p.mem_iff.mpr (List.mem_cons_self ..)
      rcases List.mem_cons.mp m1 with q | q
      · exact q
      rcases List.mem_cons.mp m2 with q2 | q2
      · exact q2.symm
      exact ltS_total (b1 x q) (a1 y q2)
    subst e
    rw [srt_uniq a2 b2 ((List.perm_cons x).mp p)]
theorem srt_of : ∀ {l : List Str}, sortedS l = true → SrtS l
  | [], _ => .nil
  | x :: l, h => go x l h
where go : ∀ (x : Str) (l : List Str), risingS x l = true → SrtS (x :: l)
  | x, [], _ => List.pairwise_cons.mpr ⟨(fun _ h => by cases h), List.Pairwise.nil⟩
  | x, y :: l, h => by
    have h0 : (!ltCps y.cps.toList x.cps.toList && risingS y l) = true := h
    obtain ⟨h1, h2⟩ := Bool.and_eq_true_iff.mp h0
    have q := go y l h2
    have e : ltS y x = false := by
      unfold ltS
      rw [← ltCps_eq]
      simpa using h1
    refine List.pairwise_cons.mpr ⟨fun z hz => ?_, q⟩
    rcases List.mem_cons.mp hz with w | w
    · rw [w]; exact e
    · exact leS_trans e ((List.pairwise_cons.mp q).1 z w)
theorem isort_eq {ys l : List Str} (p : ys.Perm l) (h : sortedS ys = true) : ys = isort l := by
  obtain ⟨h1, h2⟩ := isort_go l [] .nil
  rw [List.append_nil] at h2
  exact srt_uniq (srt_of h) h1 (p.trans h2.symm)
theorem isort_len (l : List Str) : (isort l).length = l.length := by
  have h := (isort_go l [] .nil).2.length_eq
  rwa [List.append_nil] at h
theorem tw_take {p : Str → Bool} : ∀ {d : List Str} {k : Nat}, k ≤ d.length → (∀ x ∈ d.take k, p x = true) → (∀ y, d[k]? = some y → p y = false) → d.takeWhile p = d.take k ∧ d.dropWhile p = d.drop k
  | [], k, hk, _, _ => by
    have : k = 0 := by simpa using hk
    subst this
    exact ⟨rfl, rfl⟩
  | x :: d, 0, _, _, h => by
    have e := h x rfl
    rw [List.takeWhile_cons_of_neg (by rw [e]; exact Bool.false_ne_true), List.dropWhile_cons_of_neg (by rw [e]; exact Bool.false_ne_true)]
    exact ⟨rfl, rfl⟩
  | x :: d, k + 1, hk, h1, h2 => by
    have e : p x = true := h1 x (by rw [List.take_succ_cons]; exact List.mem_cons_self ..)
    obtain ⟨q1, q2⟩ := tw_take (d := d) (k := k) (by simpa using hk) (fun y hy => h1 y (by rw [List.take_succ_cons]; exact List.mem_cons_of_mem _ hy)) (fun y hy => h2 y (by simpa using hy))
    rw [List.takeWhile_cons_of_pos (by exact e), List.dropWhile_cons_of_pos (by exact e), q1, q2, List.take_succ_cons, List.drop_succ_cons]
    exact ⟨rfl, rfl⟩
theorem dedup_snoc (l : List Str) (x : Str) : dedup (l ++ [x]) = if x ∈ dedup l then dedup l else dedup l ++ [x] := by
  unfold dedup
  rw [List.foldl_append]
  rfl
theorem dedup_len : ∀ (l : List Str), (dedup l).length ≤ l.length := by
  intro l
  have go : ∀ (l f : List Str), (l.foldl (fun f n => if n ∈ f then f else f ++ [n]) f).length ≤ f.length + l.length := by
    intro l
    induction l with
    | nil => intro f; simp
    | cons x l ih =>
      intro f
      rw [List.foldl_cons]
      have q := ih (if x ∈ f then f else f ++ [x])
      have q2 : (if x ∈ f then f else f ++ [x]).length ≤ f.length + 1 := by split <;> simp
      rw [List.length_cons]
      omega
  have q := go l []
  rw [List.length_nil, Nat.zero_add] at q
  exact q
theorem mem_dedup {x : Str} : ∀ {l : List Str}, x ∈ dedup l → x ∈ l := by
  intro l
  have go : ∀ (l f : List Str), x ∈ l.foldl (fun f n => if n ∈ f then f else f ++ [n]) f → x ∈ f ∨ x ∈ l := by
    intro l
    induction l with
    | nil => intro f h; exact .inl h
    | cons y l ih =>
      intro f h
      rw [List.foldl_cons] at h
      rcases ih _ h with q | q
      · split at q
        · exact .inl q
        · rcases List.mem_append.mp q with q | q
          · exact .inl q
          · exact .inr (by rw [List.mem_singleton.mp q]; exact List.mem_cons_self ..)
      · exact .inr (List.mem_cons_of_mem _ q)
  intro h
  rcases go l [] h with q | q
  · cases q
  · exact q
theorem mem_once {x : Str} {l : List Str} (h : x ∈ isort (dedup l)) : x ∈ l := by
  have p := (isort_go (dedup l) [] .nil).2
  rw [List.append_nil] at p
  exact mem_dedup (p.mem_iff.mp h)
end U

set_option Elab.async false
set_option linter.all false
set_option maxRecDepth 100000
set_option maxHeartbeats 4000000
/-! raise X(..) from e, in the suite of except C as e -/
namespace U
open PySem PySem.Spec PyProof.Rows L2 HotX L2H
/-- the heap behind «from c» -/
def causeIn (h : Heap) (a : Addr) (c : Value) : Heap := (h.update a (Obj.mapFields (·.setIfInBounds 3 c))).update a (Obj.mapFields (·.setIfInBounds 4 (.bool true)))
theorem causeIn_at {h : Heap} {a : Addr} {oe : Obj} {c : Value} {vs : Array Value} (ha : h.get? a = some oe) (hd : oe.data = .fields vs) :
    (causeIn h a c).get? a = some ((oe.mapFields (·.setIfInBounds 3 c)).mapFields (·.setIfInBounds 4 (.bool true))) ∧ ((oe.mapFields (·.setIfInBounds 3 c)).mapFields (·.setIfInBounds 4 (.bool true))).data = .fields ((vs.setIfInBounds 3 c).setIfInBounds 4 (.bool true)) := by
  have d3 := Obj.data_mapFields hd (·.setIfInBounds 3 c)
  have a3 := Heap.get?_update_self (Obj.mapFields (·.setIfInBounds 3 c)) ha (Obj.isFreed_of_fields d3)
  have d4 := Obj.data_mapFields d3 (·.setIfInBounds 4 (.bool true))
  exact ⟨Heap.get?_update_self (Obj.mapFields (·.setIfInBounds 4 (.bool true))) a3 (Obj.isFreed_of_fields d4), d4⟩
theorem causeIn_other {h : Heap} {a b : Addr} {c : Value} (hne : a ≠ b) : (causeIn h a c).get? b = h.get? b := by
  unfold causeIn
  rw [Heap.get?_update_other _ _ hne, Heap.get?_update_other _ _ hne]
theorem raise_made_from {prog : Program} {w : World} {A : Around} {E : Value → Shared → Prop} {env : Env} {s : Shared} {x c : Sem Value} {Q : Flow → Shared → Prop} {xc : Addr}
    (h : wpAny (model prog w) A x (fun v s₁ => ∃ a oe vs cls oc vc, v = .ref a ∧ s₁.heap.get? a = some oe ∧ oe.cls = cls ∧ oe.data = .fields vs ∧ vs[1]? = some .none ∧ 4 < vs.size ∧ xc ≠ a ∧ HotAt A xc s₁.heap ∧
      PySem.W.Looks (model prog w) s₁.heap (isSubtype cls (.type "BaseException")) true ∧ PySem.W.Looks (model prog w) (causeIn s₁.heap a (.ref xc)) (typeOf cls) (.type "type") ∧
      (∀ (Q' : Value → Shared → Prop), Q' (.ref xc) s₁ → wpAny (model prog w) A c Q' E s₁) ∧
      s₁.heap.get? xc = some oc ∧ oc.data = .fields vc ∧ PySem.W.Looks (model prog w) s₁.heap (isSubtype oc.cls (.type "BaseException")) true ∧
      E (.ref a) { s₁ with heap := (causeIn s₁.heap a (.ref xc)).update a (Obj.mapFields (·.setIfInBounds 2 (.ref xc))) }) E s) :
    wpAny (model prog w) A (raiseStmt env (some x) (some c)) Q E s := by
  unfold raiseStmt
  dsimp only
  refine wpAny_bind (wpAny_mono h (fun v s₁ h₁ => ?_) fun _ _ x => x)
  obtain ⟨a, oe, vs, cls, oc, vc, rfl, ha, hcls, hd, h1, hi, hne, hot, L1, L3, hcs, hc, hcd, LC, hE⟩ := h₁
  have LT : PySem.W.Looks (model prog w) s₁.heap (typeOf (.ref a)) cls := fun A Q E s k q => wpAny_typeOf_ref (k _ _ ha) (by rw [hcls]; exact q)
  have LI : PySem.W.Looks (model prog w) s₁.heap (isInstance (.ref a) (.type "BaseException")) true := LT.andThen L1
  have LTc : PySem.W.Looks (model prog w) s₁.heap (typeOf (.ref xc)) oc.cls := fun A Q E s k q => wpAny_typeOf_ref (k _ _ hc) q
  have LIc : PySem.W.Looks (model prog w) s₁.heap (isInstance (.ref xc) (.type "BaseException")) true := LTc.andThen LC
  have hnt : ∀ {b : Addr} {o : Obj} {ws : Array Value} {Q' : Bool → Shared → Prop} {s2 : Shared}, s2.heap.get? b = some o → o.data = .fields ws → Q' false s2 → wpAny (model prog w) A (isType (.ref b)) Q' E s2 := by
    intro b o ws Q' s2 hb hdb hq
    simp only [isType, loadHead]
    refine wpAny_bind (wpAny_loadPart hb ?_)
    rw [hdb]; exact wpAny_pure hq
  have hd3 := Obj.data_mapFields hd (·.setIfInBounds 3 (Value.ref xc))
  have ha3 := Heap.get?_update_self (Obj.mapFields (·.setIfInBounds 3 (Value.ref xc))) ha (Obj.isFreed_of_fields hd3)
  obtain ⟨ha4, hd4⟩ := causeIn_at (c := .ref xc) ha hd
  have s3 : 3 < vs.size := by omega
  have s4 : 4 < (vs.setIfInBounds 3 (Value.ref xc)).size := by rw [set_size]; exact hi
  have s2 : 2 < ((vs.setIfInBounds 3 (Value.ref xc)).setIfInBounds 4 (Value.bool true)).size := by rw [set_size, set_size]; omega
  have h14 : ((vs.setIfInBounds 3 (Value.ref xc)).setIfInBounds 4 (Value.bool true))[1]? = some Value.none := set_other (by decide) (set_other (by decide) h1)
  have hcls4 : ((oe.mapFields (·.setIfInBounds 3 (Value.ref xc))).mapFields (·.setIfInBounds 4 (.bool true))).cls = cls := by rw [Obj.cls_mapFields, Obj.cls_mapFields]; exact hcls
  have LT4 : PySem.W.Looks (model prog w) (causeIn s₁.heap a (.ref xc)) (typeOf (.ref a)) cls := fun A Q E s k q => wpAny_typeOf_ref (k _ _ ha4) (by rw [hcls4]; exact q)
  have hot4 : HotAt A xc (causeIn s₁.heap a (.ref xc)) := by
    obtain ⟨q1, o, vs', q2, q3, q4⟩ := hot
    exact ⟨q1, o, vs', by rw [causeIn_other (Ne.symm hne)]; exact q2, q3, q4⟩
  have rest : wpAny (model prog w) A (do
      let b ← isType (.ref a)
      if b = true then do
        let e ← holding [.ref a] (raisedFor (.ref a) (.ref a))
        setFlight e none
        raiseNew e
      else do
        let e ← raisedInstance (.ref a)
        setFlight e none
        raiseNew e : Sem Flow) Q E { s₁ with heap := causeIn s₁.heap a (.ref xc) } := by
    refine wpAny_bind (hnt ha4 hd4 ?_)
    simp only [Bool.false_eq_true, if_false]
    unfold raisedInstance
    refine wpAny_bind (wpAny_bind (LT4.here (wpAny_bind (L3.here ?_))))
    rw [if_pos (beq_self_eq_true _)]
    refine wpAny_pure ?_
    unfold setFlight
    refine wpAny_bind (wpAny_bind (wpAny_field ha4 hd4 h14 ?_))
    rw [if_neg (by decide)]
    refine wpAny_pure ?_
    exact raiseNew_hot hot4 hne ha4 hd4 s2 hE
  refine wpAny_bind (wpAny_holding (hcs _ (wpAny_bind (wpAny_pure ?_))))
  dsimp only
  refine wpAny_bind (wpAny_holding ?_)
  unfold excFromValue isExcClass
  refine wpAny_bind (wpAny_bind (hnt ha hd ?_))
  simp only [Bool.false_eq_true, if_false]
  refine wpAny_pure ?_
  simp only [Bool.false_eq_true, if_false]
  refine wpAny_bind (LI.here ?_)
  simp only [if_true]
  refine wpAny_pure ?_
  rw [if_neg (show ¬ ((Value.ref xc == Value.none) = true) from by simp)]
  refine wpAny_bind (wpAny_holding ?_)
  refine wpAny_bind (wpAny_bind (hnt hc hcd ?_))
  simp only [Bool.false_eq_true, if_false]
  refine wpAny_pure ?_
  simp only [Bool.false_eq_true, if_false]
  refine wpAny_bind (LIc.here ?_)
  simp only [if_true]
  refine wpAny_pure ?_
  refine wpAny_bind (wpAny_setField ha hd s3 ?_)
  refine wpAny_bind (wpAny_setField ha3 hd3 s4 ?_)
  exact rest
/-- a class of exceptions that may be a cause -/
def RzK (K : PySem.W.Frag) (cls : Value) : Prop := PySem.W.subIn K cls (.type "BaseException") = some true
/-- raise X(..) from n, n being the exception that is handled -/
theorem ps_raiseF {X : Cx} {K : PySem.W.Frag} (hK : X.K = K) {W : WX} {e : Expr} {t : L2.St → Hp → XK → Prop} {n : Str} {i : Nat} {np pos : Pos} {a : Addr} {oc : Obj} {pn : List (Addr × Obj)} {clc : Value} {dd : Option Addr} (hpn : X.pn = (a, oc) :: pn) (hh : X.A.handled = some (.ref a)) (hz : L2N.Zn clc dd oc) (hf : ∃ vs, oc.data = .fields vs)
    (hN : X.N[i]? = some n) (hv : Vis X.env.scope n) (tk : L2.Takes X W) (he : PMk5 X e t) (hdb : (n == ("__debug__" : Str)) = false := by decide) (hcd : (n == ("__classdict__" : Str)) = false := by decide) :
    PS X (.Raise (some e) (some (.Name n np)) pos) (fun _ σ H => σ[i]? = some (some (.ref a)) ∧ RzK K clc ∧ t σ H fun cls d H' => W cls d σ H') := by
  subst hK
  refine ⟨fun pins s σ H D I h => ?_⟩
  obtain ⟨hσ, hrz, h⟩ := h
  obtain ⟨vc, hvc⟩ := hf
  have c1 : vc[2]? = some .none := hz.2.2 vc hvc
  show wpAny _ _ (do standAt pos; raiseStmt X.env (some (do let v ← eval e X.env; standAt pos; pure v)) (some (do let v ← eval (.Name n np) X.env; standAt pos; pure v))) _ _ _
  refine wpAny_bind (wpAny_standAt (raise_made_from (xc := a) (wpAny_bind (wpAny_mono (he pins s σ H _ I h) (fun u s1 hu => wpAny_bind (wpAny_standAt (wpAny_pure ?_))) fun _ _ x => x))))
  obtain ⟨⟨b, oe, vs, sI, H', cls, d, rfl, J, k, hne, ha, hz', hd, h1, na, os, ag, r, q⟩, h5⟩ := hu
  have hi : 4 < vs.size := h5 b oe vs rfl ha hd
  have mem : (a, oc) ∈ X.pn := by rw [hpn]; exact List.mem_cons_self
  have P1 : sI.heap.get? a = some oc := (J.pin (a, oc) (List.mem_append_left _ mem)).1
  have nab : a ≠ b := fun z => by
    rw [z, hne] at P1
    cases P1
  have k4 : ∀ c u, sI.heap.get? c = some u → (causeIn s1.heap b (.ref a)).get? c = some u := fun c u z => by
    have ncb : b ≠ c := fun y => by
      rw [← y, hne] at z
      cases z
    rw [causeIn_other ncb]
    exact k c u z
  obtain ⟨r1, _⟩ := r (model X.prog X.w) s1.heap (J.kIn.keeps k)
  obtain ⟨_, r2⟩ := r (model X.prog X.w) (causeIn s1.heap b (.ref a)) (J.kIn.keeps k4)
  obtain ⟨ha4, hd4⟩ := causeIn_at (c := .ref a) ha hd
  have h12 : (((vs.setIfInBounds 3 (Value.ref a)).setIfInBounds 4 (Value.bool true)).setIfInBounds 2 (Value.ref a))[1]? = some Value.none := set_other (by decide) (set_other (by decide) (set_other (by decide) h1))
  have st : (PySem.W.hideAll sI.heap (frs X.stack)).StaysIn s1.heap := fun c o e => k c o (PySem.W.of_hideAll _ e)
  have J1 : Inv X pins σ H' s1 := J.landed (B := PySem.W.hideAll sI.heap (frs X.stack)) (fun c o e hc => PySem.W.hideAll_get _ e hc) st (Heap.UpToSlots.of_keeps k) os ag
  refine ⟨b, oe, vs, cls, oc, vc, rfl, ha, hz'.1, hd, h1, hi, nab, ⟨hh, oc, vc, k _ _ P1, hvc, c1⟩, r1, r2, fun Q' hq => ?_, k _ _ P1, hvc, by rw [hz.1]; exact PySem.W.looks_subIn (J.kIn.keeps k) hrz, tk _ _ (XE.new J (fun c u z => ?_) hne (Heap.get?_update_self _ ha4 (Obj.isFreed_of_fields (Obj.data_mapFields hd4 _)))
    ⟨by rw [Obj.cls_mapFields, Obj.cls_mapFields, Obj.cls_mapFields]; exact hz'.1, by rw [HandSPX.dict_mapFields, HandSPX.dict_mapFields, HandSPX.dict_mapFields]; exact hz'.2.1⟩ (Obj.data_mapFields hd4 _) h12 na os ag q)⟩
  · obtain ⟨m, hn, hl⟩ := J1.loc
    obtain ⟨u, r, l⟩ := hl i n (.ref a) hN hσ hv
    obtain rfl : u = Value.ref a := r
    have fin : wpAny (model X.prog X.w) X.A (do standAt pos; pure (Value.ref a)) Q' X.xe s1 := wpAny_bind (wpAny_standAt (wpAny_pure hq))
    refine wpAny_bind ?_
    rcases l with ⟨hk, hm⟩ | ⟨hk, c, hc, hcell⟩
    · exact wpAny_Name (wpAny_loadName_local J1.ok.kind hk hn hm fin) hdb
    · rcases hk with hk | hk
      · exact wpAny_Name (wpAny_loadName_cell J1.ok.kind hk hc hcell fin) hdb
      · exact wpAny_Name (wpAny_loadName_free J1.ok.kind hk hc hcell fin hcd) hdb
  · have nbc : b ≠ c := fun y => by
      rw [← y, hne] at z
      cases z
    show ((causeIn s1.heap b (.ref a)).update b (Obj.mapFields (·.setIfInBounds 2 (.ref a)))).get? c = some u
    rw [Heap.get?_update_other _ _ nbc]
    exact k4 c u z
end U

set_option Elab.async false
set_option linter.all false
set_option maxRecDepth 100000
set_option maxHeartbeats 4000000
/-! try: body; except C as n: a suite that raises out of the def -/
namespace U
open PySem PySem.Spec PyProof.Rows L2 HotX L2H
/-- an exception that this frame holds leaves the def; the frame's own namespace may have changed since -/
theorem held_leaves {X : Cx} {pins : List (Addr × Obj)} {σ : L2.St} {H : Hp} {sI s2 : Shared} {B : Heap} {b : Addr} {cls : Value} {d : Option Addr} {E : XK} {A : Around} {E₁ : Value → Shared → Prop} (I : Inv X pins σ H sI) (hs : X.stack = X.env :: X.outer) (hf : X.env.frame = some X.env.locals) (hex : X.ex = [])
    (nb : ∀ c o, sI.heap.get? c = some o → c ∉ frs X.stack → B.get? c = some o) (up : ∀ c o, sI.heap.get? c = some o → c ≠ X.env.locals → (∀ vs, o.data ≠ .fields vs) → ∃ sl, s2.heap.get? c = some { o with slots := sl })
    (hh : HandSPX.HeldZ B (X.env :: X.outer) b (Zc cls d) X.env.locals s2.heap) (na : H b = none) (os : s2.os = sI.os) (ag : AllBare s2.gens) (w : E cls d H) :
    wpAny (model X.prog X.w) A (leaving X.env (.ref b)) (fun _ s'' => L2.CX X.prog X.w X.outer X.H_0 X.s_0 E (.ref b) s'') E₁ s2 := by
  have nst : ∀ c o, X.s_0.heap.get? c = some o → c ∉ X.fs → c ∉ frs X.stack := fun c o e hb hm => by
    rcases List.mem_cons.mp (I.stkSub c hm) with z | z
    · have h1 := Heap.lt_size e
      have h2 := I.ok.above
      rw [z] at h1
      exact absurd (Nat.lt_of_lt_of_le h1 h2) (Nat.lt_irrefl _)
    · exact hb z
  have hex' : ∀ c, c ∉ X.ex := fun c hb => by rw [hex] at hb; cases hb
  have hokB := I.inGround nb
  refine HandSPX.leaves_heldZ hf hh fun h' fl up' => ?_
  refine ⟨b, B, H, cls, d, rfl, fl, hokB, ⟨fun c o e n hb => nb c o (I.base.keep c o e n hb (hex' c)) (nst c o e hb), fun c o e hb => ?_, fun c o e n => I.base.free c o e n (hex' c), fun c o e hb => ?_, I.base.tups, I.base.frzs, I.base.tbls⟩,
    na, os.trans I.os, ag, w⟩
  · obtain ⟨_, o₀, e₀, hnf⟩ := I.ok.funs.mem hb
    rw [e] at e₀
    cases e₀
    obtain ⟨sl, e1⟩ := I.base.slot c o e (I.ok.frf c hb) hb (hex' c)
    obtain ⟨sl2, e2⟩ := up c _ e1 (Nat.ne_of_lt (Nat.lt_of_lt_of_le (Heap.lt_size e) I.ok.above)) hnf
    obtain ⟨sl3, e3⟩ := up' c _ e2 hnf
    exact ⟨sl3, e3⟩
  · obtain ⟨o', e1⟩ := I.base.there c o e (hex' c)
    exact ⟨o', nb c o' e1 (nst c o e hb)⟩
theorem frames_but {h h' base : Heap} {L : Addr} (hs : ∀ c, c ≠ L → h'.get? c = h.get? c) (hL : ∃ o, h'.get? L = some o ∧ ∀ vs, o.data ≠ .fields vs) : ∀ {l : List Env}, h.FunFrames base l → h'.FunFrames base l
  | [], _ => trivial
  | env :: l, hh => by
    obtain ⟨hk, ⟨L', o, hf, hn, ho, hd⟩, hr⟩ := hh
    refine ⟨hk, ?_, frames_but hs hL hr⟩
    by_cases e : L' = L
    · obtain ⟨o2, h2, d2⟩ := hL
      exact ⟨L', o2, hf, hn, by rw [e]; exact h2, d2⟩
    · exact ⟨L', o, hf, hn, by rw [hs L' e]; exact ho, hd⟩
theorem held_but {h h' B : Heap} {env : Env} {outer : List Env} {b L : Addr} {Z : Obj → Prop} (hf : env.frame = some L) (hs : ∀ c, c ≠ L → h'.get? c = h.get? c) (hL : ∃ o, h'.get? L = some o ∧ ∀ vs, o.data ≠ .fields vs) (x : HandSPX.HeldZ B (env :: outer) b Z L h) : HandSPX.HeldZ B (env :: outer) b Z L h' := by
  obtain ⟨x1, x2, x3, oe, vs, T, oT, ts, he, hz, hd, h1, hnT, hTe, hT, hdT, h3⟩ := x
  obtain ⟨L', o, hf', hn, ho, hdo⟩ := x3.2.1
  have eL : L' = L := by
    rw [hf] at hf'
    exact (Option.some.inj hf').symm
  subst eL
  have nL : ∀ c u ws, h.get? c = some u → u.data = .fields ws → c ≠ L' := fun c u ws hc hw z => by
    rw [z, ho] at hc
    cases hc
    exact hdo ws hw
  refine ⟨fun c u hc => ?_, x2, frames_but hs hL x3, oe, vs, T, oT, ts, ?_, hz, hd, h1, hnT, hTe, ?_, hdT, h3⟩
  · have : c ≠ L' := fun z => by
      rw [z, hn] at hc
      cases hc
    rw [hs c this]
    exact x1 c u hc
  · rw [hs b (nL b oe vs he hd)]
    exact he
  · rw [hs T (nL T oT ts hT hdT)]
    exact hT
/-- noted: the frame holds it -/
theorem sky_note {M : Model} {A : Around} {E₁ : Value → Shared → Prop} {env : Env} {outer : List Env} {L a : Addr} {B : Heap} {cls : Value} {d : Option Addr} {s : Shared} {Q : Unit → Shared → Prop} (hfr : A.frames = some (env :: outer)) (hf : env.frame = some L)
    (x : Sky B (env :: outer) a (Zc cls d) L s.heap) (hQ : ∀ h', HandSPX.HeldZ B (env :: outer) a (Zc cls d) L h' → s.heap.UpToSlots h' → Q () { s with heap := h' }) : wpAny M A (noteFrame (.ref a) env) Q E₁ s := by
  rcases x with ⟨hB, hn, hl, oe, vs, he, hz, hd, h1⟩ | fl | hh
  · exact HandSPX.look_newZ Zc.steady hfr hl hf he hB hn hd h1 hz hQ
  · exact HandSPX.looks_onZ Zc.steady hfr hf fl hQ
  · exact HandSPX.againZ hf hh.2.2.2 (hQ s.heap hh (Heap.UpToSlots.refl _))
/-- what the clause wishes of an exception of the body: it is named, and the suite raises -/
def wAsX (K : PySem.W.Frag) (c : Value) (i : Nat) (ts : Addr → Value → Option Addr → TS) : WX := fun cls d σ H =>
  PySem.W.exmOne K cls c = some true ∧ ∀ a, H a = none → ts a cls d ⟨fun _ _ => False, fun _ _ => False, fun _ _ => False, fun _ _ => False⟩ (σ.set i (some (.ref a))) H
/-- the context of such a suite -/
abbrev suiteF (X : Cx) (a : Addr) (pn : List (Addr × Obj)) (xe : Value → Shared → Prop) : Cx := { X with A := X.A.mark (some (.ref a)), calm := false, pn := pn, xe := xe }
section
variable {X : Cx} {x n : Str} {c : Value} {i : Nat} {body suite : List Stmt} {b₀ : Stmt} {np pos pos' : Pos} {tb : WX → TS} {ts : Addr → Value → Option Addr → TS} {E : XK} {E₁ : Value → Shared → Prop}
theorem ps_try_asX (hs : X.stack = X.env :: X.outer) (hf : X.env.frame = some X.env.locals) (hex : X.ex = []) (hN : X.N.Nodup) (hi : X.N[i]? = some n) (hln : X.env.kindOf n = some .local) (hc : Names X x c)
    (hx : X.xe = fun e s' => wpAny (model X.prog X.w) X.A (leaving X.env e) (fun _ s'' => L2.CX X.prog X.w X.outer X.H_0 X.s_0 E e s'') E₁ s')
    (hb : ∀ (W : WX) (pn : List (Addr × Obj)) (xe : Value → Shared → Prop), L2N.Takes (X.tr pn xe) W → PassesOwn (model X.prog X.w) X.A X.env xe → PSs (X.tr pn xe) body (tb W))
    (hsu : ∀ (a : Addr) (oe : Obj) (cls : Value) (d : Option Addr) (pn : List (Addr × Obj)) (xe : Value → Shared → Prop), L2N.Zn cls d oe → (∃ vs, oe.data = .fields vs) → L2.Takes (suiteF X a ((a, oe) :: pn) xe) (fun cls d _ H => E cls d H) → HotC (suiteF X a ((a, oe) :: pn) xe) →
      PSs (suiteF X a ((a, oe) :: pn) xe) (b₀ :: suite) (ts a cls d)) :
    PS X (.Try body [.ExceptHandler (some (.Name x np)) (some n) (b₀ :: suite) pos'] [] [] pos) (fun D σ H => tb (wAsX X.K c i ts) D σ H) := by
  refine ⟨fun pins s σ H D I h => ?_⟩
  have ok := I.ok
  have hfr : X.A.frames = some (X.env :: X.outer) := by rw [ok.frames, hs]
  have hloc : Loc X.env.scope n := .inl hln
  refine wpAny_Try_except ?_
  refine wpAny_mono ((hb (wAsX X.K c i ts) (X.pn ++ pins) (fun e s₁ => wpAny (model X.prog X.w) X.A (noteFrame e X.env) (fun _ s₂ => wpAny (model X.prog X.w) X.A (setFlight e none) (fun _ s₃ =>
    wpAny (model X.prog X.w) X.A (handleBy e X.env [.ExceptHandler (some (.Name x np)) (some n) (b₀ :: suite) pos']) (SP X pins D) X.xe s₃) X.xe s₂) X.xe s₁) (fun u s' xx => ?_) PassesOwn.looking).run [] s σ H D (I.toTry _) h) (fun f s1 hsp => ?_) (fun e s1 he => he)
  · obtain ⟨a, B, sI, pins', σ', H', cls, d, rfl, J', nb, up, sky, na, os, ag, hb1, hyes⟩ := xx
    have J : Inv X pins σ' H' sI := J'.ofTry ok
    have sky' : Sky B (X.env :: X.outer) a (L2N.Zn cls d) X.env.locals s'.heap := by rw [← hs]; exact sky
    show wpAny (model X.prog X.w) X.A (noteFrame (.ref a) X.env) _ _ _
    refine L2N.Sky.land L2N.Zn.steady hfr hf sky' fun h3 fl3 up3 => ?_
    have J3 : Inv X pins σ' H' { s' with heap := h3 } := J.landed nb fl3.1 (up.trans up3) os ag
    obtain ⟨oe3, vs3, he3, hz3, hd3⟩ := fl3.there
    have nfr : a ∉ frs (X.env :: X.outer) := fun hm => by
      obtain ⟨_, o', e', hnf⟩ := fl3.2.2.1.mem hm
      rw [he3] at e'
      cases e'
      exact hnf _ hd3
    have nL : a ≠ X.env.locals := fun z => nfr (List.mem_filterMap.mpr ⟨X.env, List.mem_cons_self, by rw [hf, z]⟩)
    have nF : a ∉ X.fs := fun hm => by
      obtain ⟨e, he, q⟩ := List.mem_filterMap.mp hm
      exact nfr (List.mem_filterMap.mpr ⟨e, List.mem_cons_of_mem _ he, q⟩)
    have S3 := J3.suite he3 hd3 na nL nF
    refine wpAny_handleBy_cons (codeAny_handlers_test ?_) (by intro q; cases q)
    have LT : PySem.W.Looks (model X.prog X.w) h3 (typeOf (.ref a)) cls := fun A Q E s k q => wpAny_typeOf_ref (k _ _ he3) (by rw [hz3.1]; exact q)
    have LM := PySem.W.exm_one (M := model X.prog X.w) (J3.kIn) LT hb1
    have test : ∀ {Q : Value → Shared → Prop} {E : Value → Shared → Prop}, Q c { s' with heap := h3 } → wpAny (model X.prog X.w) (X.A.mark (some (.ref a))) (eval (.Name x np) X.env) Q E { s' with heap := h3 } := fun {Q E} q => by
      obtain ⟨hg, hdbg, hm | ⟨hm, hv, hnn⟩⟩ := hc
      · exact ld_glob (X := X.suite a ((a, oe3) :: (X.pn ++ pins))) S3 hg hm q hdbg
      · exact ld_blt (X := X.suite a ((a, oe3) :: (X.pn ++ pins))) S3 hg hm hv q hnn hdbg
    refine test (LM.here ?_)
    refine codeAny_handlers_suite_as ?_
    refine HandSPX.lands_againZ fl3 fun h4 fl4 up4 => ?_
    have J4 : Inv X pins σ' H' { s' with heap := h4 } := J.landed nb fl4.1 ((up.trans up3).trans up4) os ag
    obtain ⟨oe4, vs4, he4, hz4, hd4⟩ := fl4.there
    have S4 := J4.suite he4 hd4 na nL nF
    refine store_ok (X := X.suite a ((a, oe4) :: (X.pn ++ pins))) (v := .ref a) S4 hN hi hloc rfl (fun s5 S5 => ?_) (.inr hln)
    have hot : ∀ xe, HotC (suiteF X a ((a, oe4) :: (X.pn ++ pins)) xe) := fun xe => ⟨(a, oe4), ⟨rfl, vs4, hd4, hz4.2.2 vs4 hd4⟩, List.mem_cons_self⟩
    refine wpAny_mono ((hsu a oe4 cls d (X.pn ++ pins) _ hz4 ⟨_, hd4⟩ (fun u s6 x6 => ?_) (hot _)).run [] s5 _ H' _ (Inv.unwish (X := suiteF X a ((a, oe4) :: (X.pn ++ pins)) _) (E := fun _ _ => False) S5) (hyes a na)) (fun f s6 hsp => ?_) (fun e6 s6 z => z)
    · obtain ⟨b, B2, sJ, pins2, σ2, H2, cls2, d2, rfl, I2, nb2, up2, sky2, na2, os2, ag2, w2⟩ := x6
      have hfr' : (X.A.mark (some (.ref a))).frames = some (X.env :: X.outer) := hfr
      have sky2' : Sky B2 (X.env :: X.outer) b (Zc cls2 d2) X.env.locals s6.heap := by rw [← hs]; exact sky2
      obtain ⟨m, hn, _⟩ := I2.loc
      obtain ⟨oL, es, ep, hoL, hdL, r3, r4⟩ := hn
      have nfL : ∀ vs, oL.data ≠ .fields vs := fun vs z => by rw [hdL] at z; cases z
      have hcls : (X.env.scope.kind == .class || (X.env.scope.kind == .module && X.env.locals != X.env.globals)) = false := by rw [ok.kind]; rfl
      show wpAny (model X.prog X.w) (X.A.mark (some (.ref a))) (noteFrame (.ref b) X.env) _ _ _
      refine sky_note hfr' hf sky2' fun h7 held7 up7 => ?_
      obtain ⟨sl, e7⟩ := (up2.trans up7) _ _ hoL nfL
      refine wpAny_nameGoes_keeps hln (m := m) ⟨_, es, ep, e7, hdL, r3, r4⟩ hcls fun h8 v hn8 hs8 => ?_
      obtain ⟨o8, es8, ep8, e8, d8, _⟩ := hn8
      have held8 : HandSPX.HeldZ B2 (X.env :: X.outer) b (Zc cls2 d2) X.env.locals h8 := held_but hf (fun c hc => hs8.2 c hc) ⟨o8, e8, fun vs z => by rw [d8] at z; cases z⟩ held7
      have up8 : ∀ c o, sJ.heap.get? c = some o → c ≠ X.env.locals → (∀ vs, o.data ≠ .fields vs) → ∃ sl, h8.get? c = some { o with slots := sl } := fun c o e hc hd => by
        rw [hs8.2 c hc]
        exact (up2.trans up7) c o e hd
      have out : ∀ (h9 : Heap) (t9 : Nat), HandSPX.HeldZ B2 (X.env :: X.outer) b (Zc cls2 d2) X.env.locals h9 → h8.UpToSlots h9 → X.xe (.ref b) { s6 with heap := h9, toks := t9 } := fun h9 t9 held9 up9 => by
        rw [hx]
        exact held_leaves (X := suiteF X a ((a, oe4) :: (X.pn ++ pins)) _) (s2 := { s6 with heap := h9, toks := t9 }) I2 hs hf hex nb2 (fun c o e hc hd => by
          obtain ⟨sl, q⟩ := up8 c o e hc hd
          obtain ⟨sl2, q2⟩ := up9 c _ q hd
          exact ⟨sl2, q2⟩) held9 na2 os2 ag2 w2
      obtain ⟨_, _, _, oe, vs, T, oT, ts', he, hz, hd, h1, hr⟩ := id held8
      unfold PySem.passOn
      refine wpAny_bind (wpAny_field he hd h1 ?_)
      rw [if_neg (show ¬ ((Value.ref T == Value.none) = true) from by simp)]
      have fin : wpAny (model X.prog X.w) (X.A.mark (some (.ref a))) (setFlight (.ref b) X.env.frame) (fun _ s4 => wpAny (model X.prog X.w) (X.A.mark (some (.ref a))) (throw (.ref b) : Sem Flow) (fun _ _ => False) (notedBy (model X.prog X.w) (X.A.mark (some (.ref a))) X.env fun x s' => cameBackBy (model X.prog X.w) X.A X.env X.xe x s') s4) (notedBy (model X.prog X.w) (X.A.mark (some (.ref a))) X.env fun x s' => cameBackBy (model X.prog X.w) X.A X.env X.xe x s') { s6 with heap := h8, toks := s6.toks + 1 } := by
        rw [hf]
        refine HandSPX.setFlight_onZ held8 fun h9 held9 up9 => wpAny_throw ?_
        show wpAny _ _ _ _ _ _
        refine HandSPX.againZ hf held9.2.2.2 ?_
        show wpAny _ _ _ _ _ _
        obtain ⟨_, _, _, oe9, vs9, T9, _, _, he9, _, hd9, h19, _⟩ := id held9
        refine wpAny_bind (wpAny_field he9 hd9 h19 ?_)
        rw [if_neg (show ¬ ((Value.ref T9 == Value.none) = true) from by simp)]
        rw [hf]
        have fin2 : wpAny (model X.prog X.w) X.A (setFlight (.ref b) (some X.env.locals)) (fun _ s'' => X.xe (.ref b) s'') X.xe { s6 with heap := h9, toks := s6.toks + 1 } := HandSPX.setFlight_onZ held9 fun h10 held10 up10 => out h10 _ held10 (up9.trans up10)
        first
          | exact wpAny_bind (wpAny_pure fin2)
          | exact fin2
      first
        | exact wpAny_bind (wpAny_pure (wpAny_bind fin))
        | exact wpAny_bind fin
    · cases f with
      | next =>
        obtain ⟨_, _, _, q⟩ := hsp
        exact q.elim
      | brk =>
        obtain ⟨_, _, _, q⟩ := hsp
        exact q.elim
      | cont =>
        obtain ⟨_, _, _, q⟩ := hsp
        exact q.elim
      | ret u =>
        obtain ⟨_, _, _, _, _, q⟩ := hsp
        exact q.elim
  · cases f with
    | next =>
      obtain ⟨σ', H', J', q⟩ := hsp
      exact wpAny_execs_nil ⟨σ', H', J'.ofTry ok, q⟩
    | brk =>
      obtain ⟨σ', H', J', q⟩ := hsp
      exact ⟨σ', H', J'.ofTry ok, q⟩
    | cont =>
      obtain ⟨σ', H', J', q⟩ := hsp
      exact ⟨σ', H', J'.ofTry ok, q⟩
    | ret u =>
      obtain ⟨v, σ', H', J', r, q⟩ := hsp
      exact ⟨v, σ', H', J'.ofTry ok, r, q⟩
end
end U

set_option Elab.async false
set_option linter.all false
set_option maxRecDepth 100000
set_option maxHeartbeats 4000000
/-! raising: defs, classes made, subscripts, errors made -/
namespace U
open PySem PySem.Spec PyProof.Rows L2 HotX L2H
theorem cxUpN {P : Program} {w : World} : StX.CXUp (L2N.CX P w) := by
  rintro outer s H s2 H2 E e s' un kp ho ⟨a, B, H', cls, d, ea, fl, hok, ub, na, os, ag, he⟩
  refine ⟨a, B, H', cls, d, ea, fl, hok, ⟨fun b o q n hb => ub.keep b o (kp b o q) (un.free b o q n (by simp)) hb, fun b o q hb => ub.slot b o (kp b o q) hb, fun b o q n => ub.free b o (kp b o q) (un.free b o q n (by simp)),
    fun b o q hb => ub.there b o (kp b o q) hb, fun b xs q => ub.tups b xs (un.tups b xs q), fun b o xs q => ub.frzs b o xs (un.frzs b o xs q), fun b ps q => ?_⟩, na, os.trans ho, ag, he⟩
  obtain ⟨m1, e1⟩ := un.tbls b ps q
  obtain ⟨m2, e2⟩ := ub.tbls b _ e1
  exact ⟨m1 ++ m2, by rw [e2, Array.append_assoc]⟩
section
variable {P : Program} {w : World} {K : PySem.W.Frag} {mg : Str → Option Value} {base : Heap} {x qual : Str} {params : Arguments} {body : List Stmt} {scope : Scope} {f : Addr}
/-- a def without defaults that lets out errors of no context -/
theorem FD.mkN {N ps : List Str} {k : Nat} {sp : Sp} (F : ∃ fd, FunD K x qual params body scope [] [] f fd) (S : FnScope N ps scope) (len : ∀ vs H Q E, sp vs H Q E → vs.length = ps.length)
    (hb : ∀ (kV doc pm : Value) (an : Option Addr) (cdv ct : Value) (us : List Value), us.length = ps.length → bindArgs (PySem.W.fnOf x qual params body scope .none kV doc pm an cdv ct) ⟨us, []⟩ = pure (ps.zip us))
    (hbody : ∀ (cdv : Value) (A : Around) (outer : List Env) (s : Shared) (H : Hp) (vs : List V) (Q : VK) (E : XK), Room k (A.deeper (envOfC qual scope s.heap.objs.size f cdv)) → sp vs H Q E →
      ∃ t, PSs (cxOf (L2N.CX P w) P w K mg base N qual scope f cdv A outer s H E) body t ∧ t ⟨fun _ H' => Q .non H', Q, fun _ _ => False, fun _ _ => False⟩ (start N vs) H) : FD P w K mg base (L2N.CX P w) (k + 1) f ps sp := by
  obtain ⟨fd, F⟩ := F
  exact ⟨⟨fd, F.ok S len fun cdv A outer s H vs Q E hr hsp => hbody cdv A outer s H vs Q E hr hsp, F.bindsN hb⟩, F.kp⟩
/-- def f(a, .., *v) -/
theorem fn_starD {CX : CXT} {N ps : List Str} {pv : Str} {k : Nat} {sp : Sp} (F : ∃ fd, FunD K x qual params body scope [] [] f fd) (S : FnScope N (ps ++ [pv]) scope) (hCX : StX.CXUp CX)
    (hb : ∀ (kV doc pm : Value) (an : Option Addr) (cdv ct : Value) (us rest : List Value), us.length = ps.length → bindArgs (PySem.W.fnOf x qual params body scope .none kV doc pm an cdv ct) ⟨us ++ rest, []⟩ = (newTuple rest >>= fun t => pure (ps.zip us ++ [(pv, t)])))
    (hbody : ∀ (cdv : Value) (A : Around) (outer : List Env) (s : Shared) (H : Hp) (vs : List V) (Q : VK) (E : XK), Room k (A.deeper (envOfC qual scope s.heap.objs.size f cdv)) → sp vs H Q E →
      ∃ t, PSs (cxOf CX P w K mg base N qual scope f cdv A outer s H E) body t ∧ t ⟨fun _ H' => Q .non H', Q, fun _ _ => False, fun _ _ => False⟩ (start N vs) H) :
    FnR P w K mg base CX (k + 1) f (fun vs H Q E => ∃ ws rest, vs = ws ++ rest ∧ ws.length = ps.length ∧ rest.length ≤ sizeLine ∧ ∀ p, H p = Option.none → sp (ws ++ [V.ref p]) (upd H p (.tup rest)) Q E) := by
  obtain ⟨fd, F⟩ := F
  obtain ⟨oc, od, dV, kV, doc, pm, an, cdv, ct, osl, rfl, lk, hcd, hD, hK⟩ := F.ex
  have hdV : dV = .none := by
    rcases hD with ⟨_, q⟩ | ⟨q, _⟩
    · exact q
    · exact absurd rfl q
  subst hdV
  exact StX.fn_star lk hcd S hCX (hb kV doc pm an cdv ct) fun A outer s H vs Q E hr hsp => hbody cdv A outer s H vs Q E hr hsp
theorem fn_star0 {N ps : List Str} {pv : Str} {k : Nat} {sp : Sp} (F : ∃ fd, FunD K x qual params body scope [] [] f fd) (S : FnScope N (ps ++ [pv]) scope)
    (hb : ∀ (kV doc pm : Value) (an : Option Addr) (cdv ct : Value) (us rest : List Value), us.length = ps.length → bindArgs (PySem.W.fnOf x qual params body scope .none kV doc pm an cdv ct) ⟨us ++ rest, []⟩ = (newTuple rest >>= fun t => pure (ps.zip us ++ [(pv, t)])))
    (hbody : ∀ (cdv : Value) (A : Around) (outer : List Env) (s : Shared) (H : Hp) (vs : List V) (Q : VK) (E : XK), Room k (A.deeper (envOfC qual scope s.heap.objs.size f cdv)) → sp vs H Q E →
      ∃ t, PSs (cxOf CX0 P w K mg base N qual scope f cdv A outer s H E).nox body t ∧ t ⟨fun _ H' => Q .non H', Q, fun _ _ => False, fun _ _ => False⟩ (start N vs) H) :
    FnR P w K mg base CX0 (k + 1) f (fun vs H Q E => ∃ ws rest, vs = ws ++ rest ∧ ws.length = ps.length ∧ rest.length ≤ sizeLine ∧ ∀ p, H p = Option.none → sp (ws ++ [V.ref p]) (upd H p (.tup rest)) Q E) :=
  fn_starD F S StX.cxUp_none hb fun cdv A outer s H vs Q E hr hsp => by
    obtain ⟨t, h, q⟩ := hbody cdv A outer s H vs Q E hr hsp
    exact ⟨t, h.nox, q⟩
/-- a def called where an exception is handled; it lets nothing out -/
theorem fnH_of {N ps : List Str} {k : Nat} {sp : Sp} (F : ∃ fd, FunD K x qual params body scope [] [] f fd) (S : FnScope N ps scope) (len : ∀ vs H Q E, sp vs H Q E → vs.length = ps.length)
    (hb : ∀ (kV doc pm : Value) (an : Option Addr) (cdv ct : Value) (us : List Value), us.length = ps.length → bindArgs (PySem.W.fnOf x qual params body scope .none kV doc pm an cdv ct) ⟨us, []⟩ = pure (ps.zip us))
    (hbody : ∀ (cdv : Value) (A : Around) (outer : List Env) (s : Shared) (H : Hp) (vs : List V) (Q : VK) (E : XK) (p : Addr × Obj), RoomH k (A.deeper (envOfC qual scope s.heap.objs.size f cdv)) → sp vs H Q E →
      ∃ t, PSs (cxH CX0 P w K mg base N qual scope f cdv A outer s H E p) body t ∧ t ⟨fun _ H' => Q .non H', Q, fun _ _ => False, fun _ _ => False⟩ (start N vs) H) : ∃ fd, FnH P w K mg base CX0 (k + 1) f fd ps sp ∧ Binds K fd ps [] := by
  obtain ⟨fd, F⟩ := F
  have B := F.bindsN hb
  obtain ⟨oc, od, dV, kV, doc, pm, an, cdv, ct, osl, rfl, lk, hcd, hD, hK⟩ := F.ex
  exact ⟨_, fn_ofH lk hcd S len fun A outer s H vs Q E p _ hr hsp => hbody cdv A outer s H vs Q E p hr hsp, B⟩
end
section
variable {X : Cx} {CX : CXT} {k i : Nat} {f C : Addr} {sp : Sp} {E : L2.St → XK} {x : Str} {e : Expr} {es : List Expr} {t : TA} {p pos : Pos} {pins : List (Addr × Obj)} {σ : L2.St} {H : Hp} {s : Shared}
theorem run_makeRS {Q : VK} {us : List Value} {vs : List V} (M : Mk X.K C f) (F : FnR X.prog X.w X.K X.mg X.base CX k f sp) (hr : Room (k + 1) X.A) (hx : PassesAt CX X σ (E σ)) (I : Inv X pins σ H s) (r : Vals vs us)
    (h : ∀ x dx, H x = Option.none → H dx = Option.none → dx ≠ x → sp (V.ref x :: vs) (upd (upd H dx (.own x)) x (.ins C dx [])) (fun v H2 => v = .non ∧ Q (.ref x) H2) (E σ)) :
    wpAny (model X.prog X.w) X.A (call (.ref C) us) (EP X pins σ Q) X.xe s := by
  have hq := h (s.heap.objs.size + 1) s.heap.objs.size (I.hok.fresh (Nat.le_succ _)) (I.hok.fresh (Nat.le_refl _)) (Nat.ne_of_lt (Nat.lt_succ_self _))
  have I2 := Inv.made (C := C) I
  have r2 : Vals (V.ref (s.heap.objs.size + 1) :: vs) (Value.ref (s.heap.objs.size + 1) :: us) := .cons rfl r
  refine wpAny_call (make_map (f := f) I.kIn M.makes M.init (beq_iff_eq.mp M.fn) (codeAny_mono (F _ X.stack _ _ (Value.ref (s.heap.objs.size + 1) :: us) _ _ (E σ) (hr.make C us []) (I2.env0.make C us []) r2 hq) fun r s' hq' => ?_))
  cases r with
  | error e => exact hx pins _ _ e s' I2 hq'
  | ok fl =>
    cases fl with
    | ret u =>
      obtain ⟨v, H', I3, rv, ev, q3⟩ := I2.after hq'
      subst ev
      exact ⟨rv, ⟨V.ref (s.heap.objs.size + 1), H', I3, rfl, q3⟩⟩
    | next => exact False.elim hq'
    | brk => exact False.elim hq'
    | cont => exact False.elim hq'
def tMakeRS (C : Addr) (sp : Sp) (E : L2.St → XK) (t : TA) : TE := fun σ H Q => t σ H fun vs H1 => ∀ x dx, H1 x = Option.none → H1 dx = Option.none → dx ≠ x →
  sp (V.ref x :: vs) (upd (upd H1 dx (.own x)) x (.ins C dx [])) (fun v H2 => v = .non ∧ Q (.ref x) H2) (E σ)
/-- C(e, .., *y), C a class of the module, what its making lets out hanging on the slots -/
theorem pe_makeSt (M : Mk X.K C f) (F : FnR X.prog X.w X.K X.mg X.base CX k f sp) (hr : Room (k + 1) X.A) (hg : Gl X x) (hm : X.mg x = some (.ref C)) (hx : ∀ σ, PassesAt CX X σ (E σ)) (ha : PA X (e :: es) t) (hdb : (x == ("__debug__" : Str)) = false := by decide)
    (he : starEach (e :: es) X.env = (false, eval e X.env) :: starEach es X.env := by rfl) (hst : (backTo pos (starEach es X.env)).any (·.1) = true := by rfl) : PE X (.Call (.Name x p) (e :: es) [] pos) (tMakeRS C sp E t) := by
  refine ⟨fun pins s σ H Q I h => ?_⟩
  refine wpAny_Call_Name_kw (ld_glob I hg hm ?_ hdb)
  refine PySem.W.callWith_S2 (h₀ := X.base) I.ok.mod.kin M.kp (thn (ha.run pos pins s σ H _ I h) fun us s1 ⟨vs, H1, I1, r, q⟩ => ⟨I1.kIn, ?_⟩) he hst
  exact run_makeRS M F hr (hx σ) I1 r q
/-- c(e, .., *y), c a name of the def that holds the class -/
theorem pe_makeL (M : Mk X.K C f) (F : FnR X.prog X.w X.K X.mg X.base CX k f sp) (hr : Room (k + 1) X.A) (hN : X.N[i]? = some x) (hv : Vis X.env.scope x) (hx : ∀ σ, PassesAt CX X σ (E σ)) (ha : PA X (e :: es) t) (hdb : (x == ("__debug__" : Str)) = false := by decide) (hcd : (x == ("__classdict__" : Str)) = false := by decide)
    (he : starEach (e :: es) X.env = (false, eval e X.env) :: starEach es X.env := by rfl) (hst : (backTo pos (starEach es X.env)).any (·.1) = true := by rfl) : PE X (.Call (.Name x p) (e :: es) [] pos) (fun σ H Q => σ[i]? = some (some (.ref C)) ∧ tMakeRS C sp E t σ H Q) := by
  refine ⟨fun pins s σ H Q I h => ?_⟩
  obtain ⟨hσ, h⟩ := h
  have fin : wpAny (model X.prog X.w) X.A (callWith pos (.ref C) [] (backTo pos (starEach (e :: es) X.env)) []) (EP X pins σ Q) X.xe s := by
    refine PySem.W.callWith_S2 (h₀ := X.base) I.ok.mod.kin M.kp (thn (ha.run pos pins s σ H _ I h) fun us s1 ⟨vs, H1, I1, r, q⟩ => ⟨I1.kIn, ?_⟩) he hst
    exact run_makeRS M F hr (hx σ) I1 r q
  refine wpAny_Call_Name_kw ?_
  obtain ⟨m, hn, hl⟩ := I.loc
  obtain ⟨u, r, l⟩ := hl i x _ hN hσ hv
  obtain rfl : u = Value.ref C := r
  rcases l with ⟨hk, hm⟩ | ⟨hk, c, hc, hcell⟩
  · exact wpAny_Name (wpAny_loadName_local I.ok.kind hk hn hm fin) hdb
  · rcases hk with hk | hk
    · exact wpAny_Name (wpAny_loadName_cell I.ok.kind hk hc hcell fin) hdb
    · exact wpAny_Name (wpAny_loadName_free I.ok.kind hk hc hcell fin hcd) hdb
theorem run_atS {A : Around} {Q : VK} {us : List Value} {vs : List V} (F : FnR X.prog X.w X.K X.mg X.base CX k f sp) (hr : Room k A) (fr : A.frames = X.A.frames) (hx : PassesAt CX X σ (E σ)) (I : Inv X pins σ H s) (r : Vals vs us) (h : sp vs H Q (E σ)) :
    wpAny (model X.prog X.w) A (call (.ref f) us) (EP X pins σ Q) X.xe s := by
  have e0 : Env0 X.prog X.w X.K X.mg X.base A X.stack s H := by
    have e := I.env0
    exact ⟨by rw [fr]; exact e.frames, e.mod, e.bs, e.bsz, e.funs, e.frf, e.hok, e.bare⟩
  refine wpAny_call (codeAny_mono (F A X.stack s H us vs Q (E σ) hr e0 r h) fun r s' hq => ?_)
  cases r with
  | error e => exact hx pins H s e s' I hq
  | ok fl =>
    cases fl with
    | ret u => exact I.after hq
    | next => exact False.elim hq
    | brk => exact False.elim hq
    | cont => exact False.elim hq
/-- o[i], what it lets out hanging on the slots -/
def tSubOS (C : Addr) (sp : Sp) (E : L2.St → XK) (to ti : TE) : TE := fun σ H Q => to σ H fun x H1 => ti σ H1 fun y H2 => ∃ a dx fs, x = .ref a ∧ H2 a = some (.ins C dx fs) ∧ sp [.ref a, y] H2 Q (E σ)
theorem pe_subOS {o j : Expr} {to ti : TE} (m : Meth X.K C "__getitem__" f) (hf : PySem.W.fnIn X.K f = true) (F : FnR X.prog X.w X.K X.mg X.base CX k f sp) (hr : Room (k + 1) X.A) (hx : ∀ σ, PassesAt CX X σ (E σ)) (ho : PE X o to) (hi : PE X j ti)
    (hsl : ∀ ov iv, subscripted j true ov iv = runValue (.builtin "lifetime.subscript" ⟨[ov, iv], []⟩) := by intros; rfl) : PE X (.Subscript o j pos) (tSubOS C sp E to ti) := by
  refine ⟨fun pins s σ H Q I h => ?_⟩
  refine Subscript_ (thn (ho.run pins s σ H _ I h) fun u s1 ⟨x, H1, I1, rx, q⟩ => thn (hi.run pins s1 σ H1 _ I1 q) fun iv s2 ⟨y, H2, I2, ry, a, dx, fs, ex, ea, q2⟩ => ?_)
  subst ex
  obtain rfl : u = Value.ref a := rx
  obtain ⟨od, J⟩ := inst_at I2 ea
  obtain ⟨m0, hF⟩ := I2.fr
  exact PySem.W.sub_K hF I2.ok.mod.kin J m.at_ hf m.fn (run_atS (vs := [.ref a, y]) (us := [.ref a, iv]) F hr.in1 rfl (hx σ) I2 (.cons rfl (.cons ry .nil)) q2) (hsl _ _)
end
/-- what a raising def of the module lets out goes on -/
theorem passX {X : Cx} {E : XK} {W : WX} (tk : L2.Takes X W) (h : ∀ cls d σ H, E cls d H → W cls d σ H) : Passes (L2.CX X.prog X.w) X E := L2.passes_call tk h
theorem passN {X : Cx} {E : XK} {W : WX} (tk : L2N.Takes X W) (h : ∀ cls d σ H, E cls d H → W cls d σ H) : Passes (L2N.CX X.prog X.w) X E := L2N.passes_call tk h
/-- an own error made, of no context -/
theorem pmk_oexN {X : Cx} {x : Str} {C fI : Addr} {k : Nat} {ps : List Str} {sp : Sp} {e : Expr} {es : List Expr} {ta : TA} {p pos : Pos} (T : OexC X.K C) (mm : Meth X.K C "__init__" fI) (F : FD X.prog X.w X.K X.mg X.base CX0 k fI ps sp) (hr : Room (k + 1) X.A) (hg : Gl X x) (hm : X.mg x = some (.ref C)) (ha : PA X (e :: es) ta)
    (hdb : (x == ("__debug__" : Str)) = false := by decide) (he : starEach (e :: es) X.env = (false, eval e X.env) :: starEach es X.env := by rfl) (hpl : (backTo pos (starEach es X.env)).any (·.1) = false := by rfl) :
    L2N.PMk X (.Call (.Name x p) (e :: es) [] pos) (tMkO C sp [] ta) := by
  obtain ⟨fd, F1, hb⟩ := F.ex
  have iC := mm.at_
  have tI := beq_iff_eq.mp mm.fn
  intro pins s σ H Q I h
  obtain ⟨nm, q, N, bs, bm, sn, sub, ab, col, dd, k0, k1, k2, k3, k5, hC, hbm⟩ := T.cls
  refine wpAny_Call_Name_kw (ld_glob I hg hm ?_ hdb)
  refine PySem.W.callWith_K (h₀ := X.base) I.ok.mod.kin T.kC (thn (ha.run pos pins s σ H _ I h) fun us s1 ⟨vs, H1, I1, r1, hz, q1⟩ => ⟨I1.kIn, ?_⟩) he hpl
  show wpAny _ _ (call (.ref C) us) _ _ _
  obtain ⟨hp, g, dr, tk, os⟩ := s1
  have hsz : hp.objs.size ≤ hp.objs.size + 1 := Nat.le_succ _
  have hn : H1 (hp.objs.size + 1) = none := I1.hok.fresh hsz
  have hq := q1 (hp.objs.size + 1) hn
  rw [List.append_nil] at hq
  have kk : ∀ b o, hp.get? b = some o → ((hp.push (PySem.W.kdv_tup us)).push (PySem.HandSPX.excO C hp.objs.size)).get? b = some o := fun b o e => Heap.get?_push_of_some _ (Heap.get?_push_of_some _ e)
  have hget : ((hp.push (PySem.W.kdv_tup us)).push (PySem.HandSPX.excO C hp.objs.size)).get? (hp.objs.size + 1) = some (PySem.HandSPX.excO C hp.objs.size) := by heap_get
  have I2 : Inv X pins σ (upd H1 (hp.objs.size + 1) (exo (hp.objs.size + 1) C none)) ⟨(hp.push (PySem.W.kdv_tup us)).push (PySem.HandSPX.excO C hp.objs.size), g, dr, tk, os⟩ :=
    I1.laid (t' := tk) (a := hp.objs.size + 1) (o := exo (hp.objs.size + 1) C none) (h' := (hp.push (PySem.W.kdv_tup us)).push (PySem.HandSPX.excO C hp.objs.size)) kk hsz (exo_ok hget)
  have r2 : Vals (V.ref (hp.objs.size + 1) :: vs) (Value.ref (hp.objs.size + 1) :: us) := .cons rfl r1
  have hl : (Value.ref (hp.objs.size + 1) :: us ++ []).length = ps.length := by
    have e := r2.length
    rw [F1.len _ _ _ _ hq] at e
    rw [List.append_nil]
    exact e.symm
  have hus : us.length ≤ sizeLine := by
    rw [← Paired.length r1, sizeLine_eq]
    omega
  have b2 := hb _ (Value.ref (hp.objs.size + 1) :: us) I2.kIn hl
  rw [List.append_nil] at b2
  refine wpAny_call (PySem.HandSPX.call_own PySem.F.excBase_ValueError (fun Y => PySem.HandSPX.refsVE_contains Y bm hbm) (I1.kIn _ _ hC) (PySem.W.looks_findIn I1.kIn iC) (fun self => PySem.W.bind_fn I1.kIn self tI) hus
    (codeAny_mono (F1.run _ X.stack _ _ ⟨Value.ref (hp.objs.size + 1) :: us, []⟩ (Value.ref (hp.objs.size + 1) :: us) _ _ (fun _ _ _ => False) (hr.make C us []) (I2.env0.make C us []) b2 r2 hq) fun r s' hq' => ?_))
  cases r with
  | error er => exact False.elim hq'
  | ok fl =>
    cases fl with
    | ret u =>
      obtain ⟨v, H2, os2, bare2, un2, hok2, rv, ev, d, fs, ea, ed, hd1, q2⟩ := hq'
      subst ev
      obtain ⟨h2, g2, d2, t2, os'⟩ := s'
      obtain ⟨t0, G, J, kG, ge, hoe, na⟩ := mk_end0 (d2 := d2) (t2 := t2) I1 hsz kk un2 hok2 os2 bare2 ea ed hd1
      exact ⟨rv, ⟨hp.objs.size + 1, _, _, ⟨G, g2, d2, t2, os'⟩, _, .ref C, some d, rfl, J, kG, ge, hoe, ⟨rfl, rfl, fun vs hv => by cases hv; rfl⟩, rfl, rfl, na, rfl, bare2, raises_own T.exC T.tyC, q2⟩⟩
    | next => exact False.elim hq'
    | brk => exact False.elim hq'
    | cont => exact False.elim hq'
end U

set_option Elab.async false
set_option linter.all false
set_option maxRecDepth 100000
set_option maxHeartbeats 4000000
/-! strings, plain -/
namespace U
open PySem PySem.Spec PyProof.Rows L2 TL
theorem sw_iff (x y : Str) (hy : tl y ≠ []) : Txt.startswith x y = pre (tl y) (tl x) := by
  have h := at_iff (x := x) hy 0
  rw [List.drop_zero] at h
  unfold Txt.startswith
  cases e : pre (tl y) (tl x) with
  | true =>
    obtain ⟨h1, h2⟩ := h.mpr e
    simp [h2]
    omega
  | false =>
    cases q : (decide (0 + y.length ≤ x.length) && Builtin.Str.subAt x y 0) with
    | false => rfl
    | true =>
      obtain ⟨q1, q2⟩ := Bool.and_eq_true_iff.mp q
      rw [h.mp ⟨of_decide_eq_true q1, q2⟩] at e
      cases e
theorem pre_iff {S l : List Nat} : pre S l = true ↔ ∃ r, l = S ++ r := by
  constructor
  · intro h
    have e : l.take S.length = S := beq_iff_eq.mp h
    exact ⟨l.drop S.length, by
      have q := List.take_append_drop S.length l
      rw [e] at q
      exact q.symm⟩
  · rintro ⟨r, rfl⟩
    exact pre_self S r
theorem cut_from (x : Str) (k : Nat) : tl (cutS x (some (k : Int)) none) = (tl x).drop k := by
  show (((tl x).drop (HT.sIx x.length 0 (some (k : Int)))).take (HT.sIx x.length x.length none - HT.sIx x.length 0 (some (k : Int)))) = _
  rw [HT.sIx_nat, HT.sIx_none, len_tl]
  by_cases h : k ≤ (tl x).length
  · rw [Nat.min_eq_left h, List.take_of_length_le (by rw [List.length_drop]; omega)]
  · rw [Nat.min_eq_right (by omega), List.drop_length, List.drop_eq_nil_of_le (by omega), List.take_nil]
theorem lstrip_drop (x y : Str) : ∃ i : Nat, i ≤ x.length ∧ tl (Txt.lstripChars x y) = (tl x).drop i := by
  obtain ⟨i, h, e⟩ := stripBy_left y.cps.contains x
  exact ⟨i, h, by unfold Txt.lstripChars; rw [e, tl_strSub_end]⟩
theorem lstrip_len (x y : Str) : (Txt.lstripChars x y).length ≤ x.length := by
  obtain ⟨i, h, e⟩ := lstrip_drop x y
  rw [len_tl, e, List.length_drop, ← len_tl]
  omega
theorem par_len {S : List Nat} : ∀ {l acc a r : List Nat}, par S acc l = some (a, r) → a.length ≤ acc.length + l.length ∧ r.length ≤ l.length
  | [], acc, a, r, h => by cases h
  | c :: l, acc, a, r, h => by
    cases e : pre S (c :: l) with
    | true =>
      rw [par_hit e] at h
      cases h
      rw [List.length_drop]
      exact ⟨by omega, by omega⟩
    | false =>
      rw [par_miss e] at h
      obtain ⟨q1, q2⟩ := par_len h
      rw [List.length_append, List.length_singleton] at q1
      rw [List.length_cons]
      exact ⟨by omega, by omega⟩
theorem part_len (x y : Str) (hy : tl y ≠ []) : (Txt.partition x y).1.length ≤ x.length ∧ (Txt.partition x y).2.2.length ≤ x.length := by
  rw [partition_par x y hy]
  cases e : par (tl y) [] (tl x) with
  | none => exact ⟨Nat.le_refl _, Nat.zero_le _⟩
  | some p =>
    obtain ⟨a, b⟩ := p
    obtain ⟨q1, q2⟩ := par_len e
    rw [List.length_nil, Nat.zero_add, ← len_tl] at q1
    rw [← len_tl] at q2
    exact ⟨q1, q2⟩
theorem spl_len {S : List Nat} : ∀ {l : List Nat} {k : Nat} {acc : List Nat}, (∀ p ∈ spl S k acc l, p.length ≤ acc.length + l.length) ∧ (spl S k acc l).length ≤ l.length + 1
  | [], k, acc => by
    rw [spl_nil]
    exact ⟨fun p hp => by rw [List.mem_singleton.mp hp]; simp, by simp⟩
  | c :: l, 0, acc => by
    cases e : pre S (c :: l) with
    | true =>
      rw [spl_hit e]
      obtain ⟨q1, q2⟩ := spl_len (S := S) (l := l) (k := S.length - 1) (acc := [])
      refine ⟨fun p hp => ?_, by rw [List.length_cons, List.length_cons]; omega⟩
      rcases List.mem_cons.mp hp with h | h
      · rw [h]; omega
      · have := q1 p h
        rw [List.length_nil] at this
        rw [List.length_cons]
        omega
    | false =>
      rw [spl_miss e]
      obtain ⟨q1, q2⟩ := spl_len (S := S) (l := l) (k := 0) (acc := acc ++ [c])
      refine ⟨fun p hp => ?_, by rw [List.length_cons]; omega⟩
      have := q1 p hp
      rw [List.length_append, List.length_singleton] at this
      rw [List.length_cons]
      omega
  | c :: l, k + 1, acc => by
    obtain ⟨q1, q2⟩ := spl_len (S := S) (l := l) (k := k) (acc := acc)
    refine ⟨fun p hp => ?_, ?_⟩
    · have := q1 p hp
      rw [List.length_cons]
      omega
    · show (spl S k acc l).length ≤ _
      rw [List.length_cons]
      omega
theorem split_len (x y : Str) (hy : tl y ≠ []) (hk : y.cps.all (· < 256) = true) : (∀ p ∈ Txt.split x y, p.length ≤ x.length) ∧ (Txt.split x y).length ≤ x.length + 1 := by
  have e := split_spl x y hy (kind_ok hk)
  obtain ⟨q1, q2⟩ := spl_len (S := tl y) (l := tl x) (k := 0) (acc := [])
  refine ⟨fun p hp => ?_, ?_⟩
  · have := q1 (tl p) (by rw [← e]; exact List.mem_map_of_mem hp)
    rw [List.length_nil, Nat.zero_add, ← len_tl, ← len_tl] at this
    exact this
  · have := congrArg List.length e
    rw [List.length_map] at this
    rw [this, len_tl]
    exact q2
theorem sp_list : ∀ l : List Nat, (32 ∉ l) ∨ ∃ a b, 32 ∉ a ∧ l = a ++ 32 :: b
  | [] => .inl (by simp)
  | c :: l => by
    by_cases h : c = 32
    · exact .inr ⟨[], l, by simp, by rw [h]; rfl⟩
    · rcases sp_list l with q | ⟨a, b, q1, q2⟩
      · exact .inl (by simp [q]; exact fun z => h z.symm)
      · exact .inr ⟨c :: a, b, by simp [q1]; exact fun z => h z.symm, by rw [q2]; rfl⟩
/-- a text has no space, or is parted at its first one -/
theorem sp_cases (L : Str) : (32 ∉ tl L) ∨ ∃ a b : Str, 32 ∉ tl a ∧ L = a ++ (" " : Str) ++ b := by
  rcases sp_list (tl L) with h | ⟨a, b, h1, h2⟩
  · exact .inl h
  · refine .inr ⟨⟨a.toArray⟩, ⟨b.toArray⟩, h1, ext_tl ?_⟩
    rw [tl_append, tl_append, h2]
    show a ++ 32 :: b = a ++ tl (" " : Str) ++ b
    rw [show tl (" " : Str) = [32] by decide +kernel]
    simp
end U

set_option Elab.async false
set_option linter.all false
set_option maxRecDepth 100000
set_option maxHeartbeats 4000000
/-! equal lists of texts -/
namespace U
open PySem PySem.Spec PyProof.Rows L2
/-- a plain text: short, of signs that are printed -/
def OkT (z : Str) : Prop := z.length ≤ 60 ∧ ∀ c ∈ z.cps.toList, 32 ≤ c ∧ c < 128
theorem OkT.ok {z : Str} (h : OkT z) : PyData.strOk z = true := by
  unfold PyData.strOk
  rw [← Array.all_toList]
  exact List.all_eq_true.mpr fun d hd => by
    have := h.2 d hd
    rw [decide_eq_true_eq]
    omega
theorem OkT.sz {z : Str} (h : OkT z) : z.length ≤ sizeLine := sz_of (by have := h.1; omega)
theorem name_okT {z : Str} (h : IsName z) : OkT z := by
  refine ⟨by have := h.length; omega, fun c hc => ?_⟩
  obtain ⟨d, ds, e, _, _, ha⟩ := h.inv
  rw [e] at hc
  have q := ha c hc
  unfold isAln isLow at q
  simp only [Bool.or_eq_true, decide_eq_true_eq] at q
  omega
def sD (xs : List Str) : List PyData := xs.map PyData.str
theorem dpa_str {K : PySem.W.Frag} {H : Hp} : ∀ xs : List Str, DpAll K H (xs.map V.str) (sD xs)
  | [] => .nil
  | x :: xs => .cons (.str x) (dpa_str xs)
theorem lay_str : ∀ {xs : List Str}, (∀ x ∈ xs, OkT x) → PyData.canLayAll0 (sD xs) = true ∧ PyData.depthAll (sD xs) = 0
  | [], _ => ⟨rfl, rfl⟩
  | x :: xs, h => by
    obtain ⟨q1, q2⟩ := lay_str (xs := xs) fun y hy => h y (List.mem_cons_of_mem _ hy)
    refine ⟨?_, ?_⟩
    · show (PyData.canLay0 (.str x) && PyData.canLayAll0 (sD xs)) = true
      rw [q1, Bool.and_true]
      exact (h x (List.mem_cons_self ..)).ok
    · show max (PyData.depth (.str x)) (PyData.depthAll (sD xs)) = 0
      rw [q2]
      rfl
theorem sh_lst {xs : List Str} (h : ∀ x ∈ xs, OkT x) : SeqAt.shaped (.list (sD xs)) = true := by
  obtain ⟨q1, q2⟩ := lay_str h
  unfold SeqAt.shaped
  rw [Bool.and_eq_true]
  exact ⟨q1, by rw [decide_eq_true_eq]; show PyData.depthAll (sD xs) + 1 ≤ 64; omega⟩
theorem sh_tup {xs : List Str} (h : ∀ x ∈ xs, OkT x) : SeqAt.shaped (.tuple (sD xs)) = true := by
  obtain ⟨q1, q2⟩ := lay_str h
  unfold SeqAt.shaped
  rw [Bool.and_eq_true]
  exact ⟨q1, by rw [decide_eq_true_eq]; show PyData.depthAll (sD xs) + 1 ≤ 64; omega⟩
theorem eqv_str : ∀ xs ys : List Str, PyData.eqvAll (sD xs) (sD ys) = decide (xs = ys)
  | [], [] => by simp [sD, PyData.eqvAll]
  | [], y :: ys => by simp [sD, PyData.eqvAll]
  | x :: xs, [] => by simp [sD, PyData.eqvAll]
  | x :: xs, y :: ys => by
    show (PyData.eqv (.str x) (.str y) && PyData.eqvAll (sD xs) (sD ys)) = _
    rw [eqv_str xs ys]
    show ((x == y) && _) = _
    by_cases h : x = y
    · subst h
      by_cases h2 : xs = ys <;> simp [h2]
    · simp [h]
section
variable {K : PySem.W.Frag} {H : Hp} {Q : VK} {a b : Addr} {xs ys : List Str}
theorem x_eqLS (ha : SqL K H a (xs.map V.str)) (hb : SqL K H b (ys.map V.str)) (h1 : ∀ x ∈ xs, OkT x) (h2 : ∀ x ∈ ys, OkT x) (q : Q (.bl (decide (xs = ys))) H) : rEqU K (.ref a) (.ref b) H Q :=
  .inr ⟨_, _, .lst ha (dpa_str xs), .lst hb (dpa_str ys), sh_lst h1, sh_lst h2, by show Q (.bl (PyData.eqvAll (sD xs) (sD ys))) H; rw [eqv_str]; exact q⟩
theorem x_neLS (ha : SqL K H a (xs.map V.str)) (hb : SqL K H b (ys.map V.str)) (h1 : ∀ x ∈ xs, OkT x) (h2 : ∀ x ∈ ys, OkT x) (q : Q (.bl (!decide (xs = ys))) H) : rNeU K (.ref a) (.ref b) H Q :=
  .inr ⟨_, _, .lst ha (dpa_str xs), .lst hb (dpa_str ys), sh_lst h1, sh_lst h2, by show Q (.bl (!PyData.eqvAll (sD xs) (sD ys))) H; rw [eqv_str]; exact q⟩
theorem x_eqTS (ha : SqT K H a (xs.map V.str)) (hb : SqT K H b (ys.map V.str)) (h1 : ∀ x ∈ xs, OkT x) (h2 : ∀ x ∈ ys, OkT x) (q : Q (.bl (decide (xs = ys))) H) : rEqU K (.ref a) (.ref b) H Q :=
  .inr ⟨_, _, .tup ha (dpa_str xs), .tup hb (dpa_str ys), sh_tup h1, sh_tup h2, by show Q (.bl (PyData.eqvAll (sD xs) (sD ys))) H; rw [eqv_str]; exact q⟩
end
/-! ### steps over methods of texts -/
section
variable {K : PySem.W.Frag} {H : Hp} {Q : VK} {z y : Str} {PP : Prop}
theorem x_tyS (q : PP) : tyV K "str" (.str z) H ∧ PP := ⟨rfl, q⟩
def rPart : V → List V → Hp → VK → Prop := fun x xs H Q => ∃ a b, x = .str a ∧ xs = [.str b] ∧ (b.length == 0) = false ∧ a.length ≤ sizeLine ∧
    ∀ p, H p = none → Q (.ref p) (upd H p (.tup [.str (Txt.partition a b).1, .str (Txt.partition a b).2.1, .str (Txt.partition a b).2.2]))
theorem mt_part {X : Cx} : MtR X "str.partition" rPart := mt_partition
def rSplit : V → List V → Hp → VK → Prop := fun x xs H Q => ∃ a b, x = .str a ∧ xs = [.str b] ∧ (b.length == 0) = false ∧ a.length + 2 ≤ sizeLine ∧ rNewStrs (Txt.split a b) H Q
theorem mt_splitU {X : Cx} : MtR X "str.split" rSplit := mt_split
def rSw : V → List V → Hp → VK → Prop := fun x xs H Q => ∃ a b, x = .str a ∧ xs = [.str b] ∧ Q (.bl (Txt.startswith a b)) H
theorem mt_sw {X : Cx} : MtR X "str.startswith" rSw := mt_startswith
def rLst : V → List V → Hp → VK → Prop := fun x xs H Q => ∃ a b, x = .str a ∧ xs = [.str b] ∧ a.length ≤ sizeLine ∧ Q (.str (Txt.lstripChars a b)) H
theorem mt_lst {X : Cx} : MtR X "str.lstrip" rLst := mt_lstripChars
def rJoin (K : PySem.W.Frag) : V → List V → Hp → VK → Prop := fun x xs H Q => ∃ a p, ∃ ys : List Str, x = .str a ∧ xs = [.ref p] ∧ (SqL K H p (ys.map V.str) ∨ SqT K H p (ys.map V.str)) ∧ (ys.map (·.length)).sum + ys.length * a.length ≤ 16777216 ∧ Q (.str (Txt.join a ys)) H
theorem mt_joinU {X : Cx} : MtR X "str.join" (rJoin X.K) := mt_join
theorem x_part (hb : (y.length == 0) = false) (hz : z.length ≤ sizeLine) (q : ∀ p H', H p = none → H' p = some (.tup [.str (Txt.partition z y).1, .str (Txt.partition z y).2.1, .str (Txt.partition z y).2.2]) → Ch [] H H' → Q (.ref p) H') :
    rPart (.str z) [.str y] H Q := ⟨z, y, rfl, rfl, hb, hz, fun p hp => q p _ hp upd_same (Ch.new hp)⟩
theorem x_split (hb : (y.length == 0) = false) (hz : z.length + 2 ≤ sizeLine) (q : ∀ p H', H p = none → H' p = some (.lst ((Txt.split z y).map V.str)) → Ch [] H H' → Q (.ref p) H') :
    rSplit (.str z) [.str y] H Q := ⟨z, y, rfl, rfl, hb, hz, fun p hp => q p _ hp upd_same (Ch.new hp)⟩
theorem x_sw (q : Q (.bl (Txt.startswith z y)) H) : rSw (.str z) [.str y] H Q := ⟨z, y, rfl, rfl, q⟩
theorem x_lstrip (hz : z.length ≤ sizeLine) (q : Q (.str (Txt.lstripChars z y)) H) : rLst (.str z) [.str y] H Q := ⟨z, y, rfl, rfl, hz, q⟩
theorem x_join {p : Addr} {ys : List Str} (h : SqL K H p (ys.map V.str)) (hz : (ys.map (·.length)).sum + ys.length * z.length ≤ 16777216) (q : Q (.str (Txt.join z ys)) H) : rJoin K (.str z) [.ref p] H Q := ⟨z, p, ys, rfl, rfl, .inl h, hz, q⟩
theorem x_star {K : PySem.W.Frag} {te : TE} {t : TA} {σ : L2.St} {QL : List V → Hp → Prop} (h : te σ H fun x H1 => ∃ p xs, x = V.ref p ∧ (SqT K H1 p xs ∨ SqL K H1 p xs) ∧ t σ H1 fun ys H2 => QL (xs ++ ys) H2) : StX.tStar K te t σ H QL := h
end
theorem ite_join {c : Bool} {te1 te2 : TE} {σ : L2.St} {H : Hp} {Q : VK} (J : V → Hp → Prop) (hk : ∀ x H', J x H' → Q x H') (h1 : c = true → ∀ Q' : VK, (∀ x H', J x H' → Q' x H') → te1 σ H Q') (h2 : c = false → ∀ Q' : VK, (∀ x H', J x H' → Q' x H') → te2 σ H Q') : if c = true then te1 σ H Q else te2 σ H Q := by
  cases c with
  | true => exact h1 rfl Q hk
  | false => exact h2 rfl Q hk
theorem x_makeRS {C : Addr} {sp : Sp} {E : L2.St → XK} {t : TA} {σ : L2.St} {H : Hp} {Q : VK} (h : t σ H fun vs H1 => NwO H1 C fun x H' => sp (V.ref x :: vs) H' (fun v H2 => v = .non ∧ Q (.ref x) H2) (E σ)) : tMakeRS C sp E t σ H Q := by
  have e : (fun (vs : List V) (H1 : Hp) => NwO H1 C fun x H' => sp (V.ref x :: vs) H' (fun v H2 => v = .non ∧ Q (.ref x) H2) (E σ)) = fun vs H1 => ∀ x dx, H1 x = none → H1 dx = none → dx ≠ x → sp (V.ref x :: vs) (upd (upd H1 dx (.own x)) x (.ins C dx [])) (fun v H2 => v = .non ∧ Q (.ref x) H2) (E σ) := by
    funext vs H1
    exact propext ⟨fun z x dx a b c => z x dx _ a b c rfl, fun z x dx H' a b c e => by rw [e]; exact z x dx a b c⟩
  rw [e] at h
  exact h
theorem x_starI {sp : Sp} {vs ws rest : List V} {n : Nat} {H : Hp} {Q : VK} {E : XK} (e : vs = ws ++ rest) (hn : ws.length = n) (hz : rest.length ≤ sizeLine) (h : ∀ p H', H p = none → H' p = some (.tup rest) → Ch [] H H' → sp (ws ++ [V.ref p]) H' Q E) :
    ∃ ws rest, vs = ws ++ rest ∧ ws.length = n ∧ rest.length ≤ sizeLine ∧ ∀ p, H p = Option.none → sp (ws ++ [V.ref p]) (upd H p (.tup rest)) Q E := ⟨ws, rest, e, hn, hz, fun p hp => h p _ hp upd_same (Ch.new hp)⟩
theorem pa_starE {X : Cx} {K : PySem.W.Frag} (hK : X.K = K) {e : Expr} {es : List Expr} {te : TE} {t : TA} {p : Pos} (he : PE X e te) (hr : PA X es t) (hs : starEach (.Starred e p :: es) X.env = (true, eval e X.env) :: starEach es X.env := by rfl) : PA X (.Starred e p :: es) (StX.tStar K te t) := by
  subst hK
  exact StX.pa_star he hr hs
end U

set_option Elab.async false
set_option linter.all false
set_option maxRecDepth 100000
set_option maxHeartbeats 4000000
/-! enumerate(list, start=k) -/
namespace U
open PySem PySem.Spec PyProof.Rows L2
open Sem (wp)
/-- the list at a, each item in a new pair behind its number, from k on -/
def Ites (K : PySem.W.Frag) (k₀ : Int) (a : Addr) : It :=
  ⟨fun i H => ∃ (xs : List V) (x : V), SqL K H a xs ∧ xs[i]? = some x, fun i H v H' => ∃ T x, v = .ref T ∧ H T = none ∧ H' = upd H T (.tup [.int (k₀ + (i : Nat)), x]) ∧ ∀ xs, SqL K H a xs → xs[i]? = some x, fun i H => ∃ xs : List V, SqL K H a xs ∧ xs.length ≤ i⟩
theorem enumL_end {prog : Program} {w : World} {A : Around} {E : Value → Shared → Prop} {s : Shared} {e it l : Addr} {i : Nat} {c : Int} {items : Array Value} {old : Value} {Q : Option Value → Shared → Prop} (hh : A.handled = none)
    (he : IsEnum s.heap e it c old) (hit : s.heap.IsListIter it l i) (hl : s.heap.IsList l items) (hx : items[i]? = none)
    (hQ : ∀ h', Heap.ExtBut it s.heap h' → Q none { s with heap := h' }) : wpAny (model prog w) A (pyNext (.ref e)) Q E s := by
  have hT : s.TypeIs (.ref e) "enumerate" := ⟨_, he, rfl⟩
  unfold pyNext
  refine wpAny_bind (wpAny_attempt (wpAny_callSpecial?_slot (name := Str.ofString "__next__") hT PySem.F.slot_enumerate_next
    (wpAny_call_entry PySem.F.slot_enumerate_next hT PySem.F.entry_enumerate_next ?_ (PySem.F.args_enumerate_next_1 _))))
  show wpAny _ _ (field (.ref e) 2 >>= _) _ _ _
  refine wpAny_bind (wpAny_field he rfl (x := .ref it) rfl ?_)
  refine wpAny_bind (wpAny_nextOf_list_end hh hit hl hx fun h' x he' hx' => ?_)
  obtain ⟨o, ho, hc⟩ := hx'
  refine wpAny_bind (wpAny_isInstance (T := "StopIteration") (b := true) ⟨o, ho, hc⟩ isSubtype_stop ?_)
  exact wpAny_pure (hQ _ he')
theorem turn_enumS {P : Program} {w : World} {K : PySem.W.Frag} {elts : List Expr} {kk : Nat} {tpos : Pos} (k₀ : Int) (a e it : Addr) :
    Turn P w K (.Tuple elts kk tpos) (Ites K k₀ a) [e, it] e (fun i h => (∃ old, IsEnum h e it (k₀ + (i : Nat)) old) ∧ h.IsListIter it a i ∧ e ≠ it ∧ a ≠ it ∧ e ≠ a) where
  mem := by simp
  obj := fun i h st b hb => by
    obtain ⟨⟨old, he⟩, ⟨o, ho, hc, hd⟩, _⟩ := st
    have e' : b = e ∨ b = it := by simpa using hb
    rcases e' with z | z
    · rw [z]; exact ⟨_, he, fun v q => nomatch q⟩
    · rw [z]; exact ⟨o, ho, fun v q => by rw [hd] at q; cases q⟩
  keep := fun i h h' st k => let ⟨⟨old, he⟩, hi, hne⟩ := st; ⟨⟨old, k e (by simp) _ he⟩, hi.at fun o q => k it (by simp) o q, hne⟩
  item := by
    intro X hP hw hK hc i pins s σ H E I hf st hg
    subst hP hw hK
    obtain ⟨⟨old, he⟩, hit, hne, hai, hea⟩ := st
    obtain ⟨xs, x, hq, hx⟩ := hg
    obtain ⟨its, rv, p, hz⟩ := I.list hq
    obtain ⟨u, hu, ru⟩ := rv.get hx
    have hel : e < s.heap.objs.size := Heap.lt_size he
    have hil : it < s.heap.objs.size := by obtain ⟨_, q, _⟩ := hit; exact Heap.lt_size q
    have hlt : i < its.toArray.size := by
      rw [List.size_toArray]
      obtain ⟨q, _⟩ := List.getElem?_eq_some_iff.mp hu
      exact q
    refine wpAny_pyNext_enum_itemC (Draws.list (prog := X.prog) (w := X.w) (A := X.A.in1) (I.ok.hd hc) it a hai its.toArray) he ⟨hit, p.isList⟩ hlt hne (by simp [hne, hea]) fun u' h' tk hu' ho hit' hT hsz hk => ?_
    have hu2 : its.toArray[i]? = some u := by rw [List.getElem?_toArray]; exact hu
    rw [hu2] at hu'
    obtain rfl := Option.some.inj hu'
    refine ⟨_, rfl, wpAny_letOwnedTupleGo_enum (s := { s with heap := h', toks := tk + 1 }) ho fun h'' he' sb => ?_⟩
    have hT2 : h''.get? s.heap.objs.size = some { cls := .type "tuple", data := .seq #[.int (k₀ + (i : Nat)) tk, u] } := (sb.2 _ (Nat.ne_of_gt hel)).trans hT
    have new : ObjOk X.prog X.w (upd H s.heap.objs.size (.tup [.int (k₀ + (i : Nat)), x])) h'' s.heap.objs.size (.tup [.int (k₀ + (i : Nat)), x]) :=
      ⟨by show 2 ≤ sizeLine; decide, [.int (k₀ + (i : Nat)) tk, u], .cons ⟨_, rfl⟩ (.cons ru .nil), ⟨_, hT2, rfl, _, rfl⟩⟩
    have I1 : Inv X pins σ (upd H s.heap.objs.size (.tup [.int (k₀ + (i : Nat)), x])) { s with heap := h'', toks := tk + 1 } :=
      I.turnedNew (ch := [e, it]) (fun b ob hb q => (sb.2 b (fun z => hb (by simp [z]))).trans (hk b ob (fun z => hb (by simp [z])) (fun z => hb (by simp [z])) q)) hf (Nat.le_refl _) new
    refine ⟨.ref s.heap.objs.size, _, I1, rfl, ⟨_, x, rfl, I.hok.fresh (Nat.le_refl _), rfl, fun ys hy => by rw [I.list_inj hy hq]; exact hx⟩, ⟨⟨u, ?_⟩, ?_, hne, hai, hea⟩, fun b hb => ?_⟩
    · have e1 : k₀ + ((i + 1 : Nat) : Int) = k₀ + (i : Int) + 1 := by omega
      rw [e1]; exact he'
    · exact hit'.1.at fun o q => (sb.2 it (Ne.symm hne)).trans q
    · have hb' : b < s.heap.objs.size := by
        have e' : b = e ∨ b = it := by simpa using hb
        rcases e' with z | z
        · rw [z]; exact hel
        · rw [z]; exact hil
      rw [upd_ne (Nat.ne_of_lt hb')]
      exact (hf b hb).1
  done := by
    intro X hP hw hK hc i pins s σ H E I hf st hg
    subst hP hw hK
    obtain ⟨⟨old, he⟩, hit, hne, hai, hea⟩ := st
    obtain ⟨xs, hq, hx⟩ := hg
    obtain ⟨its, rv, p, hz⟩ := I.list hq
    obtain ⟨f0, f1, f2, f3, f4, f5⟩ := hf it (by simp)
    have hl := rv.length
    have hn : its.toArray[i]? = none := by rw [List.getElem?_toArray]; exact List.getElem?_eq_none (by omega)
    exact enumL_end (I.ok.hd hc) he hit p.isList hn fun h' eb => ⟨rfl, I.turned (t' := s.toks) (fun b o hb q => eb b o hb q) f0 f1 f3 f4 f5⟩
  self := fun A i s Q E st h => let ⟨⟨_, he⟩, _⟩ := st; wpAny_pyIter_enum he h
/-- enumerate(e, start=k), k written -/
def iEnumS (K : PySem.W.Frag) (k₀ : Int) (ta : TA) : TI := fun σ H R => ta σ H fun vs H1 => ∃ a xs, vs = [.ref a] ∧ SqL K H1 a xs ∧ R (Ites K k₀ a) H1
theorem callWith_typeKw {M : Model} {A : Around} {E : Value → Shared → Prop} {s : Shared} {env : Env} {pos : Pos} {T : String} {e : Expr} {rest : List Expr} {kws : List Keyword} {Q : Value → Shared → Prop}
    (h : wpAny M A (spliced (backTo pos (starEach (e :: rest) env))) (fun vs s₁ => wpAny M A (evalAll ((backToKw pos (keywordEach kws env)).map (·.2)))
      (fun kvs s₂ => wpAny M A (call (.type T) vs (((backToKw pos (keywordEach kws env)).filterMap (·.1)).zip kvs)) Q E s₂) E s₁) E s)
    (he : backTo pos (starEach (e :: rest) env) = (false, eval e env) :: backTo pos (starEach rest env))
    (hplain : (backTo pos (starEach (e :: rest) env)).any (·.1) = false)
    (hall : (backToKw pos (keywordEach kws env)).all (·.1.isSome) = true)
    (hkw : (backToKw pos (keywordEach kws env)).any (·.1.isNone) = false) :
    wpAny M A (callWith pos (.type T) [] (backTo pos (starEach (e :: rest) env)) (backToKw pos (keywordEach kws env))) Q E s := by
  unfold callWith
  refine wpAny_bind (wpAny_holding (wpAny_mono (Q := fun a s₁ => wpAny M A (call (.type T) ([] ++ a.pos) a.kw) Q E s₁) ?_ (fun a s₁ h₁ => wpAny_bind (wpAny_standAt ?_)) fun _ _ x => x))
  · rw [he] at h ⊢
    exact PyProof.Rows.evalArgs_kwB hall h
  · simp only [hplain, hkw, Bool.or_false]
    refine wpAny_bind (wpAny_pure ?_)
    exact wpAny_bind (wpAny_mono h₁ (fun r s₂ hr => wpAny_bind (wpAny_holding (wpAny_point (wpAny_pure hr)))) fun _ _ x => x)
theorem pi_enumS {X : Cx} {e : Expr} {ta : TA} {p pos tpos kpos ipos : Pos} {elts : List Expr} {kk j : Nat} {k₀ : Int} (h0 : -(2 ^ 63) ≤ k₀) (h1 : k₀ < 2 ^ 63) (hg : Gl X "enumerate") (hm : X.mg "enumerate" = none) (ha : PA X [e] ta)
    (he : backTo pos (starEach [e] X.env) = (false, eval e X.env) :: backTo pos (starEach [] X.env) := by rfl) (hpl : (backTo pos (starEach [e] X.env)).any (·.1) = false := by rfl)
    (hall : (backToKw pos (keywordEach [⟨some "start", .Constant (.int k₀) j ipos, kpos⟩] X.env)).all (·.1.isSome) = true := by rfl) (hnone : (backToKw pos (keywordEach [⟨some "start", .Constant (.int k₀) j ipos, kpos⟩] X.env)).any (·.1.isNone) = false := by rfl)
    (hks : (backToKw pos (keywordEach [⟨some "start", .Constant (.int k₀) j ipos, kpos⟩] X.env)).filterMap (·.1) = [("start" : Str)] := by rfl) :
    PI X (.Tuple elts kk tpos) (.Call (.Name "enumerate" p) [e] [⟨some "start", .Constant (.int k₀) j ipos, kpos⟩] pos) (iEnumS X.K k₀ ta) := by
  have hk : PK X [⟨some "start", .Constant (.int k₀) j ipos, kpos⟩] (tCons (tC (.int k₀)) tNil) := pk_cons pe_int pk_nil
  refine ⟨fun pins s σ H R I h => ?_⟩
  refine wpAny_Call_Name_kw (ld_blt I hg hm boot_enumerate ?_)
  refine callWith_typeKw (thn (ha.run pos pins s σ H _ I h) fun us s1 ⟨vs, H1, I1, r1, a, xs, ex, hq, q⟩ => thn (hk.run pos pins s1 σ H1 (fun zs H2 => zs = [.int k₀] ∧ H2 = H1) I1 ⟨rfl, rfl⟩) fun ws s2 ⟨zs, H2, I2, r2, ez, eH⟩ => ?_) he hpl hall hnone
  subst ex ez eH
  rw [hks]
  cases r1 with
  | cons r rr =>
    cases rr
    cases r
    cases r2 with
    | cons r' rr' =>
      cases rr'
      obtain ⟨t, rfl⟩ := r'
      obtain ⟨its, rv, p', hz⟩ := I2.list hq
      have hal : a < s2.heap.objs.size := let ⟨o, ho, _⟩ := p'.isList; Heap.lt_size ho
      have far : ∀ b, b ∈ [s2.heap.objs.size + 1, s2.heap.objs.size] → s2.heap.objs.size ≤ b := fun b hb => by
        have e' : b = s2.heap.objs.size + 1 ∨ b = s2.heap.objs.size := by simpa using hb
        rcases e' with z | z
        · rw [z]; exact Nat.le_add_right _ _
        · rw [z]; exact Nat.le_refl _
      refine enum_begins_start (begins_list a its.toArray) p'.isList h0 h1 fun h' he2 hit hsz hkp => wpAny_pyIter_enum he2 ?_
      have I3 : Inv X pins σ H2 { s2 with heap := h' } := I2.kept (t' := s2.toks) hkp
      exact ⟨s2.heap.objs.size + 1, [s2.heap.objs.size + 1, s2.heap.objs.size], _, _, H2, rfl, I3, turn_enumS k₀ a (s2.heap.objs.size + 1) s2.heap.objs.size, ⟨⟨.none, by simpa using he2⟩, ⟨_, hit, rfl, rfl⟩, Nat.succ_ne_self _, Nat.ne_of_lt hal, Nat.ne_of_gt (Nat.lt_succ_of_lt hal)⟩, fun b hb => I2.fpOk (far b hb) (I2.hok.fresh (far b hb)), q⟩
theorem goES {K : PySem.W.Frag} {σ : L2.St} {H : Hp} {g : TG} {tb : TS} {nx bk ct : L2.St → Hp → Prop} {rt : VK} {a : Addr} {k₀ : Int} (xs : List V) (Pv : Nat → L2.St → Hp → Prop) (h0 : Pv 0 σ H) (hl : ∀ i σ H, i ≤ xs.length → Pv i σ H → SqL K H a xs) (hs : ∀ (i : Nat) x σ H, xs[i]? = some x → Pv i σ H → ∀ T H', H T = none → H' T = some (.tup [.int (k₀ + (i : Nat)), x]) → Ch [] H H' → g (.ref T) σ H' fun σ2 H2 => tb ⟨Pv (i + 1), rt, nx, Pv (i + 1)⟩ σ2 H2) (hd : ∀ σ H, Pv xs.length σ H → nx σ H) :
    ForG (Ites K k₀ a) g tb ⟨nx, rt, bk, ct⟩ σ H := by
  refine ⟨fun i m σ H => m = xs.length - i ∧ i ≤ xs.length ∧ Pv i σ H, ⟨xs.length, by simp, Nat.zero_le _, h0⟩, ?_⟩
  rintro i m σ H ⟨rfl, hi, p⟩
  by_cases hlt : i < xs.length
  · refine .inr ⟨⟨xs, xs[i], hl i σ H hi p, List.getElem?_eq_getElem hlt⟩, Pv (i + 1), fun σ' H' p' => ⟨xs.length - (i + 1), by omega, rfl, hlt, p'⟩, fun v H' y => ?_⟩
    obtain ⟨T, x, rfl, hT, rfl, hx⟩ := y
    exact hs i x σ H (hx xs (hl i σ H hi p)) p T _ hT upd_same (Ch.new hT)
  · have e : i = xs.length := by omega
    subst e
    exact .inl ⟨⟨xs, hl _ σ H hi p, Nat.le_refl _⟩, hd σ H p⟩
theorem x_iES {K : PySem.W.Frag} {k₀ : Int} {σ : L2.St} {H : Hp} {ta : TA} {R : It → Hp → Prop} (h : ta σ H fun vs H1 => ∃ a xs, vs = [.ref a] ∧ SqL K H1 a xs ∧ R (Ites K k₀ a) H1) : iEnumS K k₀ ta σ H R := h
end U

set_option Elab.async false
set_option linter.all false
set_option maxRecDepth 100000
set_option maxHeartbeats 4000000
/-! parts of lists, the last item, lists unpacked and repeated, two names set at once -/
namespace U
open PySem PySem.Spec PyProof.Rows L2
theorem cutV_up (xs : List V) (n : Nat) (h : n ≤ xs.length) : cutV xs (some (n : Int)) none = xs.drop n := by
  unfold cutV
  rw [HT.sIx_nat, HT.sIx_none, Nat.min_eq_left h, List.take_of_length_le (by rw [List.length_drop]; omega)]
theorem cutV_lo (xs : List V) (n : Nat) (h : n ≤ xs.length) : cutV xs none (some (n : Int)) = xs.take n := by
  unfold cutV
  rw [HT.sIx_nat, HT.sIx_none, Nat.min_eq_left h, List.drop_zero]
  rfl
theorem cutV_mid (xs : List V) (i j : Nat) : cutV xs (some (i : Int)) (some (j : Int)) = (xs.drop (min i xs.length)).take (min j xs.length - min i xs.length) := by
  unfold cutV
  rw [HT.sIx_nat, HT.sIx_nat]
theorem cutV_up' (xs : List V) (n : Nat) : cutV xs (some (n : Int)) none = xs.drop n := by
  by_cases h : n ≤ xs.length
  · exact cutV_up xs n h
  · unfold cutV
    rw [HT.sIx_nat, HT.sIx_none, Nat.min_eq_right (by omega), List.drop_length, List.drop_eq_nil_of_le (by omega), List.take_nil]
section
variable {K : PySem.W.Frag} {H : Hp} {Q : VK} {l : Addr} {xs : List V} {v y : V} {QH : Hp → Prop}
theorem x_ixLm (h : SqL K H l (xs ++ [v])) (q : Q v H) : rIx K (.ref l) (.int (-1)) H Q := .inl ⟨l, xs ++ [v], -1, v, rfl, rfl, h, atI_last xs v, q⟩
theorem x_setLm (h : H l = some (.lst (xs ++ [y]))) (q : ∀ H', H' l = some (.lst (xs ++ [v])) → Ch [l] H H' → QH H') : rSetL (.ref l) (.int (-1)) v H QH := by
  refine ⟨l, xs ++ [y], -1, xs.length, rfl, rfl, h, ?_, ?_⟩
  · unfold ixN
    rw [if_neg (by decide), List.length_append, List.length_singleton, if_pos (by omega)]
    congr 1
    omega
  · have e : (xs ++ [y]).set xs.length v = xs ++ [v] := by simp
    rw [e]
    exact q _ upd_same (Ch.mut h rfl)
theorem x_rep {k : Int} (h : H l = some (.lst xs)) (h1 : -(2 ^ 63) ≤ k) (h2 : k < 2 ^ 63) (hz : xs.length * k.toNat ≤ sizeLine) (q : ∀ p H', H p = none → H' p = some (.lst (List.replicate k.toNat xs).flatten) → Ch [] H H' → Q (.ref p) H') : rRep (.ref l) (.int k) H Q :=
  ⟨l, k, xs, rfl, rfl, h, h1, h2, hz, fun p hp => q p _ hp upd_same (Ch.new hp)⟩
theorem u_mulL {X : Cx} : OpR X (binaryOp .Mult) rRep := op_rep
end
theorem x_par {i j : Nat} {ta : TA} {nx bk ct : L2.St → Hp → Prop} {rt : VK} {σ : L2.St} {H : Hp} (h : ta σ H fun vs H1 => ∃ v w, vs = [v, w] ∧ nx ((σ.set i (some v)).set j (some w)) H1) : tPar i j ta ⟨nx, rt, bk, ct⟩ σ H := h
theorem x_parE {v w : V} {R : V → V → Prop} (h : R v w) : ∃ v' w', [v, w] = [v', w'] ∧ R v' w' := ⟨v, w, rfl, h⟩
theorem x_glst {K : PySem.W.Frag} {a : Addr} {xs : List V} {n : Nat} {us : TGs} {σ : L2.St} {H : Hp} {Qs : L2.St → Hp → Prop} (h : SqL K H a xs) (hl : xs.length = n) (q : us xs σ H Qs) : gLst K n us (.ref a) σ H Qs := ⟨a, xs, rfl, h, hl, q⟩
theorem ifs_join {c : Bool} {t1 t2 : TS} {nx bk ct : L2.St → Hp → Prop} {rt : VK} {σ : L2.St} {H : Hp} (J : L2.St → Hp → Prop) (hk : ∀ σ' H', J σ' H' → nx σ' H') (h1 : c = true → ∀ nx' : L2.St → Hp → Prop, (∀ σ' H', J σ' H' → nx' σ' H') → t1 ⟨nx', rt, bk, ct⟩ σ H) (h2 : c = false → ∀ nx' : L2.St → Hp → Prop, (∀ σ' H', J σ' H' → nx' σ' H') → t2 ⟨nx', rt, bk, ct⟩ σ H) : if c = true then t1 ⟨nx, rt, bk, ct⟩ σ H else t2 ⟨nx, rt, bk, ct⟩ σ H := by
  cases c with
  | true => exact h1 rfl nx hk
  | false => exact h2 rfl nx hk
theorem tt_join {t : TT} {σ : L2.St} {H : Hp} {QB : Bool → Hp → Prop} (J : Bool → Hp → Prop) (ht : ∀ QB' : Bool → Hp → Prop, (∀ b H1, J b H1 → QB' b H1) → t σ H QB') (hk : ∀ b H1, J b H1 → QB b H1) : t σ H QB := ht QB hk
end U

set_option Elab.async false
set_option linter.all false
set_option maxRecDepth 100000
set_option maxHeartbeats 4000000
/-! defs called where an exception is handled that may have a cause; calls in try bodies -/
namespace U
open PySem PySem.Spec PyProof.Rows L2 HotX L2H
/-- a def called while an exception is handled, whatever hangs on that one; it lets nothing out -/
def FnP (P : Program) (w : World) (K : PySem.W.Frag) (mg : Str → Option Value) (base : Heap) (k : Nat) (f : Addr) (fd : FuncData) (ps : List Str) (sp : Sp) : Prop :=
  (∀ vs H Q E, sp vs H Q E → vs.length = ps.length) ∧ ∀ (p : Addr × Obj) (A : Around) (outer : List Env) (s : Shared) (H : Hp) (args : Args) (us : List Value) (vs : List V) (Q : VK) (E : XK),
    PinOk outer H s p → RoomH k A → Env0 P w K mg base A outer s H → BindsTo s fd args (ps.zip us) → Vals vs us → sp vs H Q E → codeAny (model P w) A (.call (.ref f) args) (CR CX0 outer P w H s Q E) s
section
variable {P : Program} {w : World} {K : PySem.W.Frag} {mg : Str → Option Value} {base : Heap} {x qual : Str} {params : Arguments} {body : List Stmt} {scope : Scope} {f : Addr}
theorem fnP_of {N ps : List Str} {k : Nat} {sp : Sp} (F : ∃ fd, FunD K x qual params body scope [] [] f fd) (S : FnScope N ps scope) (len : ∀ vs H Q E, sp vs H Q E → vs.length = ps.length)
    (hb : ∀ (kV doc pm : Value) (an : Option Addr) (cdv ct : Value) (us : List Value), us.length = ps.length → bindArgs (PySem.W.fnOf x qual params body scope .none kV doc pm an cdv ct) ⟨us, []⟩ = pure (ps.zip us))
    (hbody : ∀ (cdv : Value) (A : Around) (outer : List Env) (s : Shared) (H : Hp) (vs : List V) (Q : VK) (E : XK) (p : Addr × Obj), RoomH k (A.deeper (envOfC qual scope s.heap.objs.size f cdv)) → sp vs H Q E →
      ∃ t, PSs (cxH CX0 P w K mg base N qual scope f cdv A outer s H E p) body t ∧ t ⟨fun _ H' => Q .non H', Q, fun _ _ => False, fun _ _ => False⟩ (start N vs) H) : ∃ fd, FnP P w K mg base (k + 1) f fd ps sp ∧ Binds K fd ps [] := by
  obtain ⟨fd, F⟩ := F
  have B := F.bindsN hb
  obtain ⟨oc, od, dV, kV, doc, pm, an, cdv, ct, osl, rfl, lk, hcd, hD, hK⟩ := F.ex
  refine ⟨_, ⟨len, fun p A outer s H args us vs Q E pin room env0 bd rel hsp => ?_⟩, B⟩
  have stays : ∀ b o, base.get? b = some o → s.heap.get? b = some o := fun b o e => (env0.bs b o e).1
  have inH := env0.mod.kin.keeps stays
  refine codeAny_call_function room.depth (inH _ _ lk) rfl S.co S.gen rfl
    (PySem.W.codeRec_of inH hcd) (bd _ _ _ _ ?_)
  refine wpAny_newFunctionEnv_cells S.kind ?_ ?_
  · rintro ⟨n, v⟩ hy
    rcases S.par n (List.of_mem_zip hy).1 with q | q
    · exact Or.inl q
    · exact Or.inr ⟨q, PySem.W.cellsFrom_some _ _ _ (Or.inl q)⟩
  · intro env he s1 x1
    subst he
    refine ⟨(env0.mod.nolimit.keeps stays).keeps x1.toInCall.keep, codeAny_func ?_⟩
    obtain ⟨t, ht, hq⟩ := hbody cdv A outer s H vs Q E p (room.deeper _) hsp
    have J0 := inv_startH (CX := CX0) (E := E) S pin env0 (len _ _ _ _ hsp) rel x1
    refine wpAny_mono (ht.run [] s1 _ H _ J0 hq) (fun fl s' hs => ?_) (fun _ _ z => z)
    cases fl with
    | brk => exact hs.elim fun _ q => q.elim fun _ q => q.2.elim
    | cont => exact hs.elim fun _ q => q.elim fun _ q => q.2.elim
    | ret u =>
      obtain ⟨v, σ', H', J, rv, q⟩ := hs
      exact (⟨v, H', J.os, J.bare, J.base, J.hok, rv, q⟩ : CE outer P w H s Q u s')
    | next =>
      obtain ⟨σ', H', J, q⟩ := hs
      exact (⟨V.non, H', J.os, J.bare, J.base, J.hok, rfl, q⟩ : CE outer P w H s Q Value.none s')
end
section
variable {X : Cx} {k : Nat} {f : Addr} {fd : FuncData} {ps : List Str} {sp : Sp} {E : XK} {x : Str} {q pos : Pos} {e : Expr} {es : List Expr} {t : TA}
/-- f(e, ..) in an except suite -/
theorem pe_callP (F : FnP X.prog X.w X.K X.mg X.base k f fd ps sp) (hr : RoomH k X.A) {p : Addr × Obj} (hp : p ∈ X.pn) (hg : Gl X x) (hm : X.mg x = some (.ref f)) (hk : PySem.W.keepIn X.K (.ref f) = true) (hb : Binds X.K fd ps [])
    (ha : PA X (e :: es) t) (hdb : (x == ("__debug__" : Str)) = false := by decide) (he : starEach (e :: es) X.env = (false, eval e X.env) :: starEach es X.env := by rfl) (hpl : (backTo pos (starEach es X.env)).any (·.1) = false := by rfl) :
    PE X (.Call (.Name x q) (e :: es) [] pos) (tCall sp [] E t) := by
  constructor
  intro pins s σ H Q I h
  refine wpAny_Call_Name_kw (ld_glob I hg hm ?_ hdb)
  refine PySem.W.callWith_K (h₀ := X.base) I.ok.mod.kin hk (thn (ha.run pos pins s σ H _ I h) ?_) he hpl
  rintro us s1 ⟨vs, H1, I1, r, h1⟩
  refine ⟨I1.kIn, ?_⟩
  rw [List.append_nil] at h1
  have b := hb s1 us I1.kIn (by rw [List.append_nil, ← r.length]; exact F.1 _ _ _ _ h1)
  rw [List.append_nil] at b
  obtain ⟨z1, z2, z3, z4, z5⟩ := I1.pin p (List.mem_append_left _ hp)
  have pin : PinOk X.stack H1 s1 p := ⟨z1, z2, fun m => by
    rcases List.mem_cons.mp (I1.stkSub p.1 m) with y | y
    · exact z3 y
    · exact z4 y, z5⟩
  refine wpAny_call (codeAny_mono (F.2 p X.A X.stack s1 H1 ⟨us, []⟩ us vs Q E pin hr I1.env0 b r h1) ?_)
  intro r s' hq
  cases r with
  | error e => exact hq.elim
  | ok fl =>
    cases fl with
    | ret u => exact I1.after hq
    | next => exact hq.elim
    | brk => exact hq.elim
    | cont => exact hq.elim
/-- f(e, ..) in a try body, f may raise -/
theorem pe_callT {CX : CXT} {E : L2.St → XK} (F : FD X.prog X.w X.K X.mg X.base CX k f ps sp) (hr : Room k X.A) (hg : Gl X x) (hm : X.mg x = some (.ref f)) (hx : ∀ σ, PassesAt CX X σ (E σ))
    (ha : PA X (e :: es) t) (hdb : (x == ("__debug__" : Str)) = false := by decide) (he : starEach (e :: es) X.env = (false, eval e X.env) :: starEach es X.env := by rfl) (hpl : (backTo pos (starEach es X.env)).any (·.1) = false := by rfl) :
    PE X (.Call (.Name x q) (e :: es) [] pos) (L2.tCallS sp E t) := by
  constructor
  intro pins s σ H Q I h
  obtain ⟨fd, F1, b⟩ := F.ex
  exact (L2.pe_callS F1 hr hg hm F.kp b hx ha hdb he hpl).run pins s σ H Q I h
end
theorem hu64H {A : Around} {k : Nat} (hr : RoomH k A) : A.units + 64 < cLine := by have := hr.un; omega
theorem x_callS {sp : Sp} {E : L2.St → XK} {t : TA} {σ : L2.St} {H : Hp} {Q : VK} (h : t σ H fun vs H1 => sp vs H1 Q (E σ)) : L2.tCallS sp E t σ H Q := h
theorem mt_joinE {X : Cx} {K : PySem.W.Frag} (hK : X.K = K) : MtR X "str.join" (rJoin K) := by
  subst hK
  exact mt_joinU
/-- o.m(e, ..), m a method of a built-in type, K told -/
theorem pe_bmE {X : Cx} {K : PySem.W.Frag} {T id : String} {name : Str} {o e : Expr} {es : List Expr} {to : TE} {t : TA} {r : V → List V → Hp → VK → Prop} {apos cpos : Pos} (hK : X.K = K) (pa : PlainAttrs T) (slot : Slot T name id) (hty : typeOf (.builtin id) = pure (.type "method_descriptor")) (hm : MtR X id r) (ho : PE X o to) (ha : PA X (e :: es) t) (hbase : attributeBase o name X.env (eval o X.env) = eval o X.env := by rfl) (hfew : ((backTo cpos (starEach (e :: es) X.env)).all (fun x => !x.1) && (backToKw cpos (keywordEach [] X.env)).all (fun x => x.1.isSome) && decide ((e :: es).length + ([] : List Keyword).length + (if ([] : List Keyword).isEmpty then 0 else 1) < 30)) = true := by rfl) (hline : (apos.endLine == cpos.line) = true := by rfl) (hs : starEach (e :: es) X.env = (false, eval e X.env) :: starEach es X.env := by rfl) (hplain : (backTo cpos (starEach es X.env)).any (·.1) = false := by rfl) : PE X (.Call (.Attribute o name apos) (e :: es) [] cpos) (tBM K T r to t) := by
  subst hK
  exact pe_bm pa slot hty hm ho ha hbase hfew hline hs hplain
end U

set_option Elab.async false
set_option linter.all false
set_option maxRecDepth 100000
set_option maxHeartbeats 8000000
namespace U
open PySem PySem.Spec PyProof.Rows L2 ClX
-- the slots, written out
local macro_rules | `(tactic| walk_at "st") => `(tactic| (refine x_start (by simp only [L2.start, List.map_cons, List.map_nil, List.length_cons, List.length_nil, List.replicate, Nat.reduceAdd, Nat.reduceSub, List.cons_append, List.nil_append, List.append_nil] <;> exact rfl) ?_; (try dsimp only [cxOf, Cx.nox, Cx.wish])))
-- H a = some o
local macro_rules | `(tactic| walk_at "hp") => `(tactic| first
  | with_reducible assumption
  | exact upd_same
  | ((with_reducible refine Ch.get0 (by assumption) ?_); walk_at "hp")
  | ((with_reducible refine Ch.get1 (by assumption) ?_ ?_); rotate_left 1; (walk_at "ne"); walk_at "hp")
  | ((with_reducible refine hp_up (by assumption) ?_); walk_at "hp"))
local macro_rules | `(tactic| walk_at "ne") => `(tactic| first
  | with_reducible assumption
  | ((with_reducible refine Ne.symm ?_); with_reducible assumption)
  | (refine ne_of_none ?_ (by assumption); walk_at "hp")
  | (refine Ne.symm (ne_of_none ?_ (by assumption)); walk_at "hp"))
local macro_rules | `(tactic| walk_at "sqL") => `(tactic| first
  | with_reducible assumption
  | (refine SqL.of ?_; walk_at "hp")
  | (refine Ch.sqL (by assumption) ?_ ?_; rotate_left 1; (first | exact List.not_mem_nil | (rw [List.mem_singleton]; walk_at "ne")); walk_at "sqL"))
local macro_rules | `(tactic| walk_at "sqT") => `(tactic| first
  | with_reducible assumption
  | (refine SqT.of ?_; walk_at "hp")
  | (refine Ch.sqT (by assumption) ?_; walk_at "sqT"))
-- an arithmetic side condition
local macro_rules | `(tactic| walk_at "ar") => `(tactic| first | with_reducible assumption | decide | omega | (focus (intro e; cases e; done)) | ((simp only [List.length_cons, List.length_nil]); omega))
-- one step of a reading
local macro_rules | `(tactic| walk_at "rd1") => `(tactic| first
  | with_reducible refine x_var rfl ?_
  | with_reducible refine x_c ?_
  | with_reducible refine x_seq ?_
  | with_reducible refine x_op ?_
  | with_reducible refine x_un ?_
  | with_reducible refine x_cons ?_
  | with_reducible refine x_nil ?_
  | with_reducible refine x_next ?_
  | with_reducible refine x_asg ?_
  | with_reducible refine x_name0 ?_
  | with_reducible refine x_name1 ?_
  | with_reducible refine x_name2 ?_
  | with_reducible refine x_name3 ?_
  | with_reducible refine x_name4 ?_
  | with_reducible refine x_name5 ?_
  | with_reducible refine x_name6 ?_
  | with_reducible refine x_name7 ?_
  | with_reducible refine x_name8 ?_
  | with_reducible refine x_name9 ?_
  | with_reducible refine x_name10 ?_
  | with_reducible refine x_name11 ?_
  | with_reducible refine x_name12 ?_
  | with_reducible refine x_name13 ?_
  | with_reducible refine x_name14 ?_
  | with_reducible refine x_name15 ?_
  | with_reducible refine x_name16 ?_
  | with_reducible refine x_name17 ?_
  | with_reducible refine x_name18 ?_
  | with_reducible refine x_name19 ?_
  | with_reducible refine x_name20 ?_
  | with_reducible refine x_name21 ?_
  | with_reducible refine x_aug0 ?_
  | with_reducible refine x_aug1 ?_
  | with_reducible refine x_aug2 ?_
  | with_reducible refine x_aug3 ?_
  | with_reducible refine x_aug4 ?_
  | with_reducible refine x_aug5 ?_
  | with_reducible refine x_aug6 ?_
  | with_reducible refine x_aug7 ?_
  | with_reducible refine x_aug8 ?_
  | with_reducible refine x_aug9 ?_
  | with_reducible refine x_aug10 ?_
  | with_reducible refine x_aug11 ?_
  | with_reducible refine x_aug12 ?_
  | with_reducible refine x_aug13 ?_
  | with_reducible refine x_aug14 ?_
  | with_reducible refine x_aug15 ?_
  | with_reducible refine x_aug16 ?_
  | with_reducible refine x_aug17 ?_
  | with_reducible refine x_aug18 ?_
  | with_reducible refine x_aug19 ?_
  | with_reducible refine x_aug20 ?_
  | with_reducible refine x_aug21 ?_
  | with_reducible refine x_ret ?_
  | with_reducible refine x_retN ?_
  | with_reducible refine x_drop ?_
  | with_reducible refine x_ifS ?_
  | with_reducible refine x_if ?_
  | with_reducible refine x_test ?_
  | with_reducible refine x_B ?_
  | with_reducible refine x_bl ?_
  | with_reducible refine x_blV ?_
  | with_reducible refine x_exI ?_
  | with_reducible refine x_and ?_
  | with_reducible refine x_or ?_
  | with_reducible refine x_not ?_
  | with_reducible refine x_andV ?_
  | with_reducible refine x_orV ?_
  | with_reducible refine x_notV ?_
  | with_reducible refine x_chain ?_
  | with_reducible refine x_CB ?_
  | with_reducible refine x_BM ?_
  | with_reducible refine x_BM0 ?_
  | with_reducible refine x_sl ?_
  | with_reducible refine x_po0 ?_
  | with_reducible refine x_po1 ?_
  | with_reducible refine x_tup ?_
  | with_reducible refine x_lst ?_
  | with_reducible refine x_gsub ?_
  | (with_reducible refine x_call ?_)
  | with_reducible refine ite_T ?_
  | ((with_reducible refine ite_d ?_ ?_); (walk_at "ar"))
  | ((with_reducible refine ite_dn ?_ ?_); (walk_at "ar"))
  | ((with_reducible refine ite_n ?_ ?_); (walk_at "ar"))
  | ((with_reducible refine ite_nn ?_ ?_); (walk_at "ar"))
  | with_reducible refine ite_F ?_
  | with_reducible refine ite_nT ?_
  | with_reducible refine ite_nF ?_
  | with_reducible refine x_addI ?_
  | with_reducible refine x_sub ?_
  | ((with_reducible refine x_mul ?_ ?_); (case' _ => (first | (exact .inr (by decide)) | (exact .inl (by decide)) | (exact .inr (by omega)) | (exact .inl (by omega)))))
  | ((with_reducible refine x_mod ?_ ?_); (walk_at "ar"))
  | ((with_reducible refine x_div ?_ ?_); (walk_at "ar"))
  | ((with_reducible refine x_pow ?_ ?_); (exact (by decide)))
  | with_reducible refine x_lt ?_
  | with_reducible refine x_le ?_
  | with_reducible refine x_gt ?_
  | with_reducible refine x_ge ?_
  | with_reducible refine x_eqI ?_
  | with_reducible refine x_eqS ?_
  | with_reducible refine x_eqB ?_
  | with_reducible refine x_neI ?_
  | with_reducible refine x_neS ?_
  | with_reducible refine x_isN ?_
  | with_reducible refine x_notN ?_
  | with_reducible refine x_inSg ?_
  | with_reducible refine x_notInSg ?_
  | with_reducible refine x_int ?_
  | with_reducible refine x_neg ?_
  | with_reducible refine x_for ?_
  | with_reducible refine x_iR1 ?_
  | with_reducible refine x_iR2 ?_
  | with_reducible refine x_iL ?_
  | with_reducible refine x_iT ?_
  | with_reducible refine x_iS ?_
  | with_reducible refine x_iSa ?_
  | with_reducible refine x_lc ?_
  | with_reducible refine x_yes ?_
  | with_reducible refine x_spA ?_
  | ((with_reducible refine x_iR1a ?_ ?_); ((constructor <;> walk_at "ar")))
  | ((with_reducible refine x_iR1c ?_ ?_); ((constructor <;> walk_at "ar")))
  | ((with_reducible refine x_iLa (xs := ?xs) ?h1 ?h2); (case h1 => walk_at "sqL"))
  | ((with_reducible refine x_iLc (xs := ?xs) ?h1 ?h2); (case h1 => walk_at "sqL"))
  | ((with_reducible refine x_iTa (xs := ?xs) ?h1 ?h2); (case h1 => walk_at "sqT"))
  | ((with_reducible refine x_iTc (xs := ?xs) ?h1 ?h2); (case h1 => walk_at "sqT"))
  | with_reducible refine x_iSc ?_
  | with_reducible refine x_fld ?_
  | with_reducible refine x_gcons ?_
  | with_reducible refine x_gnil ?_
  | with_reducible refine x_dnew ?_
  | ((with_reducible refine x_gtup (xs := ?xs) ?h1 ?h0 ?h2); (case h1 => walk_at "sqT"); (case h0 => rfl))
  | with_reducible refine x_sfld ?_
  | with_reducible refine x_cvalS ?_
  | with_reducible refine x_dgetS ?_
  | with_reducible refine x_dputS ?_
  | with_reducible refine x_subOS ?_
  | with_reducible refine x_putOS ?_
  | with_reducible refine x_psetS ?_
  | with_reducible refine x_propS ?_
  | with_reducible refine x_methR ?_
  | with_reducible refine x_methK ?_
  | with_reducible refine x_makeR ?_
  | ((with_reducible refine g_ix ?_); first
      | (refine x_ixL0 (xs := ?xs) (v := ?v) ?h1 (by decide) ?h3 ?h4; (case h1 => walk_at "sqL"); (case h3 => rfl))
      | (refine x_ixT0 (xs := ?xs) (v := ?v) ?h1 (by decide) ?h3 ?h4; (case h1 => walk_at "sqT"); (case h3 => rfl)))
  | ((with_reducible refine g_len ?_); first
      | (refine x_lenL (xs := ?xs) ?h1 ?h2; (case h1 => walk_at "sqL"))
      | (refine x_lenT (xs := ?xs) ?h1 ?h2; (case h1 => walk_at "sqT"))
      | (refine x_lenS ?h1 ?h2; (case h1 => walk_at "ar")))
  | ((with_reducible refine g_tyV ?_); first
      | (refine x_tyL (xs := ?xs) ?h1 ?h2; (case h1 => walk_at "sqL"))))
local macro_rules | `(tactic| walk_at "rd") => `(tactic| repeat walk_at "rd1")
local macro_rules | `(tactic| walk_at "rd1") => `(tactic| first
  | with_reducible refine x_tyS ?_
  | with_reducible refine x_sw ?_
  | with_reducible refine x_star ?_)

def sp_check_number : Sp := fun vs H Q E => ∃ n : Int, vs = [.int n] ∧ 0 ≤ n ∧ n ≤ 999 ∧ Q (.int n) H
def sp__law_mixed : Sp := fun vs H Q E => ∃ a b l : Int, vs = [.int a, .int b, .int l] ∧ 0 < l ∧ ∀ d : Int, 0 ≤ d → d < l → Q (.int d) H
/-- the pool at p, its cells at c -/
structure Pl (H : Hp) (p c : Addr) : Prop where
  at_ : ∃ a b d e : Int, H p = some (.lst [.ref c, .int a, .int b, .int d, .int e]) ∧ 0 ≤ a
  cs : ∃ ns : List Int, H c = some (.lst (ns.map V.int)) ∧ ns.length ≤ 63
theorem Pl.ne {H : Hp} {p c : Addr} (h : Pl H p c) : c ≠ p := by
  obtain ⟨⟨a, b, d, e, h1, _⟩, ns, h2, _⟩ := h
  intro z
  rw [z, h1] at h2
  have q := Option.some.inj h2
  injection q with q
  cases ns with
  | nil => cases q
  | cons n ns => 
    rw [List.map_cons] at q
    injection q with q1 q2
    cases q1
theorem Pl.ch {S : List Addr} {H H' : Hp} {p c : Addr} (h : Pl H p c) (k : Ch S H H') (h1 : p ∉ S) (h2 : c ∉ S) : Pl H' p c := by
  obtain ⟨⟨a, b, d, e, h3, h4⟩, ns, h5, h6⟩ := h
  exact ⟨⟨a, b, d, e, k.st _ _ h1 h3, h4⟩, ns, k.st _ _ h2 h5, h6⟩
theorem Pl.ch0 {H H' : Hp} {p c : Addr} (h : Pl H p c) (k : Ch [] H H') : Pl H' p c := h.ch k (by simp) (by simp)
def sp__law_draw : Sp := fun vs H Q E => ∃ (p c : Addr) (l : Int), vs = [.ref p, .int l] ∧ Pl H p c ∧ 0 < l ∧ l < 1073741824 ∧ ∀ (d : Int) H', 0 ≤ d → d < l → Pl H' p c → Ch [p] H H' → Q (.int d) H'
theorem use_draw {H : Hp} {Q : VK} {E : XK} {p c : Addr} {l : Int} (hp : Pl H p c) (h0 : 0 < l) (h1 : l < 1073741824) (q : ∀ (d : Int) H', 0 ≤ d → d < l → Pl H' p c → Ch [p] H H' → Q (.int d) H') : sp__law_draw [.ref p, .int l] H Q E := ⟨p, c, l, rfl, hp, h0, h1, q⟩
theorem use_mixed {H : Hp} {Q : VK} {E : XK} {a b l : Int} (h0 : 0 < l) (q : ∀ (d : Int), 0 ≤ d → d < l → Q (.int d) H) : sp__law_mixed [.int a, .int b, .int l] H Q E := ⟨a, b, l, rfl, h0, q⟩
section
variable {P : Program} {w : World} {K : PySem.W.Frag} {mg : Str → Option Value} {base : Heap}
theorem ok_check_number (T : Txt w K mg)  : FD P w K mg base CX0 1 (He.ga K "check_number") ["number"] sp_check_number := by
  refine FD.mk0 T.f_check_number sc_check_number (fun vs H Q E h => ?_) (fun _ _ _ _ _ _ us hl => match us, hl with | [_], _ => rfl) (fun cdv A outer s H vs Q E hr h => ⟨_, (pss_cons (ps_if (pt_not (pt_chain u_le u_le pe_int (pv 0) (pe_gc (by rfl) T.v_GREATEST))) pss_never pss_nil)
  (pss_one (ps_ret (pv 0)))), ?_⟩)
  · obtain ⟨n, rfl, _⟩ := h
    rfl
  · obtain ⟨n, rfl, h0, h1, k⟩ := h
    walk_at "st"
    walk_at "rd"
    exact k
theorem ok__law_mixed (T : Txt w K mg)  : FD P w K mg base CX0 1 (He.ga K "_law_mixed") ["cell", "turn", "limit"] sp__law_mixed := by
  refine FD.mk0 T.f__law_mixed sc__law_mixed (fun vs H Q E h => ?_) (fun _ _ _ _ _ _ us hl => match us, hl with | [_, _, _], _ => rfl) (fun cdv A outer s H vs Q E hr h => ⟨_, (pss_cons (ps_set (i := 3) sc__law_mixed.nd rfl (.inl rfl) (pe_op u_mod (pe_callTy c_int (by rfl) T.n_int bb_int (pa_cons (pe_op u_add (pe_op u_add (pe_op u_mul (pv 0) pe_int) (pe_op u_mul (pv 1) pe_int)) pe_int) pa_nil)) pe_int))
  (pss_cons (ps_set (i := 4) sc__law_mixed.nd rfl (.inl rfl) (pe_op u_mod (pe_callTy c_int (by rfl) T.n_int bb_int (pa_cons (pe_op u_add (pe_op u_add (pe_op u_mul (pv 3) pe_int) (pe_op u_mul (pv 0) pe_int)) (pe_op u_mul (pv 1) pe_int)) pa_nil)) pe_int))
  (pss_cons (ps_set (i := 5) sc__law_mixed.nd rfl (.inl rfl) (pe_op u_mod (pe_callTy c_int (by rfl) T.n_int bb_int (pa_cons (pe_op u_add (pe_op u_mul (pv 4) pe_int) (pe_op u_div (pv 3) pe_int)) pa_nil)) pe_int))
  (pss_one (ps_ret (pe_op u_mod (pe_callTy c_int (by rfl) T.n_int bb_int (pa_cons (pv 5) pa_nil)) (pv 2))))))), ?_⟩)
  · obtain ⟨a, b, l, rfl, _⟩ := h
    rfl
  · obtain ⟨a, b, l, rfl, h0, k⟩ := h
    walk_at "st"
    walk_at "rd"
    exact k _ (Int.emod_nonneg _ (by omega)) (Int.emod_lt_of_pos _ h0)
theorem ok__law_draw (T : Txt w K mg)  : FD P w K mg base CX0 2 (He.ga K "_law_draw") ["pool", "limit"] sp__law_draw := by
  refine FD.mk0 T.f__law_draw sc__law_draw (fun vs H Q E h => ?_) (fun _ _ _ _ _ _ us hl => match us, hl with | [_, _], _ => rfl) (fun cdv A outer s H vs Q E hr h => ⟨_, (pss_cons (ps_if (pt_cmpR u_gt (pe_ix ix_seq (pv 0) pe_int (by intro _ _; rfl)) pe_int (nomark _)) (pss_cons (ps_set (i := 2) sc__law_draw.nd rfl (.inl rfl) (pe_op u_mod (pe_callTy c_int (by rfl) T.n_int bb_int (pa_cons (pe_ix ix_seq (pv 0) pe_int (by intro _ _; rfl)) pa_nil)) (pv 1)))
  (pss_cons (ps_asg (pe_op u_div (pe_ix ix_seq (pv 0) pe_int (by intro _ _; rfl)) (pv 1)) (pg_sub (pv 0) pe_int set_list))
  (pss_one (ps_ret (pv 2))))) pss_nil)
  (pss_cons (ps_if (pt_cmpR u_gt (pe_ix ix_seq (pv 0) pe_int (by intro _ _; rfl)) pe_int (nomark _)) (pss_cons (ps_asg (pe_op u_sub (pe_ix ix_seq (pv 0) pe_int (by intro _ _; rfl)) pe_int) (pg_sub (pv 0) pe_int set_list))
  (pss_one (ps_ret (pe_callD (ok__law_mixed T) hr (by first | decide | omega) (by rfl) T.g__law_mixed pass0 (pa_cons (pe_ix ix_seq (pv 0) pe_int (by intro _ _; rfl)) (pa_cons (pe_ix ix_seq (pv 0) pe_int (by intro _ _; rfl)) (pa_cons (pv 1) pa_nil))))))) pss_nil)
  (pss_cons (ps_if (pt_cmpR u_ge (pe_ix ix_seq (pv 0) pe_int (by intro _ _; rfl)) (pe_callB c_len (by rfl) T.n_len bb_len (pa_cons (pe_ix ix_seq (pv 0) pe_int (by intro _ _; rfl)) pa_nil)) (nomark _)) (pss_one (ps_ret pe_int)) pss_nil)
  (pss_cons (ps_set (i := 3) sc__law_draw.nd rfl (.inl rfl) (pe_ix ix_seq (pe_ix ix_seq (pv 0) pe_int (by intro _ _; rfl)) (pe_ix ix_seq (pv 0) pe_int (by intro _ _; rfl)) (by intro _ _; rfl)))
  (pss_cons (ps_asg (pe_op u_add (pe_ix ix_seq (pv 0) pe_int (by intro _ _; rfl)) pe_int) (pg_sub (pv 0) pe_int set_list))
  (pss_cons (ps_if (pt_cmpR u_lt (pv 3) pe_int (nomark _)) (pss_one (ps_set (i := 3) sc__law_draw.nd rfl (.inl rfl) (pe_op u_sub (pe_un un_neg pe_int) (pv 3)))) pss_nil)
  (pss_cons (ps_if (pt_cmpR u_ge (pv 3) (pe_op u_pow pe_int pe_int) (nomark _)) (pss_cons (ps_asg (pe_op u_div (pv 3) (pv 1)) (pg_sub (pv 0) pe_int set_list))
  (pss_one (ps_ret (pe_op u_mod (pe_callTy c_int (by rfl) T.n_int bb_int (pa_cons (pv 3) pa_nil)) (pv 1))))) pss_nil)
  (pss_cons (ps_asg (pv 3) (pg_sub (pv 0) pe_int set_list))
  (pss_cons (ps_asg pe_int (pg_sub (pv 0) pe_int set_list))
  (pss_one (ps_ret (pe_callD (ok__law_mixed T) hr (by first | decide | omega) (by rfl) T.g__law_mixed pass0 (pa_cons (pv 3) (pa_cons pe_int (pa_cons (pv 1) pa_nil))))))))))))))), ?_⟩)
  · obtain ⟨p, c, l, rfl, _⟩ := h
    rfl
  · obtain ⟨p, c, l, rfl, hp, h0, h1, k⟩ := h
    obtain ⟨⟨a, b, d, e, h2, h3⟩, ns, h4, h5⟩ := id hp
    have ncp := hp.ne
    walk_at "st"
    walk_at "rd"
    have lpos : ∀ x : Int, 0 ≤ x % l ∧ x % l < l := fun x => ⟨Int.emod_nonneg _ (by omega), Int.emod_lt_of_pos _ h0⟩
    refine ite_by (fun hb => ?_) (fun hb => ?_)
    · walk_at "rd"
      refine x_set2 h2 fun H1 e1 c1 => ?_
      walk_at "rd"
      exact k _ H1 (lpos _).1 (lpos _).2 ⟨⟨_, _, _, _, e1, h3⟩, ns, c1.get1 h4 ncp, h5⟩ c1
    walk_at "rd"
    refine ite_by (fun he => ?_) (fun he => ?_)
    · walk_at "rd"
      refine x_set4 h2 fun H1 e1 c1 => ?_
      walk_at "rd"
      exact use_mixed h0 fun d' d0 d1 => k d' H1 d0 d1 ⟨⟨_, _, _, _, e1, h3⟩, ns, c1.get1 h4 ncp, h5⟩ c1
    walk_at "rd"
    refine ite_by (fun hl => ?_) (fun hl => ?_)
    · walk_at "rd"
      exact k 0 H (Int.le_refl 0) h0 hp (Ch.refl H).any
    rw [List.length_map] at hl
    have ha : a.toNat < ns.length := by omega
    have hx : (ns.map V.int)[a.toNat]? = some (V.int (ns[a.toNat])) := by rw [List.getElem?_map, List.getElem?_eq_getElem ha]; rfl
    generalize ns[a.toNat] = n at hx
    walk_at "rd"
    refine x_ixL0 (SqL.of h4) h3 hx ?_
    walk_at "rd"
    refine x_set1 h2 fun H1 e1 c1 => ?_
    have h41 := c1.get1 h4 ncp
    -- the rest, whatever the number is
    have rest : ∀ n : Int, tSeq (tIfS (tTest (tOp rGeI (tVar 3) (tOp rPowI (tC (.int 10)) (tC (.int 18))))) (tSeq (tAsg (tOp rDivI (tVar 3) (tVar 1)) (gSub (tVar 0) (tC (.int 2)) rSetL)) (tRet (tOp rModI (tCB rIntC (tCons (tVar 3) tNil)) (tVar 1)))) tNext)
        (tSeq (tAsg (tVar 3) (gSub (tVar 0) (tC (.int 3)) rSetL)) (tSeq (tAsg (tC (.int 7)) (gSub (tVar 0) (tC (.int 4)) rSetL)) (tRet (tCall sp__law_mixed [] E0 (tCons (tVar 3) (tCons (tC (.int 7)) (tCons (tVar 1) tNil)))))))
        ⟨fun _ H' => Q .non H', Q, fun _ _ => False, fun _ _ => False⟩ [some (.ref p), some (.int l), none, some (.int n)] H1 := fun n => by
      walk_at "rd"
      refine ite_by (fun hn => ?_) (fun hn => ?_)
      · walk_at "rd"
        refine x_set2 e1 fun H2 e2 c2 => ?_
        walk_at "rd"
        exact k _ H2 (lpos _).1 (lpos _).2 ⟨⟨_, _, _, _, e2, by omega⟩, ns, c2.get1 h41 ncp, h5⟩ (c1.seq c2)
      · walk_at "rd"
        refine x_set3 e1 fun H2 e2 c2 => ?_
        walk_at "rd"
        refine x_set4 e2 fun H3 e3 c3 => ?_
        walk_at "rd"
        exact use_mixed h0 fun d' d0 d1 => k d' H3 d0 d1 ⟨⟨_, _, _, _, e3, by omega⟩, ns, c3.get1 (c2.get1 h41 ncp) ncp, h5⟩ ((c1.seq c2).seq c3)
    walk_at "rd"
    refine ite_by (fun hn => ?_) (fun hn => ?_)
    · repeat (first | with_reducible exact rest _ | walk_at "rd1")
    · repeat (first | with_reducible exact rest _ | walk_at "rd1")
end
def sp_is_name : Sp := fun vs H Q E => ∃ z : Str, vs = [.str z] ∧ z.length ≤ sizeLine ∧ Q (.bl (okName z.cps.toList)) H
def sp_check_name : Sp := fun vs H Q E => ∃ z : Str, vs = [.str z] ∧ IsName z ∧ Q (.str z) H
def sp__law_fresh : Sp := fun vs H Q E => ∃ (p c u : Addr) (us : List Str), vs = [.ref p, .ref u] ∧ Pl H p c ∧ H u = some (.lst (us.map V.str)) ∧ u ≠ p ∧ us.length ≤ 35 ∧ ∀ z H', IsName z → Pl H' p c → Ch [p] H H' → Q (.str z) H'
def sp__law_sorted : Sp := fun vs H Q E => ∃ (a : Addr) (xs : List Str), vs = [.ref a] ∧ H a = some (.lst (xs.map V.str)) ∧ xs.length < 1000 ∧ ∀ p H', H p = none → H' p = some (.lst ((isort xs).map V.str)) → Ch [] H H' → Q (.ref p) H'
def sp__law_once : Sp := fun vs H Q E => ∃ (a : Addr) (xs : List Str), vs = [.ref a] ∧ H a = some (.lst (xs.map V.str)) ∧ xs.length < 1000 ∧ ∀ p H', H' p = some (.lst ((isort (dedup xs)).map V.str)) → Ch [] H H' → Q (.ref p) H'
def sp__law_is_name : Sp := fun vs H Q E => ∃ z : Str, vs = [.str z] ∧ z.length ≤ sizeLine ∧ ∀ H', Ch [] H H' → Q (.bl (okName z.cps.toList)) H'
def sp__law_name : Sp := fun vs H Q E => ∃ (p c : Addr), vs = [.ref p] ∧ Pl H p c ∧ ∀ z H', IsName z → Pl H' p c → Ch [p] H H' → Q (.str z) H'
theorem use_name {H : Hp} {Q : VK} {E : XK} {p c : Addr} (hp : Pl H p c) (q : ∀ z H', IsName z → Pl H' p c → Ch [p] H H' → Q (.str z) H') : sp__law_name [.ref p] H Q E := ⟨p, c, rfl, hp, q⟩
theorem use_fresh {H : Hp} {Q : VK} {E : XK} {p c u : Addr} {us : List Str} (hp : Pl H p c) (hu : H u = some (.lst (us.map V.str))) (n : u ≠ p) (hl : us.length ≤ 35) (q : ∀ z H', IsName z → Pl H' p c → Ch [p] H H' → Q (.str z) H') : sp__law_fresh [.ref p, .ref u] H Q E := ⟨p, c, u, us, rfl, hp, hu, n, hl, q⟩
section
variable {P : Program} {w : World} {K : PySem.W.Frag} {mg : Str → Option Value} {base : Heap}
theorem ok_is_name (T : Txt w K mg)  : FD P w K mg base CX0 1 (He.ga K "is_name") ["text"] sp_is_name := by
  refine FD.mk0 T.f_is_name sc_is_name (fun vs H Q E h => ?_) (fun _ _ _ _ _ _ us hl => match us, hl with | [_], _ => rfl) (fun cdv A outer s H vs Q E hr h => ⟨_, (pss_cons (ps_if (PW.pt (pw_or (pt_cmpR (u_eq (hu64 hr)) (pv 0) pe_str (nomark _)) (pw_or (pt_cmpR u_gt (pe_callB c_len (by rfl) T.n_len bb_len (pa_cons (pv 0) pa_nil)) (pe_gc (by rfl) T.v_LONGEST) (nomark _)) (pw_or1 (pt_cmpR u_notin (pe_ix ix_seq (pv 0) pe_int (by intro _ _; rfl)) (pe_gc (by rfl) T.v_LETTERS) (by rfl)))))) (pss_one (ps_ret pe_bl)) pss_nil)
  (pss_cons (ps_for PassesOwn.never rfl (pi_str (pv 0)) (pg_name (i := 1) sc_is_name.nd rfl (.inl rfl)) (pss_one (ps_if (PW.pt (pw_and (pt_cmpR u_notin (pv 1) (pe_gc (by rfl) T.v_LETTERS) (by rfl)) (pw_and1 (pt_cmpR u_notin (pv 1) (pe_gc (by rfl) T.v_DIGITS) (by rfl))))) (pss_one (ps_ret pe_bl)) pss_nil)))
  (pss_one (ps_ret pe_bl)))), ?_⟩)
  · obtain ⟨z, rfl, _⟩ := h
    rfl
  · obtain ⟨z, rfl, hz, k⟩ := h
    have kk : ∀ b : Bool, b = okName z.cps.toList → Q (.bl b) H := fun b e => e ▸ k
    walk_at "st"
    walk_at "rd"
    refine ite_by (fun e => ?_) (fun e => ?_)
    · walk_at "rd"
      exact kk _ (by rw [e]; rfl)
    walk_at "rd"
    obtain ⟨c, cs, ec⟩ : ∃ c cs, z.cps.toList = c :: cs := by
      cases q : z.cps.toList with
      | nil => exact absurd (str_ext (b := (Str.ofString "" : Str)) (by rw [q]; rfl)) e
      | cons c cs => exact ⟨c, cs, rfl⟩
    refine ite_by (fun h1 => ?_) (fun h1 => ?_)
    · walk_at "rd"
      refine kk _ ?_
      rw [str_len, ec] at h1
      rw [ec]
      rw [okName_cons, decide_eq_false (by omega)]
      rfl
    walk_at "rd"
    refine x_ixS (k := 0) hz rfl (by rw [ec]; rfl) ?_
    walk_at "rd"
    rw [str_len, ec] at h1
    refine ite_nby (fun h2 => ?_) (fun h2 => ?_)
    rotate_left 1
    · walk_at "rd"
      refine kk _ ?_
      rw [ec, okName_cons, show isLow c = false from by
        cases q : isLow c with
        | false => rfl
        | true => exact absurd (mem_low.mpr q) h2]
      rw [Bool.false_and, Bool.and_false]
    have h2' : isLow c = true := mem_low.mp h2
    walk_at "rd"
    refine goS z (fun i σ H' => H' = H ∧ ∃ o, σ = [some (.str z), o] ∧ ∀ d ∈ z.cps.toList.take i, isAln d = true) ⟨rfl, _, rfl, fun d hd => by simp at hd⟩ (fun i d σ H' hd hI => ?_) (fun σ H' hI => ?_)
    · obtain ⟨rfl, o, rfl, ha⟩ := hI
      have hdm : d ∈ z.cps.toList := List.mem_of_getElem? hd
      walk_at "rd"
      have bad : isAln d = false → false = okName z.cps.toList := fun q => by
        rw [ec] at hdm ⊢
        rw [okName_cons, show (c :: cs).all isAln = false from by
          cases q2 : (c :: cs).all isAln with
          | false => rfl
          | true =>
            have := List.all_eq_true.mp q2 d hdm
            rw [q] at this
            cases this]
        rw [Bool.and_false, Bool.and_false]
      have good : isAln d = true → ∀ e ∈ z.cps.toList.take (i + 1), isAln e = true := fun q e he => by
        rw [List.take_add_one, hd] at he
        rcases List.mem_append.mp he with q1 | q1
        · exact ha e q1
        · have : e = d := by simpa using q1
          rw [this]
          exact q
      refine ite_nby (fun h3 => ?_) (fun h3 => ?_)
      · walk_at "rd"
        exact ⟨rfl, _, rfl, good (low_aln (mem_low.mp h3))⟩
      · walk_at "rd"
        refine ite_nby (fun h4 => ?_) (fun h4 => ?_)
        · walk_at "rd"
          refine ⟨rfl, _, rfl, good ?_⟩
          unfold isAln
          rw [Bool.or_eq_true, decide_eq_true_eq]
          exact .inr (mem_dig.mp h4)
        · walk_at "rd"
          refine kk _ (bad ?_)
          cases q : isAln d with
          | false => rfl
          | true =>
            unfold isAln at q
            rw [Bool.or_eq_true, decide_eq_true_eq] at q
            rcases q with q | q
            · exact absurd (mem_low.mpr q) h3
            · exact absurd (mem_dig.mpr q) h4
    · obtain ⟨rfl, o, rfl, ha⟩ := hI
      walk_at "rd"
      refine kk _ ?_
      rw [List.take_length] at ha
      rw [ec] at ha ⊢
      rw [okName_cons, h2', List.all_eq_true.mpr ha, decide_eq_true (by omega)]
      rfl
theorem ok_check_name (T : Txt w K mg)  : FD P w K mg base CX0 2 (He.ga K "check_name") ["name"] sp_check_name := by
  refine FD.mk0 T.f_check_name sc_check_name (fun vs H Q E h => ?_) (fun _ _ _ _ _ _ us hl => match us, hl with | [_], _ => rfl) (fun cdv A outer s H vs Q E hr h => ⟨_, (pss_cons (ps_if (pt_not (pt_val (pe_callD (ok_is_name T) hr (by first | decide | omega) (by rfl) T.g_is_name pass0 (pa_cons (pv 0) pa_nil)))) pss_never pss_nil)
  (pss_one (ps_ret (pv 0)))), ?_⟩)
  · obtain ⟨z, rfl, _⟩ := h
    rfl
  · obtain ⟨z, rfl, hz, k⟩ := h
    walk_at "st"
    walk_at "rd"
    refine ⟨z, rfl, sz_of (by have := hz.length; omega), ?_⟩
    rw [show okName z.cps.toList = true from hz]
    walk_at "rd"
    exact k
theorem ok__law_name (T : Txt w K mg)  : FD P w K mg base CX0 3 (He.ga K "_law_name") ["pool"] sp__law_name := by
  refine FD.mk0 T.f__law_name sc__law_name (fun vs H Q E h => ?_) (fun _ _ _ _ _ _ us hl => match us, hl with | [_], _ => rfl) (fun cdv A outer s H vs Q E hr h => ⟨_, (pss_cons (ps_set (i := 1) sc__law_name.nd rfl (.inl rfl) pe_str)
  (pss_cons (ps_set (i := 2) sc__law_name.nd rfl (.inl rfl) (pe_ix ix_seq (pv 1) (pe_callD (ok__law_draw T) hr (by first | decide | omega) (by rfl) T.g__law_draw pass0 (pa_cons (pv 0) (pa_cons pe_int pa_nil))) (by intro _ _; rfl)))
  (pss_cons (ps_for PassesOwn.never rfl (pi_range1 (by rfl) T.n_range (pa_cons (pe_callD (ok__law_draw T) hr (by first | decide | omega) (by rfl) T.g__law_draw pass0 (pa_cons (pv 0) (pa_cons (pe_ix ix_seq (pe_lst (pa_cons pe_int (pa_cons pe_int (pa_cons pe_int pa_nil)))) (pe_callD (ok__law_draw T) hr (by first | decide | omega) (by rfl) T.g__law_draw pass0 (pa_cons (pv 0) (pa_cons pe_int pa_nil))) (by intro _ _; rfl)) pa_nil))) pa_nil)) (pg_name (i := 3) sc__law_name.nd rfl (.inl rfl)) (pss_one (ps_set (i := 2) sc__law_name.nd rfl (.inl rfl) (pe_op u_add (pv 2) (pe_ix ix_seq (pv 1) (pe_callD (ok__law_draw T) hr (by first | decide | omega) (by rfl) T.g__law_draw pass0 (pa_cons (pv 0) (pa_cons pe_int pa_nil))) (by intro _ _; rfl))))))
  (pss_one (ps_ret (pv 2)))))), ?_⟩)
  · obtain ⟨p, c, rfl, _⟩ := h
    rfl
  · obtain ⟨p, c, rfl, hp, k⟩ := h
    walk_at "st"
    walk_at "rd"
    refine use_draw hp (by decide) (by decide) fun d H1 d0 d1 hp c1 => ?_
    obtain ⟨e, he, hl⟩ := low_at (k := d.toNat) (by omega)
    refine x_ixS (k := d.toNat) (by decide +kernel) (by omega) he ?_
    walk_at "rd"
    refine nL fun q H2 hq h2 c2 => ?_
    walk_at "rd"
    refine use_draw (hp.ch0 c2) (by decide) (by decide) fun b H3 b0 b1 hp3 c3 => ?_
    have h3 := c3.get1 h2 (by
      intro z
      obtain ⟨⟨_, _, _, _, hh, _⟩, _⟩ := hp.ch0 c2
      rw [z, hh] at h2
      simp at h2)
    obtain ⟨m, hm, m0, m1⟩ : ∃ m : Int, [V.int 1, V.int 3, V.int 12][b.toNat]? = some (.int m) ∧ 0 < m ∧ m ≤ 12 := by
      have : b = 0 ∨ b = 1 ∨ b = 2 := by omega
      rcases this with rfl | rfl | rfl
      · exact ⟨1, rfl, by decide, by decide⟩
      · exact ⟨3, rfl, by decide, by decide⟩
      · exact ⟨12, rfl, by decide, by decide⟩
    refine x_ixL (SqL.of h3) (k := b.toNat) (by omega) hm ?_
    walk_at "rd"
    refine use_draw hp3 m0 (by omega) fun n H4 n0 n1 hp4 c4 => ?_
    have cc4 := ((c1.nilR c2).seq c3).seq c4
    walk_at "rd"
    refine goR (fun i σ H' => ∃ z o, σ = [some (.ref p), some (.str sAln), some (.str z), o] ∧ IsName z ∧ z.length = i + 1 ∧ Pl H' p c ∧ Ch [p] H H') ⟨_, _, rfl, isName_one hl, rfl, hp4, cc4⟩ (fun i σ H' hi hI => ?_) (fun σ H' hI => ?_)
    · obtain ⟨z, o, rfl, hz, hzl, hp, cc⟩ := hI
      walk_at "rd"
      refine use_draw hp (by decide) (by decide) fun d H5 d0 d1 hp c5 => ?_
      obtain ⟨x, hx, hxl⟩ := aln_at (k := d.toNat) (by omega)
      refine x_ixS (k := d.toNat) (by decide +kernel) (by omega) hx ?_
      refine x_addS (sz_of ?_) ?_
      · show z.length + 1 ≤ 100000
        omega
      walk_at "rd"
      refine ⟨_, _, rfl, isName_app hz (by omega) hxl, ?_, hp, cc.seq c5⟩
      rw [str_len, app_list, toList_one, List.length_append, ← str_len, hzl]
      rfl
    · obtain ⟨z, o, rfl, hz, hzl, hp, cc⟩ := hI
      walk_at "rd"
      exact k _ _ hz hp cc
theorem ok__law_fresh (T : Txt w K mg)  : FD P w K mg base CX0 4 (He.ga K "_law_fresh") ["pool", "used"] sp__law_fresh := by
  refine FD.mk0 T.f__law_fresh sc__law_fresh (fun vs H Q E h => ?_) (fun _ _ _ _ _ _ us hl => match us, hl with | [_, _], _ => rfl) (fun cdv A outer s H vs Q E hr h => ⟨_, (pss_cons (ps_set (i := 2) sc__law_fresh.nd rfl (.inl rfl) (pe_callD (ok__law_name T) hr (by first | decide | omega) (by rfl) T.g__law_name pass0 (pa_cons (pv 0) pa_nil)))
  (pss_cons (ps_for PassesOwn.never rfl (pi_str pe_str) (pg_name (i := 3) sc__law_fresh.nd rfl (.inl rfl)) (pss_one (ps_if (pt_cmpR u_in (pv 2) (pv 1) (by rfl)) (pss_one (ps_set (i := 2) sc__law_fresh.nd rfl (.inl rfl) (pe_op u_add (pe_slice u_slice (pv 2) po_none (po_some pe_int)) (pv 3)))) pss_nil)))
  (pss_one (ps_ret (pv 2))))), ?_⟩)
  · obtain ⟨p, c, u, us, rfl, _⟩ := h
    rfl
  · obtain ⟨p, c, u, us, rfl, hp, hu, nu, hl, k⟩ := h
    walk_at "st"
    walk_at "rd"
    refine use_name hp fun z H1 hz hp c1 => ?_
    have hu1 := c1.get1 hu nu
    walk_at "rd"
    refine goS sAln (fun i σ H' => H' = H1 ∧ ∃ y o, σ = [some (.ref p), some (.ref u), some (.str y), o] ∧ IsName y) ⟨rfl, _, _, rfl, hz⟩ (fun i x σ H' hx hI => ?_) (fun σ H' hI => ?_)
    · obtain ⟨rfl, y, o, rfl, hy⟩ := hI
      have hxa : isAln x = true := mem_aln.mp (List.mem_of_getElem? hx)
      walk_at "rd"
      refine x_inL (SqL.of hu1) rfl (flat_str us) ?_
      rw [inV_str]
      walk_at "rd"
      refine ite_by (fun h1 => ?_) (fun h1 => ?_)
      · obtain ⟨ny, ly⟩ := isName_take hy (cut11 y)
        walk_at "rd"
        refine x_slS (sz_of (by have := hy.length; omega)) ?_
        walk_at "rd"
        refine x_addS (sz_of (by show (cutS y none (some 11)).length + 1 ≤ 100000; omega)) ?_
        walk_at "rd"
        exact ⟨rfl, _, _, rfl, isName_app ny (by omega) hxa⟩
      · walk_at "rd"
        exact ⟨rfl, _, _, rfl, hy⟩
    · obtain ⟨rfl, y, o, rfl, hy⟩ := hI
      walk_at "rd"
      exact k _ _ hy hp c1
theorem ok__law_sorted (T : Txt w K mg)  : FD P w K mg base CX0 1 (He.ga K "_law_sorted") ["rows"] sp__law_sorted := by
  refine FD.mk0 T.f__law_sorted sc__law_sorted (fun vs H Q E h => ?_) (fun _ _ _ _ _ _ us hl => match us, hl with | [_], _ => rfl) (fun cdv A outer s H vs Q E hr h => ⟨_, (pss_cons (ps_set (i := 1) sc__law_sorted.nd rfl (.inl rfl) (pe_lst pa_nil))
  (pss_cons (ps_for PassesOwn.never rfl (pi_list (pv 0)) (pg_name (i := 2) sc__law_sorted.nd rfl (.inl rfl)) (pss_cons (ps_set (i := 3) sc__law_sorted.nd rfl (.inl rfl) pe_int)
  (pss_cons (ps_while PassesOwn.never (PW.pt (pw_and (pt_cmpR u_lt (pv 3) (pe_callB c_len (by rfl) T.n_len bb_len (pa_cons (pv 1) pa_nil)) (nomark _)) (pw_and1 (pt_cmpR u_ltS (pe_ix ix_seq (pv 1) (pv 3) (by intro _ _; rfl)) (pv 2) (nomark _))))) (pss_one (ps_set (i := 3) sc__law_sorted.nd rfl (.inl rfl) (pe_op u_add (pv 3) pe_int))))
  (pss_one (ps_expr (pe_bm PySem.F.plainAttrs_list PySem.F.slot_list_insert PySem.F.type_list_insert mt_insertU (pv 1) (pa_cons (pv 3) (pa_cons (pv 2) pa_nil))))))))
  (pss_one (ps_ret (pv 1))))), ?_⟩)
  · obtain ⟨a, xs, rfl, _⟩ := h
    rfl
  · obtain ⟨a, xs, rfl, ha, hl, k⟩ := h
    walk_at "st"
    walk_at "rd"
    refine nL fun d H1 hd h1 c1 => ?_
    walk_at "rd"
    have ha1 := c1.get0 ha
    refine goL (xs.map V.str) (fun i σ H' => ∃ o1 o2, σ = [some (.ref a), some (.ref d), o1, o2] ∧ H' d = some (.lst ((isort (xs.take i)).map V.str)) ∧ Ch [] H H') ⟨_, _, rfl, h1, c1⟩ (fun i σ H' hi hI => ?_) (fun i x σ H' hx hI => ?_) (fun σ H' hI => ?_)
    · obtain ⟨_, _, _, _, cc⟩ := hI
      exact SqL.of (cc.get0 ha)
    · obtain ⟨o1, o2, rfl, h2, cc⟩ := hI
      obtain ⟨r, hr', rfl⟩ : ∃ r, xs[i]? = some r ∧ x = V.str r := by
        rw [List.getElem?_map] at hx
        cases q : xs[i]? with
        | none => rw [q] at hx; cases hx
        | some r => rw [q] at hx; exact ⟨r, rfl, (Option.some.inj hx).symm⟩
      have hlen : (isort (xs.take i)).length ≤ xs.length := by
        rw [isort_len, List.length_take]
        exact Nat.min_le_right _ _
      have hsn : isort (xs.take (i + 1)) = sins r (isort (xs.take i)) := by
        rw [List.take_add_one, hr']
        show isort (xs.take i ++ [r]) = _
        unfold isort
        rw [List.foldl_append]
        rfl
      walk_at "rd"
      refine x_while (fun m σ H'' => H'' = H' ∧ ∃ n : Nat, m = (isort (xs.take i)).length - n ∧ n ≤ (isort (xs.take i)).length ∧ σ = [some (.ref a), some (.ref d), some (.str r), some (.int n)] ∧ ∀ y ∈ (isort (xs.take i)).take n, ltS y r = true) _ ⟨rfl, 0, rfl, Nat.zero_le _, rfl, fun y hy => by simp at hy⟩ fun m σ H'' hW => ?_
      obtain ⟨rfl, n, rfl, hn, rfl, hall⟩ := hW
      have fin : (∀ y, (isort (xs.take i))[n]? = some y → ltS y r = false) → tDrop (tBM K "list" rInsert (tVar 1) (tCons (tVar 3) (tCons (tVar 2) tNil))) ⟨fun σ H' => ∃ o1 o2, σ = [some (.ref a), some (.ref d), o1, o2] ∧ H' d = some (.lst ((isort (xs.take (i + 1))).map V.str)) ∧ Ch [] H H', Q, fun σ H' => tRet (tVar 1) ⟨fun _ H' => Q .non H', Q, fun _ _ => False, fun _ _ => False⟩ σ H', fun σ H' => ∃ o1 o2, σ = [some (.ref a), some (.ref d), o1, o2] ∧ H' d = some (.lst ((isort (xs.take (i + 1))).map V.str)) ∧ Ch [] H H'⟩ [some (.ref a), some (.ref d), some (.str r), some (.int n)] H'' := fun hf => by
        obtain ⟨t1, t2⟩ := tw_take hn hall hf
        walk_at "rd"
        refine x_insert (k := n) h2 rfl (by rw [List.length_map]; omega) (by omega) fun H3 h3 c3 => ?_
        walk_at "rd"
        refine ⟨_, _, rfl, ?_, (cc.trans c3).drop hd |>.mono (by simp)⟩
        rw [h3, hsn]
        unfold sins
        rw [t1, t2, List.map_append, List.map_cons, List.map_take, List.map_drop]
      walk_at "rd"
      rw [List.length_map]
      refine ite_by (fun hlt => ?_) (fun hge => ?_)
      · have hn2 : n < (isort (xs.take i)).length := by omega
        obtain ⟨y, hy⟩ : ∃ y, (isort (xs.take i))[n]? = some y := ⟨_, List.getElem?_eq_getElem hn2⟩
        walk_at "rd"
        refine x_ixL (SqL.of h2) (k := n) rfl (by rw [List.getElem?_map, hy]; rfl) ?_
        walk_at "rd"
        refine x_ltS ?_
        refine ⟨_, rfl, ?_⟩
        refine ite_by (fun hl1 => ?_) (fun hl1 => ?_)
        · refine x_whE ?_
          walk_at "rd"
          refine ⟨_, ?_, rfl, n + 1, rfl, hn2, rfl, fun w hw => ?_⟩
          · omega
          · rw [List.take_add_one, hy] at hw
            rcases List.mem_append.mp hw with q | q
            · exact hall w q
            · have e : w = y := by simpa using q
              rw [e]
              exact decide_eq_true hl1
        · exact fin fun y' hy' => by
            rw [hy] at hy'
            cases hy'
            exact decide_eq_false hl1
      · exact fin fun y' hy' => by
          rw [List.getElem?_eq_none (by omega)] at hy'
          cases hy'
    · obtain ⟨o1, o2, rfl, h2, cc⟩ := hI
      walk_at "rd"
      rw [List.length_map, List.take_length] at h2
      exact k d _ hd h2 cc
theorem ok__law_once (T : Txt w K mg)  : FD P w K mg base CX0 2 (He.ga K "_law_once") ["names"] sp__law_once := by
  refine FD.mk0 T.f__law_once sc__law_once (fun vs H Q E h => ?_) (fun _ _ _ _ _ _ us hl => match us, hl with | [_], _ => rfl) (fun cdv A outer s H vs Q E hr h => ⟨_, (pss_cons (ps_set (i := 1) sc__law_once.nd rfl (.inl rfl) (pe_lst pa_nil))
  (pss_cons (ps_for PassesOwn.never rfl (pi_list (pv 0)) (pg_name (i := 2) sc__law_once.nd rfl (.inl rfl)) (pss_one (ps_if (pt_cmpR u_notin (pv 2) (pv 1) (by rfl)) (pss_one (ps_expr (pe_bm PySem.F.plainAttrs_list PySem.F.slot_list_append PySem.F.type_list_append mt_append (pv 1) (pa_cons (pv 2) pa_nil)))) pss_nil)))
  (pss_one (ps_ret (pe_callD (ok__law_sorted T) hr (by first | decide | omega) (by rfl) T.g__law_sorted pass0 (pa_cons (pv 1) pa_nil)))))), ?_⟩)
  · obtain ⟨a, xs, rfl, _⟩ := h
    rfl
  · obtain ⟨a, xs, rfl, ha, hl, k⟩ := h
    walk_at "st"
    walk_at "rd"
    refine nL fun d H1 hd h1 c1 => ?_
    walk_at "rd"
    refine goL (xs.map V.str) (fun i σ H' => ∃ o1, σ = [some (.ref a), some (.ref d), o1] ∧ H' d = some (.lst ((dedup (xs.take i)).map V.str)) ∧ Ch [] H H') ⟨_, rfl, h1, c1⟩ (fun i σ H' hi hI => ?_) (fun i x σ H' hx hI => ?_) (fun σ H' hI => ?_)
    · obtain ⟨_, _, _, cc⟩ := hI
      exact SqL.of (cc.get0 ha)
    · obtain ⟨o1, rfl, h2, cc⟩ := hI
      obtain ⟨r, hr', rfl⟩ : ∃ r, xs[i]? = some r ∧ x = V.str r := by
        rw [List.getElem?_map] at hx
        cases q : xs[i]? with
        | none => rw [q] at hx; cases hx
        | some r => rw [q] at hx; exact ⟨r, rfl, (Option.some.inj hx).symm⟩
      have hlen : (dedup (xs.take i)).length ≤ xs.length := by
        have := dedup_len (xs.take i)
        rw [List.length_take] at this
        omega
      have hsn : dedup (xs.take (i + 1)) = if r ∈ dedup (xs.take i) then dedup (xs.take i) else dedup (xs.take i) ++ [r] := by
        rw [List.take_add_one, hr']
        exact dedup_snoc _ _
      walk_at "rd"
      refine x_notInL (SqL.of h2) rfl (flat_str _) ?_
      rw [inV_str]
      walk_at "rd"
      refine ite_nby (fun hm => ?_) (fun hm => ?_)
      · walk_at "rd"
        refine ⟨_, rfl, ?_, cc⟩
        rw [hsn, if_pos hm]
        exact h2
      · walk_at "rd"
        refine x_append h2 (sz_lt (by rw [List.length_map]; omega)) fun H3 h3 c3 => ?_
        walk_at "rd"
        refine ⟨_, rfl, ?_, (cc.trans c3).drop hd |>.mono (by simp)⟩
        rw [h3, hsn, if_neg hm, List.map_append]
        rfl
    · obtain ⟨o1, rfl, h2, cc⟩ := hI
      rw [List.length_map, List.take_length] at h2
      walk_at "rd"
      refine ⟨d, dedup xs, rfl, h2, by have := dedup_len xs; omega, fun p H2 hp h3 c3 => ?_⟩
      exact k p _ h3 (cc.seq c3)
theorem ok__law_is_name (T : Txt w K mg)  : FD P w K mg base CX0 2 (He.ga K "_law_is_name") ["text"] sp__law_is_name := by
  refine FD.mk0 T.f__law_is_name sc__law_is_name (fun vs H Q E h => ?_) (fun _ _ _ _ _ _ us hl => match us, hl with | [_], _ => rfl) (fun cdv A outer s H vs Q E hr h => ⟨_, (pss_cons (ps_set (i := 1) sc__law_is_name.nd rfl (.inr rfl) pe_str)
  (pss_cons (ps_if (PW.pt (pw_or (pt_cmpR u_lt (pe_callB c_len (by rfl) T.n_len bb_len (pa_cons (pv 0) pa_nil)) pe_int (nomark _)) (pw_or (pt_cmpR u_gt (pe_callB c_len (by rfl) T.n_len bb_len (pa_cons (pv 0) pa_nil)) pe_int (nomark _)) (pw_or1 (pt_cmpR u_notin (pe_ix ix_seq (pv 0) pe_int (by intro _ _; rfl)) (pv 1) (by rfl)))))) (pss_one (ps_ret pe_bl)) pss_nil)
  (pss_one (ps_ret (pe_cmpR (u_eq (hu64 hr)) (pe_callB c_len (by rfl) T.n_len bb_len (pa_cons (pe_lc (own := [("sign", 2)]) rfl sc__law_is_name.nd (pi_str (pv 0)) (blkOk_by (N := N__law_is_name) (sc := defScope s__law_is_name) (by decide +kernel)) (fun _ _ _ _ _ => (pg_name (i := 2) sc__law_is_name.nd rfl (.inl rfl))) (fun _ _ _ _ _ => (pts_one (pt_cmpR (u_notinE (K := K) (by rfl)) (pv 2) (pe_op (u_addE (K := K) (by rfl)) (pv 1) pe_str) (by rfl)))) (fun _ _ _ _ _ => (pv 2))) pa_nil)) pe_int (nomark _)))))), ?_⟩)
  · obtain ⟨z, rfl, _⟩ := h
    rfl
  · obtain ⟨z, rfl, hz, k⟩ := h
    have kk : ∀ (b : Bool) H', b = okName z.cps.toList → Ch [] H H' → Q (.bl b) H' := fun b H' e c => e ▸ k H' c
    walk_at "st"
    walk_at "rd"
    have bad0 : z.length < 1 → false = okName z.cps.toList := fun hl => by
      rw [str_len] at hl
      cases q : z.cps.toList with
      | nil => rfl
      | cons c cs => rw [q] at hl; simp at hl
    refine ite_by (fun h1 => ?_) (fun h1 => ?_)
    · walk_at "rd"
      exact kk _ _ (bad0 (by omega)) (Ch.refl H)
    walk_at "rd"
    obtain ⟨c, cs, ec⟩ : ∃ c cs, z.cps.toList = c :: cs := by
      cases q : z.cps.toList with
      | nil => exfalso; rw [str_len, q] at h1; simp at h1
      | cons c cs => exact ⟨c, cs, rfl⟩
    refine ite_by (fun h2 => ?_) (fun h2 => ?_)
    · walk_at "rd"
      refine kk _ _ ?_ (Ch.refl H)
      rw [str_len, ec] at h2
      rw [ec, okName_cons, decide_eq_false (by omega)]
      rfl
    walk_at "rd"
    refine x_ixS (k := 0) hz rfl (by rw [ec]; rfl) ?_
    walk_at "rd"
    rw [str_len, ec] at h2
    refine ite_nby (fun h3 => ?_) (fun h3 => ?_)
    rotate_left 1
    · walk_at "rd"
      refine kk _ _ ?_ (Ch.refl H)
      rw [ec, okName_cons, show isLow c = false from by
        cases q : isLow c with
        | false => rfl
        | true => exact absurd (mem_low.mpr q) h3]
      rw [Bool.false_and, Bool.and_false]
    have h3' : isLow c = true := mem_low.mp h3
    walk_at "rd"
    intro D hD
    refine lcS z hD (fun i acc H' => Ch [] H H' ∧ acc = ((z.cps.toList.take i).filter fun d => !isAln d).map fun d => V.str ⟨#[d]⟩) (fun H' hh hc => ⟨hc, rfl⟩) (fun i d acc H' hd hp hA => ?_) (fun acc H' hp hA => ?_)
    · obtain ⟨cc, rfl⟩ := hp
      walk_at "rd"
      refine x_addS (by decide +kernel) ?_
      refine x_notInSg ?_
      refine ⟨_, rfl, ?_⟩
      have hm : d ∈ (sLow ++ sDig : Str).cps.toList ↔ isAln d = true := by
        rw [sAln_eq]
        exact mem_aln
      have step : ∀ b : Bool, isAln d = b → ((z.cps.toList.take (i + 1)).filter fun d => !isAln d).map (fun d => V.str ⟨#[d]⟩) = ((z.cps.toList.take i).filter fun d => !isAln d).map (fun d => V.str ⟨#[d]⟩) ++ (if b then [] else [V.str ⟨#[d]⟩]) := fun b e => by
        rw [List.take_add_one, hd, List.filter_append, List.map_append]
        cases b <;> simp [e]
      refine ite_nby (fun h4 => ?_) (fun h4 => ?_)
      · exact x_lcN hA ⟨cc, by rw [step true (hm.mp h4)]; simp⟩
      · have e : isAln d = false := by
          cases q : isAln d with
          | false => rfl
          | true => exact absurd (hm.mpr q) h4
        walk_at "rd"
        refine x_lcE hA (sz_lt ?_) fun H2 h2 c2 => ⟨(cc.trans c2).drop hD |>.mono (by simp), by rw [step false e]; rfl⟩
        rw [List.length_map]
        have q1 := List.length_filter_le (fun d => !isAln d) (z.cps.toList.take i)
        rw [List.length_take] at q1
        rw [ec] at q1 ⊢
        omega
    · obtain ⟨cc, rfl⟩ := hp
      rw [List.take_length] at hA
      walk_at "rd"
      refine kk _ _ ?_ cc
      rw [List.length_map]
      rw [ec]
      rw [okName_cons, h3', decide_eq_true (show (c :: cs).length ≤ 12 by omega), Bool.true_and, Bool.true_and]
      cases q : (c :: cs).all isAln with
      | true =>
        rw [List.filter_eq_nil_iff.mpr fun d hd => by rw [List.all_eq_true.mp q d hd]; simp]
        rfl
      | false =>
        refine decide_eq_false fun h0 => ?_
        have h1 := List.eq_nil_of_length_eq_zero (Int.ofNat.inj h0)
        rw [List.filter_eq_nil_iff] at h1
        rw [show (c :: cs).all isAln = true from List.all_eq_true.mpr fun d hd => by simpa using h1 d hd] at q
        cases q
end
open L2H
/-- an error's __init__(self, r): one field f -/
def spX (C : Addr) (f : Str) : Sp := fun vs H Q E => ∃ (a : Addr) (r : V), vs = [.ref a, r] ∧ H a = some (exo a C none) ∧ ∀ dx, H dx = none → dx ≠ a → Q .non (upd (upd H dx (exd dx [(f, r)])) a (exo a C (some dx)))
def sp_BadLine___init__ (K : PySem.W.Frag) : Sp := spX (He.ga K "BadLine") "line"
def sp_BadNumber___init__ (K : PySem.W.Frag) : Sp := spX (He.ga K "BadNumber") "number"
def sp_BadMember___init__ (K : PySem.W.Frag) : Sp := spX (He.ga K "BadMember") "at"
def sp_TooLarge___init__ (K : PySem.W.Frag) : Sp := spX (He.ga K "TooLarge") "most"
def sp_NoBody___init__ (K : PySem.W.Frag) : Sp := spX (He.ga K "NoBody") "name"
theorem x_vei {K : PySem.W.Frag} {ta : TA} {σ : L2.St} {H : Hp} {Q : VK} (h : ta σ H fun vs H1 => ∃ (a C : Addr) (ws : List V), vs = .ref a :: ws ∧ ws.length ≤ 1000 ∧ OexC K C ∧ H1 a = some (exo a C none) ∧ Q .non H1) : tVeI K ta σ H Q := h
theorem x_ost {K : PySem.W.Frag} {f : Str} {to te : TE} {σ : L2.St} {H : Hp} {nx bk ct : L2.St → Hp → Prop} {rt : VK} (h : te σ H fun y H1 => to σ H1 fun x H2 => ∃ a C : Addr, x = .ref a ∧ OexC K C ∧ PySem.W.findIn K (.ref C) f = some none ∧
  ((H2 a = some (exo a C none) ∧ ∀ dx, H2 dx = none → dx ≠ a → nx σ (upd (upd H2 dx (exd dx [(f, y)])) a (exo a C (some dx)))) ∨
    ∃ (dx : Addr) (fs : List (Str × V)), H2 a = some (exo a C (some dx)) ∧ H2 dx = some (exd dx fs) ∧ fs.length ≤ 900 ∧ nx σ (upd H2 dx (exd dx ((f, y) :: fs))))) : tOst K f to te ⟨nx, rt, bk, ct⟩ σ H := h
theorem exc_ch {H : Hp} {a d C : Addr} {f : Str} {r : V} {o u : HO} (na : H a = none) (nd : H d = none) (hda : d ≠ a) : Ch [] H (upd (del (upd (upd (upd H a o) d u) a (exo a C (some d))) a) d (.xd [(f, r)])) := by
  have q : ∀ {b : Addr} {v : HO}, H b = some v → upd (del (upd (upd (upd H a o) d u) a (exo a C (some d))) a) d (.xd [(f, r)]) b = some v := fun {b v} e => by
    have ba : b ≠ a := ne_of_none e na
    have bd : b ≠ d := ne_of_none e nd
    rw [upd_ne bd, del_ne ba, upd_ne ba, upd_ne bd, upd_ne ba]
    exact e
  exact ⟨fun b v _ e => q e, fun b xs e => q e, fun b v u e => q e⟩
/-- an error is made of one value: what is left of it is its dict -/
theorem x_mkx {C : Addr} {f : Str} {ta : TA} {σ : L2.St} {H : Hp} {Q : XK} (h : ta σ H fun vs H1 => ∃ r, vs = [r] ∧ ∀ d H', H1 d = none → H' d = some (.xd [(f, r)]) → Ch [] H1 H' → Q (.ref C) (some d) H') (hm : ∀ {σ H Q Q'}, (∀ vs H1, Q vs H1 → Q' vs H1) → ta σ H Q → ta σ H Q') : tMkO C (spX C f) [] ta σ H Q := by
  refine hm (fun vs H1 q => ?_) h
  obtain ⟨r, rfl, q⟩ := q
  refine ⟨by simp, fun a na => ⟨a, r, rfl, upd_same, fun d nd hda => ⟨rfl, d, _, upd_same, by rw [upd_ne hda, upd_same], by rwa [upd_ne hda] at nd, ?_⟩⟩⟩
  rw [upd_ne hda] at nd
  exact q d _ nd upd_same (exc_ch na nd hda)
theorem x_mkx1 {C : Addr} {f : Str} {te : TE} {σ : L2.St} {H : Hp} {Q : XK} (h : te σ H fun r H1 => (∀ d H', H1 d = none → H' d = some (.xd [(f, r)]) → Ch [] H1 H' → Q (.ref C) (some d) H')) (hm : ∀ {σ H} {Q Q' : VK}, (∀ v H1, Q v H1 → Q' v H1) → te σ H Q → te σ H Q') : tMkO C (spX C f) [] (tCons te tNil) σ H Q :=
  x_mkx (hm (fun v H1 q => ⟨v, rfl, q⟩) h) fun hq => hm fun v H1 q => hq _ _ q
section
variable {P : Program} {w : World} {K : PySem.W.Frag} {mg : Str → Option Value} {base : Heap}
theorem ok_BadLine___init__ (T : Txt w K mg)  : FD P w K mg base CX0 1 (He.ma K (He.ga K "BadLine") "__init__") ["self", "line"] (sp_BadLine___init__ K) := by
  refine FD.mk0 T.f_BadLine___init__ sc_BadLine___init__ (fun vs H Q E h => ?_) (fun _ _ _ _ _ _ us hl => match us, hl with | [_, _], _ => rfl) (fun cdv A outer s H vs Q E hr h => ⟨_, (pss_cons (ps_expr (pe_veinitB (by rfl) T.g_DeedError T.b_DeedError (pa_cons (pv 0) (pa_cons pe_str pa_nil))))
  (pss_one (ps_ost (pv 0) (pv 1) (by rfl)))), ?_⟩)
  · obtain ⟨a, r, rfl, _⟩ := h
    rfl
  · obtain ⟨a, r, rfl, ha, kk⟩ := h
    walk_at "st"
    walk_at "rd"
    refine x_vei ?_
    walk_at "rd"
    refine ⟨a, _, _, rfl, by decide, T.ox_BadLine, ha, ?_⟩
    refine x_ost ?_
    walk_at "rd"
    exact ⟨a, _, rfl, T.ox_BadLine, T.nf_BadLine, .inl ⟨ha, kk⟩⟩
theorem ok_BadNumber___init__ (T : Txt w K mg)  : FD P w K mg base CX0 1 (He.ma K (He.ga K "BadNumber") "__init__") ["self", "number"] (sp_BadNumber___init__ K) := by
  refine FD.mk0 T.f_BadNumber___init__ sc_BadNumber___init__ (fun vs H Q E h => ?_) (fun _ _ _ _ _ _ us hl => match us, hl with | [_, _], _ => rfl) (fun cdv A outer s H vs Q E hr h => ⟨_, (pss_cons (ps_expr (pe_veinitB (by rfl) T.g_DeedError T.b_DeedError (pa_cons (pv 0) (pa_cons pe_str pa_nil))))
  (pss_one (ps_ost (pv 0) (pv 1) (by rfl)))), ?_⟩)
  · obtain ⟨a, r, rfl, _⟩ := h
    rfl
  · obtain ⟨a, r, rfl, ha, kk⟩ := h
    walk_at "st"
    walk_at "rd"
    refine x_vei ?_
    walk_at "rd"
    refine ⟨a, _, _, rfl, by decide, T.ox_BadNumber, ha, ?_⟩
    refine x_ost ?_
    walk_at "rd"
    exact ⟨a, _, rfl, T.ox_BadNumber, T.nf_BadNumber, .inl ⟨ha, kk⟩⟩
theorem ok_BadMember___init__ (T : Txt w K mg)  : FD P w K mg base CX0 1 (He.ma K (He.ga K "BadMember") "__init__") ["self", "at"] (sp_BadMember___init__ K) := by
  refine FD.mk0 T.f_BadMember___init__ sc_BadMember___init__ (fun vs H Q E h => ?_) (fun _ _ _ _ _ _ us hl => match us, hl with | [_, _], _ => rfl) (fun cdv A outer s H vs Q E hr h => ⟨_, (pss_cons (ps_expr (pe_veinitB (by rfl) T.g_DeedError T.b_DeedError (pa_cons (pv 0) (pa_cons pe_str pa_nil))))
  (pss_one (ps_ost (pv 0) (pv 1) (by rfl)))), ?_⟩)
  · obtain ⟨a, r, rfl, _⟩ := h
    rfl
  · obtain ⟨a, r, rfl, ha, kk⟩ := h
    walk_at "st"
    walk_at "rd"
    refine x_vei ?_
    walk_at "rd"
    refine ⟨a, _, _, rfl, by decide, T.ox_BadMember, ha, ?_⟩
    refine x_ost ?_
    walk_at "rd"
    exact ⟨a, _, rfl, T.ox_BadMember, T.nf_BadMember, .inl ⟨ha, kk⟩⟩
theorem ok_TooLarge___init__ (T : Txt w K mg)  : FD P w K mg base CX0 1 (He.ma K (He.ga K "TooLarge") "__init__") ["self", "most"] (sp_TooLarge___init__ K) := by
  refine FD.mk0 T.f_TooLarge___init__ sc_TooLarge___init__ (fun vs H Q E h => ?_) (fun _ _ _ _ _ _ us hl => match us, hl with | [_, _], _ => rfl) (fun cdv A outer s H vs Q E hr h => ⟨_, (pss_cons (ps_expr (pe_veinitB (by rfl) T.g_DeedError T.b_DeedError (pa_cons (pv 0) (pa_cons pe_str pa_nil))))
  (pss_one (ps_ost (pv 0) (pv 1) (by rfl)))), ?_⟩)
  · obtain ⟨a, r, rfl, _⟩ := h
    rfl
  · obtain ⟨a, r, rfl, ha, kk⟩ := h
    walk_at "st"
    walk_at "rd"
    refine x_vei ?_
    walk_at "rd"
    refine ⟨a, _, _, rfl, by decide, T.ox_TooLarge, ha, ?_⟩
    refine x_ost ?_
    walk_at "rd"
    exact ⟨a, _, rfl, T.ox_TooLarge, T.nf_TooLarge, .inl ⟨ha, kk⟩⟩
theorem ok_NoBody___init__ (T : Txt w K mg)  : FD P w K mg base CX0 1 (He.ma K (He.ga K "NoBody") "__init__") ["self", "name"] (sp_NoBody___init__ K) := by
  refine FD.mk0 T.f_NoBody___init__ sc_NoBody___init__ (fun vs H Q E h => ?_) (fun _ _ _ _ _ _ us hl => match us, hl with | [_, _], _ => rfl) (fun cdv A outer s H vs Q E hr h => ⟨_, (pss_cons (ps_expr (pe_veinitB (by rfl) T.g_DeedError T.b_DeedError (pa_cons (pv 0) (pa_cons pe_str pa_nil))))
  (pss_one (ps_ost (pv 0) (pv 1) (by rfl)))), ?_⟩)
  · obtain ⟨a, r, rfl, _⟩ := h
    rfl
  · obtain ⟨a, r, rfl, ha, kk⟩ := h
    walk_at "st"
    walk_at "rd"
    refine x_vei ?_
    walk_at "rd"
    refine ⟨a, _, _, rfl, by decide, T.ox_NoBody, ha, ?_⟩
    refine x_ost ?_
    walk_at "rd"
    exact ⟨a, _, rfl, T.ox_NoBody, T.nf_NoBody, .inl ⟨ha, kk⟩⟩
theorem hot_BadLine (T : Txt w K mg) : ∃ fd, FnH P w K mg base CX0 2 (He.ma K (He.ga K "BadLine") "__init__") fd ["self", "line"] (sp_BadLine___init__ K) ∧ Binds K fd ["self", "line"] [] := by
  refine fnH_of T.f_BadLine___init__ sc_BadLine___init__ (fun vs H Q E h => ?_) (fun _ _ _ _ _ _ us hl => match us, hl with | [_, _], _ => rfl) (fun cdv A outer s H vs Q E p hr h => ⟨_, (pss_cons (ps_expr (pe_veinitB (by rfl) T.g_DeedError T.b_DeedError (pa_cons (pv 0) (pa_cons pe_str pa_nil))))
  (pss_one (ps_ost (pv 0) (pv 1) (by rfl)))), ?_⟩)
  · obtain ⟨a, r, rfl, _⟩ := h
    rfl
  · obtain ⟨a, r, rfl, ha, kk⟩ := h
    walk_at "st"
    walk_at "rd"
    refine x_vei ?_
    walk_at "rd"
    refine ⟨a, _, _, rfl, by decide, T.ox_BadLine, ha, ?_⟩
    refine x_ost ?_
    walk_at "rd"
    exact ⟨a, _, rfl, T.ox_BadLine, T.nf_BadLine, .inl ⟨ha, kk⟩⟩
/-- BadLine(e) in an except suite -/
theorem pmk_hot {X : Cx} {K : PySem.W.Frag} (hK : X.K = K) (T : Txt X.w K X.mg) {e : Expr} {es : List Expr} {ta : TA} {p pos : Pos} (hr : RoomH 3 X.A) (hc : HotC X) (hg : Gl X "BadLine") (ha : PA X (e :: es) ta)
    (he : starEach (e :: es) X.env = (false, eval e X.env) :: starEach es X.env := by rfl) (hpl : (backTo pos (starEach es X.env)).any (·.1) = false := by rfl) :
    PMk5 X (.Call (.Name "BadLine" p) (e :: es) [] pos) (tMkO (He.ga K "BadLine") (sp_BadLine___init__ K) [] ta) := by
  subst hK
  obtain ⟨fd, F, B⟩ := hot_BadLine (P := X.prog) (base := X.base) T
  exact pmk5_oexH T.ox_BadLine T.m_BadLine___init__.at_ (beq_iff_eq.mp T.m_BadLine___init__.fn) F hr hc B pass0 hg T.g_BadLine ha (by decide) he hpl
end
/-- an error made in a raising def, as 04 has it -/
theorem pmk_oexD {X : Cx} {x : Str} {C fI : Addr} {k : Nat} {ps : List Str} {sp : Sp} {e : Expr} {es : List Expr} {ta : TA} {p pos : Pos} (T : OexC X.K C) (m : Meth X.K C "__init__" fI) (F : FD X.prog X.w X.K X.mg X.base CX0 k fI ps sp) (hr : Room (k + 1) X.A) (hg : Gl X x) (hm : X.mg x = some (.ref C)) (ha : PA X (e :: es) ta)
    (hdb : (x == ("__debug__" : Str)) = false := by decide) (he : starEach (e :: es) X.env = (false, eval e X.env) :: starEach es X.env := by rfl) (hpl : (backTo pos (starEach es X.env)).any (·.1) = false := by rfl) :
    L2.PMk X (.Call (.Name x p) (e :: es) [] pos) (tMkO C sp [] ta) := (fun pins s σ H Q I h => by
  obtain ⟨fd, F1, b⟩ := F.ex
  exact pmk_oex T m.at_ (beq_iff_eq.mp m.fn) F1 hr b .nil (fun _ _ _ _ _ _ _ h => h.elim) hg hm ha hdb he hpl pins s σ H Q I h)
abbrev tl' (x : Str) : List Nat := x.cps.toList
theorem x_cmeth {C : Addr} {sp : Sp} {E : XK} {ta : TE} {t : TA} {σ : L2.St} {H : Hp} {Q : VK} (h : ta σ H fun x H1 => x = .ref C ∧ t σ H1 fun vs H2 => sp (.ref C :: vs) H2 Q E) : tCMeth C sp E ta t σ H Q := h
abbrev sPast : Str := " past "
abbrev sSp : Str := " "
/-- the names of a strike's line behind its word -/
def nmsOf (z : Str) : List Str := if (Txt.partition z sPast).2.1 = (Str.ofString "") then [] else Txt.split (Txt.partition z sPast).2.2 sSp
def okN (z : Str) : Bool := okName z.cps.toList
def goodS (z : Str) : Prop := okN (Txt.partition z sPast).1 = true ∧ (∀ n ∈ nmsOf z, okN n = true) ∧ nmsOf z = isort (dedup (nmsOf z))
/-- a strike at s -/
def St (K : PySem.W.Frag) (H : Hp) (s : Addr) (nm : Str) (sh : List Str) : Prop := ∃ dx t, H s = some (.ins (He.ga K "Strike") dx [("name", .str nm), ("shield", .ref t)]) ∧ SqT K H t (sh.map V.str)
def sp_Strike___init__ (K : PySem.W.Frag) : Sp := fun vs H Q E => ∃ (a dx t : Addr) (nm : Str) (ns : List Str), vs = [.ref a, .str nm, .ref t] ∧ H a = some (.ins (He.ga K "Strike") dx []) ∧ SqT K H t (ns.map V.str) ∧ IsName nm ∧ (∀ n ∈ ns, IsName n) ∧ ns.length < 64 ∧
  ∀ H', St K H' a nm (isort (dedup ns)) → Ch [a] H H' → Q .non H'
def sp_Strike___eq__ (K : PySem.W.Frag) : Sp := fun vs H Q E => ∃ (a : Addr) (nm : Str) (sh : List Str), vs = [.ref a, .ref a] ∧ St K H a nm sh ∧ (∀ x ∈ sh, OkT x) ∧ Q (.bl true) H
def sp_Strike_read (K : PySem.W.Frag) : Sp := fun vs H Q E => ∃ z : Str, vs = [.ref (He.ga K "Strike"), .str z] ∧ z.length ≤ 60 ∧ (goodS z → ∀ s H', St K H' s (Txt.partition z sPast).1 (nmsOf z) → Ch [] H H' → Q (.ref s) H') ∧
  (¬ goodS z → ∀ d H', H' d = some (.xd [("line", .int 1)]) → Ch [] H H' → E (.ref (He.ga K "BadLine")) (some d) H')
def goodL (l : Str) : Prop := Txt.startswith l "strike " = true ∧ goodS (cutS l (some 7) none)
def sp_strike_of (K : PySem.W.Frag) : Sp := fun vs H Q E => ∃ l : Str, vs = [.str l] ∧ l.length ≤ 60 ∧ (goodL l → ∀ s nm sh H', St K H' s nm sh → (∀ x ∈ sh, OkT x) → Ch [] H H' → Q (.ref s) H') ∧
  (¬ goodL l → ∀ d H', H' d = some (.xd [("line", .int 1)]) → Ch [] H H' → E (.ref (He.ga K "BadLine")) (some d) H')
section
variable {P : Program} {w : World} {K : PySem.W.Frag} {mg : Str → Option Value} {base : Heap}
theorem fnR_Strike (T : Txt w K mg) : FnR P w K mg base CX0 4 (He.ma K (He.ga K "Strike") "__init__") (fun vs H Q E => ∃ ws rest, vs = ws ++ rest ∧ ws.length = ["self", "name"].length ∧ rest.length ≤ sizeLine ∧ ∀ p, H p = Option.none → sp_Strike___init__ K (ws ++ [V.ref p]) (upd H p (.tup rest)) Q E) := by
  refine fn_star0 T.f_Strike___init__ sc_Strike___init__ (ps := ["self", "name"]) (pv := "shield") (fun kV doc pm an cdv ct => StX.bind_star2 (B := fun us => bindArgs (PySem.W.fnOf "__init__" "Strike.__init__" (defArgs s_Strike___init__) (defBody s_Strike___init__) (defScope s_Strike___init__) .none kV doc pm an cdv ct) ⟨us, []⟩) (fun _ _ => rfl) (fun _ _ _ _ => rfl)) (fun cdv A outer s H vs Q E hr h => ⟨_, (pss_cons (ps_fld (pv 0) (pe_callD (ok_check_name T) hr (by first | decide | omega) (by rfl) T.g_check_name pass0 (pa_cons (pv 1) pa_nil)) rfl)
  (pss_cons (ps_set (i := 3) sc_Strike___init__.nd rfl (.inl rfl) (pe_lst pa_nil))
  (pss_cons (ps_for PassesOwn.never rfl (pi_tup (pv 2)) (pg_name (i := 4) sc_Strike___init__.nd rfl (.inl rfl)) (pss_cons (ps_expr (pe_callD (ok_check_name T) hr (by first | decide | omega) (by rfl) T.g_check_name pass0 (pa_cons (pv 4) pa_nil)))
  (pss_one (ps_if (pt_cmpR u_notin (pv 4) (pv 3) (by rfl)) (pss_one (ps_expr (pe_bm PySem.F.plainAttrs_list PySem.F.slot_list_append PySem.F.type_list_append mt_append (pv 3) (pa_cons (pv 4) pa_nil)))) pss_nil))))
  (pss_one (ps_fld (pv 0) (pe_callTy c_tuple (by rfl) T.n_tuple bb_tuple (pa_cons (pe_callB c_sortedS (by rfl) T.n_sorted bb_sorted (pa_cons (pv 3) pa_nil)) pa_nil)) rfl))))), ?_⟩)
  obtain ⟨a, dx, t, nm, ns, rfl, ha, ht, hn, hns, hl, k⟩ := h
  walk_at "st"
  walk_at "rd"
  refine ⟨nm, rfl, hn, ?_⟩
  walk_at "rd"
  refine x_sfldB ha T.c_Strike T.na_Strike_name (by decide) fun H1 h1 c1 => ?_
  have ht1 := c1.sqT ht
  walk_at "rd"
  refine nL fun l H2 hl2 h2 c2 => ?_
  walk_at "rd"
  have nla : l ≠ a := Ne.symm (ne_of_none h1 hl2)
  have ht2 := c2.sqT ht1
  refine goT (ns.map V.str) (fun i σ H' => ∃ o, σ = [some (.ref a), some (.str nm), some (.ref t), some (.ref l), o] ∧ H' l = some (.lst ((dedup (ns.take i)).map V.str)) ∧ Ch [l] H2 H') ⟨_, rfl, h2, (Ch.refl _).any⟩ (fun i σ H' hi hI => ?_) (fun i x σ H' hx hI => ?_) (fun σ H' hI => ?_)
  · obtain ⟨_, _, _, cc⟩ := hI
    exact cc.sqT ht2
  · obtain ⟨o, rfl, h3, cc⟩ := hI
    obtain ⟨r, hr', rfl⟩ : ∃ r, ns[i]? = some r ∧ x = V.str r := by
      rw [List.getElem?_map] at hx
      cases q : ns[i]? with
      | none => rw [q] at hx; cases hx
      | some r => rw [q] at hx; exact ⟨r, rfl, (Option.some.inj hx).symm⟩
    have hlen : (dedup (ns.take i)).length ≤ ns.length := by
      have := dedup_len (ns.take i)
      rw [List.length_take] at this
      omega
    have hsn : dedup (ns.take (i + 1)) = if r ∈ dedup (ns.take i) then dedup (ns.take i) else dedup (ns.take i) ++ [r] := by
      rw [List.take_add_one, hr']
      exact dedup_snoc _ _
    walk_at "rd"
    refine ⟨r, rfl, hns r (List.mem_of_getElem? hr'), ?_⟩
    walk_at "rd"
    refine x_notInL (SqL.of h3) rfl (flat_str _) ?_
    rw [inV_str]
    walk_at "rd"
    refine ite_nby (fun hm => ?_) (fun hm => ?_)
    · walk_at "rd"
      refine ⟨_, rfl, ?_, cc⟩
      rw [hsn, if_pos hm]
      exact h3
    · walk_at "rd"
      refine x_append h3 (sz_lt (by rw [List.length_map]; omega)) fun H4 h4 c4 => ?_
      walk_at "rd"
      refine ⟨_, rfl, ?_, cc.seq c4⟩
      rw [h4, hsn, if_neg hm, List.map_append]
      rfl
  · obtain ⟨o, rfl, h3, cc⟩ := hI
    rw [List.length_map, List.take_length] at h3
    have ha3 := cc.get1 (c2.get0 h1) (Ne.symm nla)
    walk_at "rd"
    refine ⟨l, dedup ns, rfl, SqL.of h3, by have := dedup_len ns; omega, fun ys p hp hs hpn => ?_⟩
    rw [isort_eq hp hs]
    have hp1 : upd H' p (.lst ((isort (dedup ns)).map V.str)) p = some (.lst ((isort (dedup ns)).map V.str)) := upd_same
    have c4 : Ch [] H' (upd H' p (.lst ((isort (dedup ns)).map V.str))) := Ch.new hpn
    revert hp1 c4
    generalize upd H' p (.lst ((isort (dedup ns)).map V.str)) = H4
    intro hp1 c4
    walk_at "rd"
    refine x_tupL (SqL.of hp1) fun u H5 hu h5 c5 => ?_
    walk_at "rd"
    refine x_sfldB (c5.get0 (c4.get0 ha3)) T.c_Strike T.na_Strike_shield (by simp [putF]) fun H6 h6 c6 => ?_
    refine k H6 ⟨dx, u, h6, c6.sqT (SqT.of h5)⟩ ?_
    have q1 : Ch [l] H1 H' := c2.nilL cc
    have q2 : Ch [] H1 H' := by
      have := (q1.mono (S' := [l]) (fun _ z => z))
      exact Ch.drop (S := []) this hl2
    exact (c1.nilR q2).seq ((c4.nilL c5).nilL c6)
theorem ok_Strike___eq__ (T : Txt w K mg)  : FD P w K mg base CX0 2 (He.ma K (He.ga K "Strike") "__eq__") ["self", "other"] (sp_Strike___eq__ K) := by
  refine FD.mk0 T.f_Strike___eq__ sc_Strike___eq__ (fun vs H Q E h => ?_) (fun _ _ _ _ _ _ us hl => match us, hl with | [_, _], _ => rfl) (fun cdv A outer s H vs Q E hr h => ⟨_, (pss_one (ps_ret (pe_and (pe_callB call_isi (by rfl) T.n_isinstance bb_isinstance (pa_cons (pv 1) (pa_cons (pe_glob (v := .ref (He.ga K "Strike")) (by rfl) T.g_Strike rfl) pa_nil))) (pe_and (pe_cmpR (u_eq (hu64 hr)) (pe_fld (pv 0) (by rfl)) (pe_fld (pv 1) (by rfl)) (nomark _)) (pe_one (pe_cmpR (u_eq (hu64 hr)) (pe_fld (pv 0) (by rfl)) (pe_fld (pv 1) (by rfl)) (nomark _))))))), ?_⟩)
  · obtain ⟨a, nm, sh, rfl, _⟩ := h
    rfl
  · obtain ⟨a, nm, sh, rfl, ⟨dx, t, ha, ht⟩, hok, k⟩ := h
    walk_at "st"
    walk_at "rd"
    refine x_isC ha T.c_Strike T.is_Strike ?_
    walk_at "rd"
    refine x_fldB ha T.c_Strike T.na_Strike_name rfl ?_
    walk_at "rd"
    refine x_fldB ha T.c_Strike T.na_Strike_name rfl ?_
    walk_at "rd"
    refine ite_d rfl ?_
    walk_at "rd"
    refine x_fldB ha T.c_Strike T.na_Strike_shield rfl ?_
    walk_at "rd"
    refine x_fldB ha T.c_Strike T.na_Strike_shield rfl ?_
    refine x_eqTS ht ht hok hok ?_
    rw [decide_eq_true rfl]
    exact k
theorem ok_Strike_read (T : Txt w K mg)  : FD P w K mg base (L2.CX P w) 6 (cmA K (He.ga K "Strike") "read") ["cls", "text"] (sp_Strike_read K) := by
  refine FD.mkX T.f_Strike_read sc_Strike_read (fun vs H Q E h => ?_) (fun _ _ _ _ _ _ us hl => match us, hl with | [_, _], _ => rfl) (fun cdv A outer s H vs Q E hr h => ⟨_, (pss_cons (ps_asg (pe_bm PySem.F.plainAttrs_str PySem.F.slot_str_partition PySem.F.type_str_partition mt_part (pv 1) (pa_cons pe_str pa_nil)) (pg_tup rfl (pgs_cons (pg_name (i := 2) sc_Strike_read.nd rfl (.inl rfl)) (pgs_cons (pg_name (i := 3) sc_Strike_read.nd rfl (.inl rfl)) (pgs_cons (pg_name (i := 4) sc_Strike_read.nd rfl (.inl rfl)) pgs_nil)))))
  (pss_cons (ps_set (i := 5) sc_Strike_read.nd rfl (.inl rfl) (pe_ifExp (pt_cmpR (u_ne (hu64 hr)) (pv 3) pe_str (nomark _)) (pe_bm PySem.F.plainAttrs_str PySem.F.slot_str_split PySem.F.type_str_split mt_splitU (pv 4) (pa_cons pe_str pa_nil)) (pe_lst pa_nil)))
  (pss_cons (ps_for PassesOwn.leaving rfl (pi_list (pe_lst (pa_cons (pv 2) (StX.pa_star (pv 5) pa_nil)))) (pg_name (i := 6) sc_Strike_read.nd rfl (.inl rfl)) (pss_one (ps_if (pt_not (pt_val (pe_callD (ok_is_name T) hr (by first | decide | omega) (by rfl) T.g_is_name pass0 (pa_cons (pv 6) pa_nil)))) (pss_one (ps_raise (by rfl) (takes_of rfl rfl rfl rfl) (pmk_oexD T.ox_BadLine T.m_BadLine___init__ (ok_BadLine___init__ T) (hr.mono (by decide)) (by rfl) T.g_BadLine (pa_cons pe_int pa_nil)))) pss_nil)))
  (pss_cons (ps_set (i := 7) sc_Strike_read.nd rfl (.inl rfl) (pe_makeL (i := 0) (E := fun _ => E0) T.mk_Strike (fnR_Strike T) (hr.mono (by decide)) (by rfl) (.inl rfl) (fun _ _ _ _ _ _ _ h => h.elim) (pa_cons (pv 2) (StX.pa_star (pv 5) pa_nil))))
  (pss_cons (ps_if (pt_cmpR (u_ne (hu64 hr)) (pe_callTy c_list (by rfl) T.n_list bb_list (pa_cons (pe_fld (pv 7) (by rfl)) pa_nil)) (pv 5) (nomark _)) (pss_one (ps_raise (by rfl) (takes_of rfl rfl rfl rfl) (pmk_oexD T.ox_BadLine T.m_BadLine___init__ (ok_BadLine___init__ T) (hr.mono (by decide)) (by rfl) T.g_BadLine (pa_cons pe_int pa_nil)))) pss_nil)
  (pss_one (ps_ret (pv 7)))))))), ?_⟩)
  · obtain ⟨z, rfl, _⟩ := h
    rfl
  · obtain ⟨z, rfl, hz, kg, kb⟩ := h
    walk_at "st"
    walk_at "rd"
    refine x_part (by decide +kernel) (sz_of (by omega)) fun p H1 hp h1 c1 => ?_
    walk_at "rd"
    have hp1 : (Txt.partition z (Str.ofString " past ")).1.length ≤ z.length ∧ (Txt.partition z (Str.ofString " past ")).2.2.length ≤ z.length := part_len z sPast (by decide +kernel)
    refine ite_join (fun x H2 => ∃ l, x = .ref l ∧ H2 l = some (.lst ((nmsOf z).map V.str)) ∧ Ch [] H H2) ?_ (fun hc Q' hQ => ?_) (fun hc Q' hQ => ?_)
    rotate_left 1
    · walk_at "rd"
      refine x_split (by decide +kernel) (sz_of (by omega)) fun l H2 hl h2 c2 => ?_
      refine hQ _ _ ⟨l, rfl, ?_, c1.nilL c2⟩
      rw [h2]
      unfold nmsOf
      rw [if_neg (by simpa using hc)]
    · walk_at "rd"
      refine nL fun l H2 hl h2 c2 => ?_
      refine hQ _ _ ⟨l, rfl, ?_, c1.nilL c2⟩
      rw [h2]
      unfold nmsOf
      rw [if_pos (by simpa using hc)]
      rfl
    rintro _ H2 ⟨l, rfl, h2, c2⟩
    walk_at "rd"
    have hnl : (∀ n ∈ nmsOf z, n.length ≤ 60) ∧ (nmsOf z).length ≤ 61 := by
      unfold nmsOf
      split
      · simp
      · obtain ⟨q1, q2⟩ := split_len (Txt.partition z sPast).2.2 sSp (by decide +kernel) (by decide +kernel)
        have hp2 : (Txt.partition z sPast).2.2.length ≤ z.length := hp1.2
        exact ⟨fun n hn => by have := q1 n hn; omega, by omega⟩
    refine ⟨l, (nmsOf z).map V.str, rfl, .inr (SqL.of h2), ?_⟩
    walk_at "rd"
    refine nL (hl := sz_of (by simp; omega)) fun q H3 hq h3 c3 => ?_
    walk_at "rd"
    rw [List.append_nil, ← List.map_cons (f := V.str)] at h3
    have h23 := c3.get0 h2
    have bad : ¬ goodS z → ∀ d H', H' d = some (.xd [("line", .int 1)]) → Ch [] H3 H' → E (.ref (He.ga K "BadLine")) (some d) H' := fun g d H' hd hc => kb g d H' hd ((c2.nilL c3).nilL hc)
    refine goL ((((Txt.partition z sPast).1) :: nmsOf z).map V.str) (fun i σ H' => H' = H3 ∧ ∃ o, σ = [some (.ref (He.ga K "Strike")), some (.str z), some (.str (Txt.partition z sPast).1), some (.str (Txt.partition z sPast).2.1), some (.str (Txt.partition z sPast).2.2), some (.ref l), o, none] ∧ ∀ n ∈ ((Txt.partition z sPast).1 :: nmsOf z).take i, okN n = true) ⟨rfl, _, rfl, fun n hn => by simp at hn⟩ (fun i σ H' hi hI => ?_) (fun i x σ H' hx hI => ?_) (fun σ H' hI => ?_)
    · obtain ⟨rfl, _⟩ := hI
      exact SqL.of h3
    · obtain ⟨rfl, o, rfl, ha⟩ := hI
      obtain ⟨r, hr', rfl⟩ : ∃ r, ((Txt.partition z sPast).1 :: nmsOf z)[i]? = some r ∧ x = V.str r := by
        rw [List.getElem?_map] at hx
        cases q : ((Txt.partition z sPast).1 :: nmsOf z)[i]? with
        | none => rw [q] at hx; cases hx
        | some r => rw [q] at hx; exact ⟨r, rfl, (Option.some.inj hx).symm⟩
      have hrm : r ∈ (Txt.partition z sPast).1 :: nmsOf z := List.mem_of_getElem? hr'
      have hrl : r.length ≤ 60 := by
        rcases List.mem_cons.mp hrm with e | e
        · have hp2 : (Txt.partition z sPast).1.length ≤ z.length := hp1.1
          rw [e]; omega
        · exact hnl.1 r e
      walk_at "rd"
      refine ⟨r, rfl, sz_of (by omega), ?_⟩
      walk_at "rd"
      refine ite_nb (fun hk => ?_) (fun hk => ?_)
      · walk_at "rd"
        refine ⟨rfl, _, rfl, fun n hn => ?_⟩
        rw [List.take_add_one, hr'] at hn
        rcases List.mem_append.mp hn with e | e
        · exact ha n e
        · have e2 : n = r := by simpa using e
          rw [e2]
          exact hk
      · walk_at "rd"
        refine x_mkx1 ?_ (fun hq h => hq _ _ h)
        walk_at "rd"
        refine fun d H4 hd h4 c4 => bad (fun g => ?_) d H4 h4 c4
        obtain ⟨g1, g2, _⟩ := g
        rcases List.mem_cons.mp hrm with e | e
        · rw [e] at hk
          have hk' : okN (Txt.partition z sPast).1 = false := hk
          rw [g1] at hk'
          cases hk'
        · have hk' : okN r = false := hk
          rw [g2 r e] at hk'
          cases hk'
    · obtain ⟨rfl, o, rfl, ha⟩ := hI
      rw [List.length_map, List.take_length] at ha
      have gn : IsName (Txt.partition z sPast).1 := ha _ (List.mem_cons_self ..)
      have gs : ∀ n ∈ nmsOf z, IsName n := fun n hn => ha n (List.mem_cons_of_mem _ hn)
      walk_at "rd"
      refine ⟨rfl, x_makeRS ?_⟩
      walk_at "rd"
      refine ⟨l, (nmsOf z).map V.str, rfl, .inr (SqL.of h23), ?_⟩
      walk_at "rd"
      refine nO fun x dx H4 hx h4 c4 => ?_
      refine x_starI (ws := [.ref x, .str (Txt.partition z sPast).1]) (rest := (nmsOf z).map V.str) (by simp) rfl (sz_of (by simp; omega)) fun t H5 ht h5 c5 => ?_
      refine ⟨x, dx, t, _, nmsOf z, rfl, c5.get0 h4, SqT.of h5, gn, gs, by omega, fun H6 hS c6 => ⟨rfl, ?_⟩⟩
      obtain ⟨dx', t', hS1, hS2⟩ := hS
      have hlx : l ≠ x := ne_of_none h23 hx
      have h26 := c6.get1 (c5.get0 (c4.get0 h23)) hlx
      have c06 : Ch [] H H6 := ((c2.nilL c3).nilL (Ch.drop (S := []) (((c4.nilL c5).nilL c6).mono (S' := [x]) (fun _ z => z)) hx))
      walk_at "rd"
      refine x_fldB hS1 T.c_Strike T.na_Strike_shield rfl ?_
      walk_at "rd"
      refine x_listT hS2 fun m H7 hm h7 c7 => ?_
      walk_at "rd"
      have okN' : ∀ n ∈ nmsOf z, OkT n := fun n hn => name_okT (gs n hn)
      refine x_neLS (SqL.of h7) (SqL.of (c7.get0 h26)) (fun n hn => okN' n (mem_once hn)) okN' ?_
      walk_at "rd"
      refine ite_nby (fun he => ?_) (fun he => ?_)
      · walk_at "rd"
        exact kg ⟨gn, gs, he.symm⟩ x H7 ⟨dx', t', c7.get0 hS1, by rw [he] at hS2; exact c7.sqT hS2⟩ (c06.nilL c7)
      · refine x_mkx1 ?_ (fun hq h => hq _ _ h)
        walk_at "rd"
        exact fun d H8 hd h8 c8 => kb (fun g => he g.2.2.symm) d H8 h8 ((c06.nilL c7).nilL c8)
theorem ok_strike_of (T : Txt w K mg)  : FD P w K mg base (L2.CX P w) 7 (He.ga K "strike_of") ["line"] (sp_strike_of K) := by
  refine FD.mkX T.f_strike_of sc_strike_of (fun vs H Q E h => ?_) (fun _ _ _ _ _ _ us hl => match us, hl with | [_], _ => rfl) (fun cdv A outer s H vs Q E hr h => ⟨_, (pss_cons (ps_if (pt_not (pt_val (pe_bm PySem.F.plainAttrs_str PySem.F.slot_str_startswith PySem.F.type_str_startswith mt_sw (pv 0) (pa_cons pe_str pa_nil)))) (pss_one (ps_raise (by rfl) (takes_of rfl rfl rfl rfl) (pmk_oexD T.ox_BadLine T.m_BadLine___init__ (ok_BadLine___init__ T) (hr.mono (by decide)) (by rfl) T.g_BadLine (pa_cons pe_int pa_nil)))) pss_nil)
  (pss_one (ps_ret (pe_cmeth (pe_glob (v := .ref (He.ga K "Strike")) (by rfl) T.g_Strike rfl) T.cm_Strike_read.cr T.cm_Strike_read.cm (ok_Strike_read T).raw (hr.mono (by decide)) (passX (takes_of rfl rfl rfl rfl) (fun _ _ _ _ h => h)) (pa_cons (pe_slice u_slice (pv 0) (po_some pe_int) po_none) pa_nil))))), ?_⟩)
  · obtain ⟨z, rfl, _⟩ := h
    rfl
  · obtain ⟨z, rfl, hz, kg, kb⟩ := h
    walk_at "st"
    walk_at "rd"
    refine ite_nb (fun hk => ?_) (fun hk => ?_)
    · walk_at "rd"
      refine x_cmeth ?_
      walk_at "rd"
      refine ⟨rfl, ?_⟩
      walk_at "rd"
      refine x_slS (sz_of (by omega)) ?_
      walk_at "rd"
      refine ⟨_, rfl, ?_, fun g s H' hs hc => kg ⟨hk, g⟩ s _ _ H' hs (fun x hx => name_okT (g.2.1 x hx)) hc, fun g d H' hd hc => kb (fun z => g z.2) d H' hd hc⟩
      have e : tl' (cutS z (some 7) none) = z.cps.toList.drop 7 := cut_from z 7
      rw [str_len]
      show (tl' (cutS z (some 7) none)).length ≤ 60
      rw [e, List.length_drop, ← str_len]
      omega
    · refine x_mkx1 ?_ (fun hq h => hq _ _ h)
      walk_at "rd"
      exact fun d H8 hd h8 c8 => kb (fun g => by rw [g.1] at hk; cases hk) d H8 h8 c8
end
theorem x_keys {td : TE} {σ : L2.St} {H : Hp} {R : It → Hp → Prop} (h : td σ H fun x H1 => ∃ d o, x = .ref d ∧ ((∃ kvs, H1 d = some (.frz o (.dK kvs)) ∧ R (Itk d o kvs) H1) ∨ ∃ kvs, H1 d = some (.frz o (.dT kvs)) ∧ R (Itkt d o kvs) H1)) : iKeys td σ H R := h
theorem hu0 {A : Around} {k : Nat} (hr : Room k A) : A.units < cLine := Nat.lt_of_le_of_lt (Nat.le_add_right _ _) hr.units
def BkA (K : PySem.W.Frag) (H : Hp) (b dx d1 d2 : Addr) (kvs svs : List (Key × V)) : Prop := H b = some (.ins (He.ga K "Book") dx [("_kinds", .ref d1), ("_sizes", .ref d2)]) ∧ H d1 = some (.dK kvs) ∧ H d2 = some (.dK svs) ∧ d1 ≠ d2
def Bk (K : PySem.W.Frag) (H : Hp) (b : Addr) (kvs svs : List (Key × V)) : Prop := ∃ dx d1 d2, H b = some (.ins (He.ga K "Book") dx [("_kinds", .ref d1), ("_sizes", .ref d2)]) ∧ H d1 = some (.dK kvs) ∧ H d2 = some (.dK svs) ∧ d1 ≠ d2
/-- not a part of a book -/
def NB : HO → Bool
  | .dK _ => false
  | .ins _ _ ((f, _) :: _) => decide (f ≠ "_kinds")
  | _ => true
theorem Bk.ch {K : PySem.W.Frag} {H H' : Hp} {S : List Addr} {b : Addr} {kvs svs : List (Key × V)} (h : Bk K H b kvs svs) (c : Ch S H H') (n : ∀ x ∈ S, ∀ o, H x = some o → NB o = true) : Bk K H' b kvs svs := by
  obtain ⟨dx, d1, d2, h1, h2, h3, ne⟩ := h
  have off : ∀ {x : Addr} {o : HO}, H x = some o → NB o = false → x ∉ S := fun {x o} e q m => by
    rw [n x m o e] at q
    cases q
  exact ⟨dx, d1, d2, c.st _ _ (off h1 (by simp [NB])) h1, c.st _ _ (off h2 rfl) h2, c.st _ _ (off h3 rfl) h3, ne⟩
theorem Bk.ch0 {K : PySem.W.Frag} {H H' : Hp} {b : Addr} {kvs svs : List (Key × V)} (h : Bk K H b kvs svs) (c : Ch [] H H') : Bk K H' b kvs svs := h.ch c fun x m => by cases m
def IsD (K : PySem.W.Frag) (H : Hp) (v : V) (kvs : List (Key × V)) : Prop := (∃ T, v = .ref T ∧ EmptyT K T ∧ kvs = []) ∨ ∃ a, v = .ref a ∧ H a = some (.dK kvs)
theorem use_dict {K : PySem.W.Frag} {H : Hp} {Q : VK} {v : V} {kvs : List (Key × V)} (h : IsD K H v kvs) (q : ∀ p H', H p = none → H' p = some (.dK kvs) → Ch [] H H' → Q (.ref p) H') : rDictU K [v] H Q := by
  rcases h with ⟨T, rfl, e, rfl⟩ | ⟨a, rfl, e⟩
  · exact .inl ⟨T, rfl, e, q⟩
  · exact .inr ⟨a, kvs, rfl, e, q⟩
theorem IsD.ch {K : PySem.W.Frag} {H H' : Hp} {S : List Addr} {v : V} {kvs : List (Key × V)} (h : IsD K H v kvs) (c : Ch S H H') (n : ∀ x ∈ S, ∀ o, H x = some o → NB o = true) : IsD K H' v kvs := by
  rcases h with ⟨T, rfl, e, rfl⟩ | ⟨a, rfl, e⟩
  · exact .inl ⟨T, rfl, e, rfl⟩
  · exact .inr ⟨a, rfl, c.st _ _ (fun m => by have := n a m _ e; cases this) e⟩
def sp_Book___init__ (K : PySem.W.Frag) : Sp := fun vs H Q E => ∃ (x dx : Addr) (k s : V) (kvs svs : List (Key × V)), vs = [.ref x, k, s] ∧ H x = some (.ins (He.ga K "Book") dx []) ∧ IsD K H k kvs ∧ IsD K H s svs ∧ ∀ H' d1 d2, H d1 = none → H d2 = none → BkA K H' x dx d1 d2 kvs svs → Ch [x] H H' → Q .non H'
def sp_Book___eq__ (K : PySem.W.Frag) : Sp := fun vs H Q E => ∃ (a b : Addr) (kvs svs : List (Key × V)), vs = [.ref a, .ref b] ∧ Bk K H a kvs svs ∧ Bk K H b kvs svs ∧ (kvs.map (·.1)).Nodup ∧ (∀ p ∈ kvs, flatR p.2 = true) ∧ (svs.map (·.1)).Nodup ∧ (∀ p ∈ svs, flatR p.2 = true) ∧ Q (.bl true) H
def sp_copied (K : PySem.W.Frag) : Sp := fun vs H Q E => ∃ (b : Addr) (kvs svs : List (Key × V)), vs = [.ref b] ∧ Bk K H b kvs svs ∧ ∀ x H', H x = none → Bk K H' x kvs svs → Ch [] H H' → Q (.ref x) H'
def sp_Book_stores (K : PySem.W.Frag) : Sp := fun vs H Q E => ∃ (b : Addr) (kvs : List (Key × V)), vs = [.ref b] ∧ Bk K H b kvs [] ∧ Q (.int 1) H
section
variable {P : Program} {w : World} {K : PySem.W.Frag} {mg : Str → Option Value} {base : Heap}
theorem okI_Book (T : Txt w K mg) : ∃ fd, FunD K "__init__" "Book.__init__" (defArgs s_Book___init__) (defBody s_Book___init__) (defScope s_Book___init__) [.ref (He.dflAt ("Book", some "__init__") 0 K), .ref (He.dflAt ("Book", some "__init__") 1 K)] [] (He.ma K (He.ga K "Book") "__init__") fd ∧
    FnOk P w K mg base CX0 2 (He.ma K (He.ga K "Book") "__init__") fd ["self", "kinds", "sizes"] (sp_Book___init__ K) := by
  obtain ⟨fd, F⟩ := T.f_Book___init__
  refine ⟨fd, F, F.ok sc_Book___init__ (fun vs H Q E h => ?_) fun cdv A outer s H vs Q E hr h => ?_⟩
  · obtain ⟨x, dx, k, s, kvs, svs, rfl, _⟩ := h
    rfl
  have key : ∃ t, PSs (cxOf CX0 P w K mg base N_Book___init__ "Book.__init__" (defScope s_Book___init__) (He.ma K (He.ga K "Book") "__init__") cdv A outer s H E).nox (defBody s_Book___init__) t ∧ t ⟨fun _ H' => Q .non H', Q, fun _ _ => False, fun _ _ => False⟩ (start N_Book___init__ vs) H := by
    refine ⟨_, (pss_cons (ps_fld (pv 0) (pe_callTy (c_dict rfl) (by rfl) T.n_dict bb_dict (pa_cons (pv 1) pa_nil)) rfl)
  (pss_one (ps_fld (pv 0) (pe_callTy (c_dict rfl) (by rfl) T.n_dict bb_dict (pa_cons (pv 2) pa_nil)) rfl))), ?_⟩
    obtain ⟨x, dx, k, s, kvs, svs, rfl, hx, h1, h2, kk⟩ := h
    walk_at "st"
    walk_at "rd"
    refine use_dict h1 fun d1 H1 hd1 hk c1 => ?_
    have hx1 := c1.get0 hx
    walk_at "rd"
    refine x_sfldB hx1 T.c_Book T.na_Book__kinds (by decide) fun H2 hx2 c2 => ?_
    have hk2 := c2.get1 hk (ne_of hk hx1 (by simp))
    have h2' := (h2.ch c1 fun x m => by cases m).ch c2 fun y m o e => by
      rw [List.mem_singleton.mp m, hx1] at e
      cases e
      rfl
    walk_at "rd"
    refine use_dict h2' fun d2 H3 hd2 hs c3 => ?_
    have hx3 := c3.get0 hx2
    have hk3 := c3.get0 hk2
    walk_at "rd"
    refine x_sfldB hx3 T.c_Book T.na_Book__sizes (by simp [putF]) fun H4 hx4 c4 => ?_
    walk_at "rd"
    refine kk H4 d1 d2 hd1 (c1.free0 (c2.free hd2 (by simpa using Ne.symm (ne_of_none hx2 hd2)))) ⟨hx4, c4.get1 hk3 (ne_of hk3 hx3 (by simp)), c4.get1 hs (ne_of hs hx3 (by simp)), fun e => ?_⟩ (c1.nilL (c2.seq (c3.nilL c4)))
    rw [e, hd2] at hk2
    cases hk2
  obtain ⟨t, h1, h2⟩ := key
  exact ⟨t, h1.nox, h2⟩
theorem ok_Book___eq__ (T : Txt w K mg)  : FD P w K mg base CX0 2 (He.ma K (He.ga K "Book") "__eq__") ["self", "other"] (sp_Book___eq__ K) := by
  refine FD.mk0 T.f_Book___eq__ sc_Book___eq__ (fun vs H Q E h => ?_) (fun _ _ _ _ _ _ us hl => match us, hl with | [_, _], _ => rfl) (fun cdv A outer s H vs Q E hr h => ⟨_, (pss_one (ps_ret (pe_and (pe_callB call_isi (by rfl) T.n_isinstance bb_isinstance (pa_cons (pv 1) (pa_cons (pe_glob (v := .ref (He.ga K "Book")) (by rfl) T.g_Book rfl) pa_nil))) (pe_and (pe_cmpR (u_eqDI (hu0 hr)) (pe_fld (pv 0) (by rfl)) (pe_fld (pv 1) (by rfl)) (nomark _)) (pe_one (pe_cmpR (u_eqDI (hu0 hr)) (pe_fld (pv 0) (by rfl)) (pe_fld (pv 1) (by rfl)) (nomark _))))))), ?_⟩)
  · obtain ⟨a, b, kvs, svs, rfl, _⟩ := h
    rfl
  · obtain ⟨a, b, kvs, svs, rfl, ⟨dx, d1, d2, h1, h2, h3, ne⟩, ⟨dy, e1, e2, g1, g2, g3, ne'⟩, nk, fk, ns, fs, kk⟩ := h
    walk_at "st"
    walk_at "rd"
    refine x_isC g1 T.c_Book T.is_Book ?_
    walk_at "rd"
    refine x_fldB h1 T.c_Book T.na_Book__kinds rfl ?_
    walk_at "rd"
    refine x_fldB g1 T.c_Book T.na_Book__kinds rfl ?_
    refine x_eqDI h2 g2 nk fk ?_
    walk_at "rd"
    refine x_fldB h1 T.c_Book T.na_Book__sizes rfl ?_
    walk_at "rd"
    refine x_fldB g1 T.c_Book T.na_Book__sizes rfl ?_
    refine x_eqDI h3 g3 ns fs ?_
    walk_at "rd"
    exact kk
theorem okB0 (T : Txt w K mg) : FnR P w K mg base CX0 2 (He.ma K (He.ga K "Book") "__init__") (fun vs H Q E => sp_Book___init__ K (vs ++ [.ref (He.dflAt ("Book", some "__init__") 0 K), .ref (He.dflAt ("Book", some "__init__") 1 K)]) H Q E) := by
  obtain ⟨fd, F, O⟩ := okI_Book (P := P) (w := w) (base := base) T
  obtain ⟨ds, h1, h2⟩ := F.binds1 (ps := ["self", "kinds", "sizes"]) 1 0 (by simp) rfl fun T kV doc pm an cdv ct us its h1 h2 => match us, its, h1, h2 with | [_], [_, _], _, _ => ⟨_, rfl, rfl⟩
  exact O.raw h2 h1
theorem okB2 (T : Txt w K mg) : FnR P w K mg base CX0 2 (He.ma K (He.ga K "Book") "__init__") (sp_Book___init__ K) := by
  obtain ⟨fd, F, O⟩ := okI_Book (P := P) (w := w) (base := base) T
  obtain ⟨ds, h1, h2⟩ := F.binds1 (ps := ["self", "kinds", "sizes"]) 3 2 (by simp) rfl fun T kV doc pm an cdv ct us its h1 h2 => match us, its, h1, h2 with | [_, _, _], [_, _], _, _ => ⟨_, rfl, rfl⟩
  exact (O.raw h2 h1).imp fun vs H Q E h => by rw [show ([V.ref (He.dflAt ("Book", some "__init__") 0 K), V.ref (He.dflAt ("Book", some "__init__") 1 K)] : List V).drop 2 = [] from rfl, List.append_nil]; exact h
theorem ok_copied (T : Txt w K mg)  : FD P w K mg base CX0 4 (He.ga K "copied") ["book"] (sp_copied K) := by
  refine FD.mk0 T.f_copied sc_copied (fun vs H Q E h => ?_) (fun _ _ _ _ _ _ us hl => match us, hl with | [_], _ => rfl) (fun cdv A outer s H vs Q E hr h => ⟨_, (pss_one (ps_ret (StX.pe_makeR T.mk_Book (okB2 T) (hr.mono (by decide)) (by rfl) T.g_Book pass0 (pa_cons (pe_fld (pv 0) (by rfl)) (pa_cons (pe_fld (pv 0) (by rfl)) pa_nil))))), ?_⟩)
  · obtain ⟨b, kvs, svs, rfl, _⟩ := h
    rfl
  · obtain ⟨b, kvs, svs, rfl, hb, kk⟩ := h
    obtain ⟨dx, d1, d2, h1, h2, h3, ne⟩ := id hb
    walk_at "st"
    walk_at "rd"
    refine x_fldB h1 T.c_Book T.na_Book__kinds rfl ?_
    walk_at "rd"
    refine x_fldB h1 T.c_Book T.na_Book__sizes rfl ?_
    walk_at "rd"
    refine nO fun x dy H1 hx hi c1 => ?_
    refine ⟨x, dy, .ref d1, .ref d2, kvs, svs, rfl, hi, .inr ⟨d1, rfl, c1.get0 h2⟩, .inr ⟨d2, rfl, c1.get0 h3⟩, fun H2 e1 e2 _ _ hB c2 => ⟨rfl, ?_⟩⟩
    exact kk x H2 hx ⟨dy, e1, e2, hB⟩ ((c1.nilL c2).drop hx)
theorem ok_Book_stores (T : Txt w K mg)  : FD P w K mg base CX0 1 (pgA K (He.ga K "Book") "stores" 0) ["self"] (sp_Book_stores K) := by
  refine FD.mk0 T.f_Book_stores sc_Book_stores (fun vs H Q E h => ?_) (fun _ _ _ _ _ _ us hl => match us, hl with | [_], _ => rfl) (fun cdv A outer s H vs Q E hr h => ⟨_, (pss_cons (ps_set (i := 1) sc_Book_stores.nd rfl (.inl rfl) pe_int)
  (pss_cons (ps_lock (ps_for PassesOwn.never rfl (pi_keys (pe_fld (pv 0) (by rfl))) (pg_name (i := 2) sc_Book_stores.nd rfl (.inl rfl)) (pss_one (ps_set (i := 1) sc_Book_stores.nd rfl (.inl rfl) (pe_op u_mul (pv 1) (pe_dget (hu_of hr) (pe_fld (pv 0) rfl) (pv 2) (fun _ _ => rfl)))))))
  (pss_one (ps_ret (pv 1))))), ?_⟩)
  · obtain ⟨b, kvs, rfl, _⟩ := h
    rfl
  · obtain ⟨b, kvs, rfl, ⟨dx, d1, d2, h1, h2, h3, ne⟩, k⟩ := h
    walk_at "st"
    walk_at "rd"
    have ndb : b ≠ d2 := ne_of h1 h3 (by simp)
    refine ⟨d2, .dK [], h3, (by simp [Mut]), fun od => ?_⟩
    have h1' : upd H d2 (.frz od (.dK [])) b = _ := (upd_ne ndb).trans h1
    refine x_for ?_
    refine x_keys ?_
    walk_at "rd"
    refine x_fldB h1' T.c_Book T.na_Book__sizes rfl ?_
    refine ⟨d2, od, rfl, .inl ⟨[], upd_same, ?_⟩⟩
    refine ⟨fun i m σ H' => i = 0 ∧ σ = [some (.ref b), some (.int 1), none] ∧ H' = upd H d2 (.frz od (.dK [])), ⟨0, rfl, rfl, rfl⟩, ?_⟩
    rintro i m σ H' ⟨rfl, rfl, rfl⟩
    refine .inl ⟨⟨upd_same, Nat.le_refl _⟩, upd_same, ?_⟩
    have e : upd (upd H d2 (.frz od (.dK []))) d2 (.dK []) = H := by
      funext c
      by_cases hc : c = d2
      · rw [hc, upd_same, h3]
      · rw [upd_ne hc, upd_ne hc]
    rw [e]
    walk_at "rd"
    exact k
end
def rNotInKd (K : PySem.W.Frag) (d : Addr) : R2 := fun x y H Q => ∃ (z : Str) (r : Option Value), x = .str z ∧ y = .ref d ∧ PySem.W.nsIn K d z = some r ∧ Q (.bl (!r.isSome)) H
theorem u_notinKd {X : Cx} {d : Addr} (h : ∃ es n, KDict X.K X.w d es n) : OpR X (compareOp .NotIn) (rNotInKd X.K d) := by
  obtain ⟨es, n, D⟩ := h
  exact op_notIn_kd D
def rItemKd (K : PySem.W.Frag) (d : Addr) : R2 := fun x y H Q => ∃ (z : Str) (u0 : Value) (v0 : V), x = .ref d ∧ y = .str z ∧ PySem.W.nsIn K d z = some (some u0) ∧ RelV v0 u0 ∧ Q v0 H
theorem pe_itemKd {X : Cx} {d : Addr} {o i : Expr} {td ty : TE} {pos : Pos} (h : ∃ es n, KDict X.K X.w d es n) (ho : PE X o td) (hi : PE X i ty) (hs : NoSl i) : PE X (.Subscript o i pos) (tOp (rItemKd X.K d) td ty) := by
  obtain ⟨es, n, D⟩ := h
  refine ⟨fun pins s σ H Q I h => ?_⟩
  refine subD_of PySem.F.slot_dict_getitem.lookup hs (thn (ho.run pins s σ H _ I h) fun u s1 ⟨x, H1, I1, rx, q1⟩ => thn (hi.run pins s1 σ H1 _ I1 q1) fun iv s2 ⟨y, H2, I2, ry, q2⟩ => ?_)
  obtain ⟨z, u0, v0, ex, _⟩ := id q2
  subst ex
  obtain rfl : u = Value.ref d := rx
  exact ⟨kd_type D I2, op_item_kd D pins s2 σ H2 (.ref d) _ _ _ _ I2 rfl ry q2⟩
theorem x_notInKd {K : PySem.W.Frag} {d : Addr} {z : Str} {u0 : Value} {H : Hp} {Q : VK} (h : PySem.W.nsIn K d z = some (some u0)) (q : Q (.bl false) H) : rNotInKd K d (.str z) (.ref d) H Q := ⟨z, _, rfl, rfl, h, q⟩
theorem x_itemKd {K : PySem.W.Frag} {d : Addr} {z : Str} {u0 : Value} {v0 : V} {H : Hp} {Q : VK} (h : PySem.W.nsIn K d z = some (some u0)) (r : RelV v0 u0) (q : Q v0 H) : rItemKd K d (.ref d) (.str z) H Q := ⟨z, u0, v0, rfl, rfl, h, r, q⟩
theorem x_neTS {K : PySem.W.Frag} {H : Hp} {Q : VK} {a b : Addr} {xs ys : List Str} (ha : SqT K H a (xs.map V.str)) (hb : SqT K H b (ys.map V.str)) (h1 : ∀ x ∈ xs, OkT x) (h2 : ∀ x ∈ ys, OkT x) (q : Q (.bl (!decide (xs = ys))) H) : rNeU K (.ref a) (.ref b) H Q :=
  .inr ⟨_, _, .tup ha (dpa_str xs), .tup hb (dpa_str ys), sh_tup h1, sh_tup h2, by show Q (.bl (!PyData.eqvAll (sD xs) (sD ys))) H; rw [eqv_str]; exact q⟩
theorem okT_leave : OkT "leave" := ⟨by decide +kernel, by decide +kernel⟩
/-- the statement ('leave', n) -/
def Lv (K : PySem.W.Frag) (H : Hp) (s : Addr) (n : Str) : Prop := SqT K H s [.str "leave", .str n]
theorem Lv.ch {K : PySem.W.Frag} {S : List Addr} {H H' : Hp} {s : Addr} {n : Str} (h : Lv K H s n) (c : Ch S H H') : Lv K H' s n := c.sqT h
/-- a body at b of one leave, named n -/
def Bd (K : PySem.W.Frag) (H : Hp) (b : Addr) (n : Str) : Prop := ∃ dx bk t s, H b = some (.ins (He.ga K "Body") dx [("book", .ref bk), ("statements", .ref t)]) ∧ SqT K H t [.ref s] ∧ Lv K H s n
/-- .. just made: its book is at hand -/
def BdB (K : PySem.W.Frag) (H : Hp) (b : Addr) (n : Str) : Prop := ∃ dx bk t s, H b = some (.ins (He.ga K "Body") dx [("book", .ref bk), ("statements", .ref t)]) ∧ Bk K H bk [] [] ∧ SqT K H t [.ref s] ∧ Lv K H s n
theorem BdB.bd {K : PySem.W.Frag} {H : Hp} {b : Addr} {n : Str} (h : BdB K H b n) : Bd K H b n := by
  obtain ⟨dx, bk, t, s, h1, _, h2, h3⟩ := h
  exact ⟨dx, bk, t, s, h1, h2, h3⟩
theorem Bd.ch {K : PySem.W.Frag} {S : List Addr} {H H' : Hp} {b : Addr} {n : Str} (h : Bd K H b n) (c : Ch S H H') (hn : b ∉ S) : Bd K H' b n := by
  obtain ⟨dx, bk, t, s, h1, h2, h3⟩ := h
  exact ⟨dx, bk, t, s, c.st _ _ hn h1, c.sqT h2, h3.ch c⟩
def sp_blocks_of (K : PySem.W.Frag) : Sp := fun vs H Q E => ∃ (s : Addr) (n : Str), vs = [.ref s] ∧ Lv K H s n ∧ ∀ t H', SqT K H' t [] → Ch [] H H' → Q (.ref t) H'
def sp_check_parts (K : PySem.W.Frag) : Sp := fun vs H Q E => ∃ (b : V) (s : Addr) (n : Str), vs = [b, .ref s] ∧ Lv K H s n ∧ IsName n ∧ ∀ H', Ch [] H H' → Q .non H'
def sp_check_all (K : PySem.W.Frag) : Sp := fun vs H Q E => ∃ (b : V) (t s : Addr) (n : Str), vs = [b, .ref t, .int 0] ∧ SqT K H t [.ref s] ∧ Lv K H s n ∧ IsName n ∧ ∀ H', Ch [] H H' → Q .non H'
def sp_in_order (K : PySem.W.Frag) : Sp := fun vs H Q E => ∃ (t s : Addr) (n : Str), vs = [.ref t] ∧ SqT K H t [.ref s] ∧ Lv K H s n ∧ ∀ l H', H l = none → H' l = some (.lst [.ref s]) → Ch [] H H' → Q (.ref l) H'
def sp_Body___init__ (K : PySem.W.Frag) : Sp := fun vs H Q E => ∃ (x dx b t s : Addr) (n : Str), vs = [.ref x, .ref b, .ref t] ∧ H x = some (.ins (He.ga K "Body") dx []) ∧ Bk K H b [] [] ∧ SqT K H t [.ref s] ∧ Lv K H s n ∧ IsName n ∧ ∀ H', BdB K H' x n → Ch [x] H H' → Q .non H'
section
variable {P : Program} {w : World} {K : PySem.W.Frag} {mg : Str → Option Value} {base : Heap}
theorem ok_blocks_of (T : Txt w K mg)  : FD P w K mg base CX0 1 (He.ga K "blocks_of") ["statement"] (sp_blocks_of K) := by
  refine FD.mk0 T.f_blocks_of sc_blocks_of (fun vs H Q E h => ?_) (fun _ _ _ _ _ _ us hl => match us, hl with | [_], _ => rfl) (fun cdv A outer s H vs Q E hr h => ⟨_, (pss_cons (ps_if (pt_cmpR (u_eq (hu64 hr)) (pe_ix ix_seq (pv 0) pe_int (by intro _ _; rfl)) pe_str (nomark _)) (pss_one (ps_ret (pe_slice u_slice (pv 0) (po_some pe_int) (po_some pe_int)))) pss_nil)
  (pss_cons (ps_if (pt_cmpR (u_eq (hu64 hr)) (pe_ix ix_seq (pv 0) pe_int (by intro _ _; rfl)) pe_str (nomark _)) (pss_one (ps_ret (pe_slice u_slice (pv 0) (po_some pe_int) (po_some pe_int)))) pss_nil)
  (pss_cons (ps_if (pt_cmpR (u_eq (hu64 hr)) (pe_ix ix_seq (pv 0) pe_int (by intro _ _; rfl)) pe_str (nomark _)) (pss_one (ps_ret (pe_slice u_slice (pv 0) (po_some pe_int) (po_some pe_int)))) pss_nil)
  (pss_one (ps_ret (pe_tup pa_nil)))))), ?_⟩)
  · obtain ⟨s, n, rfl, _⟩ := h
    rfl
  · obtain ⟨s, n, rfl, hs, k⟩ := h
    have hs' : SqT K H s [.str "leave", .str n] := hs
    walk_at "st"
    walk_at "rd"
    exact nT fun p H' hp h' c => k p H' (SqT.of h') c
theorem ok_check_parts (T : Txt w K mg)  : FD P w K mg base CX0 3 (He.ga K "check_parts") ["book", "statement"] (sp_check_parts K) := by
  refine FD.mk0 T.f_check_parts sc_check_parts (fun vs H Q E h => ?_) (fun _ _ _ _ _ _ us hl => match us, hl with | [_, _], _ => rfl) (fun cdv A outer s H vs Q E hr h => ⟨_, (pss_cons (ps_set (i := 2) sc_check_parts.nd rfl (.inl rfl) (pe_ix ix_seq (pv 1) pe_int (by intro _ _; rfl)))
  (pss_one (ps_if (pt_cmpR (u_eq (hu64 hr)) (pv 2) pe_str (nomark _)) pss_never (pss_one (ps_if (pt_cmpR (u_eq (hu64 hr)) (pv 2) pe_str (nomark _)) pss_never (pss_one (ps_if (pt_cmpR u_in (pv 2) (pe_tup (pa_cons pe_str (pa_cons pe_str pa_nil))) (by rfl)) pss_never (pss_one (ps_if (pt_cmpR (u_eq (hu64 hr)) (pv 2) pe_str (nomark _)) pss_never (pss_one (ps_expr (pe_callD (ok_check_name T) hr (by first | decide | omega) (by rfl) T.g_check_name pass0 (pa_cons (pe_ix ix_seq (pv 1) pe_int (by intro _ _; rfl)) pa_nil))))))))))))), ?_⟩)
  · obtain ⟨b, s, n, rfl, _⟩ := h
    rfl
  · obtain ⟨b, s, n, rfl, hs, hn, k⟩ := h
    have hs' : SqT K H s [.str "leave", .str n] := hs
    walk_at "st"
    walk_at "rd"
    refine nT fun p H1 hp h1 c1 => ?_
    refine x_inT (SqT.of h1) rfl rfl ?_
    refine ⟨_, rfl, ?_⟩
    refine ite_b (fun hb => ?_) (fun _ => ?_)
    · rw [show inV (V.str (Str.ofString "leave")) [V.str (Str.ofString "set"), V.str (Str.ofString "when")] = false by decide +kernel] at hb
      cases hb
    have hs1 := c1.sqT hs'
    walk_at "rd"
    refine ⟨n, rfl, hn, ?_⟩
    walk_at "rd"
    exact k H1 c1
theorem ok_check_all (T : Txt w K mg)  : FD P w K mg base CX0 4 (He.ga K "check_all") ["book", "statements", "depth"] (sp_check_all K) := by
  refine FD.mk0 T.f_check_all sc_check_all (fun vs H Q E h => ?_) (fun _ _ _ _ _ _ us hl => match us, hl with | [_, _, _], _ => rfl) (fun cdv A outer s H vs Q E hr h => ⟨_, (pss_one (ps_for PassesOwn.never rfl (pi_tup (pv 1)) (pg_name (i := 3) sc_check_all.nd rfl (.inl rfl)) (pss_cons (ps_set (i := 4) sc_check_all.nd rfl (.inl rfl) (pe_ifExp (pt_cmpR (u_ne (hu64 hr)) (pv 3) (pe_tup pa_nil) (nomark _)) (pe_ix ix_seq (pv 3) pe_int (by intro _ _; rfl)) pe_str))
  (pss_cons (ps_if (PW.pt (pw_or (pt_cmpR (u_notinKd T.kd_LENGTHS) (pv 4) (pe_gc (by rfl) T.v_LENGTHS) (by rfl)) (pw_or (pt_cmpR (u_ne (hu64 hr)) (pe_callB c_len (by rfl) T.n_len bb_len (pa_cons (pv 3) pa_nil)) (pe_itemKd T.kd_LENGTHS (pe_gc (by rfl) T.v_LENGTHS) (pv 4) (by intro _ _; rfl)) (nomark _)) (pw_or1 (pt_cmpR u_gt (pv 2) (pe_gc (by rfl) T.v_DEPTH) (nomark _)))))) pss_never pss_nil)
  (pss_cons (ps_expr (pe_callD (ok_check_parts T) hr (by first | decide | omega) (by rfl) T.g_check_parts pass0 (pa_cons (pv 0) (pa_cons (pv 3) pa_nil))))
  (pss_one (ps_for PassesOwn.never rfl (pi_tup (pe_callD (ok_blocks_of T) hr (by first | decide | omega) (by rfl) T.g_blocks_of pass0 (pa_cons (pv 3) pa_nil))) (pg_name (i := 5) sc_check_all.nd rfl (.inl rfl)) pss_never))))))), ?_⟩)
  · obtain ⟨b, t, s, n, rfl, _⟩ := h
    rfl
  · obtain ⟨b, t, s, n, rfl, ht, hs, hn, k⟩ := h
    have hs' : SqT K H s [.str "leave", .str n] := hs
    obtain ⟨u2, hu1, hu2⟩ := T.tv_LENGTHS_leave
    walk_at "st"
    walk_at "rd"
    refine goT [.ref s] (fun i σ H' => Ch [] H H' ∧ ∃ o1 o2 o3, σ = [some b, some (.ref t), some (.int 0), o1, o2, o3]) ⟨Ch.refl _, _, _, _, rfl⟩ (fun i σ H' hi hI => hI.1.sqT ht) (fun i x σ H' hx hI => ?_) (fun σ H' hI => ?_)
    · obtain ⟨cc, o1, o2, o3, rfl⟩ := hI
      obtain rfl : x = V.ref s := by
        cases i with
        | zero => exact (Option.some.inj hx).symm
        | succ i => simp at hx
      have hs2 : SqT K H' s [.str "leave", .str n] := cc.sqT hs'
      have hok : ∀ x ∈ (["leave", n] : List Str), OkT x := fun x hx => by
        rcases List.mem_cons.mp hx with e | e
        · rw [e]; exact okT_leave
        · rw [List.mem_singleton.mp e]; exact name_okT hn
      walk_at "rd"
      refine nT fun p H1 hp h1 c1 => ?_
      refine x_neTS (xs := ["leave", n]) (ys := []) (c1.sqT hs2) (SqT.of h1) hok (fun x hx => by cases hx) ?_
      refine ⟨_, rfl, ite_nn (by simp) ?_⟩
      have hs3 := c1.sqT hs2
      walk_at "rd"
      refine x_notInKd hu1 ?_
      refine ⟨_, rfl, ite_F ?_⟩
      walk_at "rd"
      refine x_itemKd hu1 hu2 ?_
      walk_at "rd"
      refine ⟨b, s, n, rfl, hs3, hn, fun H2 c2 => ?_⟩
      walk_at "rd"
      refine ⟨s, n, rfl, c2.sqT hs3, fun q H3 hq c3 => ?_⟩
      refine ⟨q, rfl, ⟨_, hq⟩, goT [] (fun i σ H' => H' = H3 ∧ σ = _) ⟨rfl, rfl⟩ (fun i σ H' hi hI => by rw [hI.1]; exact hq) (fun i x σ H' hx hI => by simp at hx) (fun σ H' hI => ?_)⟩
      obtain ⟨rfl, rfl⟩ := hI
      exact ⟨((cc.nilL c1).nilL c2).nilL c3, _, _, _, rfl⟩
    · obtain ⟨cc, o1, o2, o3, rfl⟩ := hI
      walk_at "rd"
      exact k _ cc
theorem ok_in_order (T : Txt w K mg)  : FD P w K mg base CX0 4 (He.ga K "in_order") ["statements"] (sp_in_order K) := by
  refine FD.mk0 T.f_in_order sc_in_order (fun vs H Q E h => ?_) (fun _ _ _ _ _ _ us hl => match us, hl with | [_], _ => rfl) (fun cdv A outer s H vs Q E hr h => ⟨_, (pss_cons (ps_set (i := 1) sc_in_order.nd rfl (.inl rfl) (pe_lst pa_nil))
  (pss_cons (ps_for PassesOwn.never rfl (pi_tup (pv 0)) (pg_name (i := 2) sc_in_order.nd rfl (.inl rfl)) (pss_cons (ps_expr (pe_bm PySem.F.plainAttrs_list PySem.F.slot_list_append PySem.F.type_list_append mt_append (pv 1) (pa_cons (pv 2) pa_nil)))
  (pss_one (ps_for PassesOwn.never rfl (pi_tup (pe_callD (ok_blocks_of T) hr (by first | decide | omega) (by rfl) T.g_blocks_of pass0 (pa_cons (pv 2) pa_nil))) (pg_name (i := 3) sc_in_order.nd rfl (.inl rfl)) pss_never))))
  (pss_one (ps_ret (pv 1))))), ?_⟩)
  · obtain ⟨t, s, n, rfl, _⟩ := h
    rfl
  · obtain ⟨t, s, n, rfl, ht, hs, k⟩ := h
    have hs' : SqT K H s [.str "leave", .str n] := hs
    walk_at "st"
    walk_at "rd"
    refine nL fun l H1 hl h1 c1 => ?_
    walk_at "rd"
    refine goT [.ref s] (fun i σ H' => Ch [] H H' ∧ H' l = some (.lst (([V.ref s] : List V).take i)) ∧ ∃ o1 o2, σ = [some (.ref t), some (.ref l), o1, o2]) ⟨c1, h1, _, _, rfl⟩ (fun i σ H' hi hI => hI.1.sqT ht) (fun i x σ H' hx hI => ?_) (fun σ H' hI => ?_)
    · obtain ⟨cc, hl', o1, o2, rfl⟩ := hI
      obtain ⟨rfl, rfl⟩ : i = 0 ∧ x = V.ref s := by
        cases i with
        | zero => exact ⟨rfl, (Option.some.inj hx).symm⟩
        | succ i => simp at hx
      walk_at "rd"
      refine x_append hl' (sz_lt (by simp)) fun H2 h2 c2 => ?_
      walk_at "rd"
      have cc2 : Ch [] H H2 := Ch.drop (S := []) ((cc.nilL c2).mono (S' := [l]) (fun _ z => z)) hl
      refine ⟨s, n, rfl, cc2.sqT hs', fun q H3 hq c3 => ?_⟩
      refine ⟨q, rfl, ⟨_, hq⟩, goT [] (fun i σ H' => H' = H3 ∧ σ = _) ⟨rfl, rfl⟩ (fun i σ H' hi hI => by rw [hI.1]; exact hq) (fun i x σ H' hx hI => by simp at hx) (fun σ H' hI => ?_)⟩
      obtain ⟨rfl, rfl⟩ := hI
      exact ⟨cc2.nilL c3, c3.get0 h2, _, _, rfl⟩
    · obtain ⟨cc, hl', o1, o2, rfl⟩ := hI
      walk_at "rd"
      exact k l _ hl hl' cc
theorem ok_Body___init__ (T : Txt w K mg)  : FD P w K mg base CX0 6 (He.ma K (He.ga K "Body") "__init__") ["self", "book", "statements"] (sp_Body___init__ K) := by
  refine FD.mk0 T.f_Body___init__ sc_Body___init__ (fun vs H Q E h => ?_) (fun _ _ _ _ _ _ us hl => match us, hl with | [_, _, _], _ => rfl) (fun cdv A outer s H vs Q E hr h => ⟨_, (pss_cons (ps_fld (pv 0) (pe_callD (ok_copied T) hr (by first | decide | omega) (by rfl) T.g_copied pass0 (pa_cons (pv 1) pa_nil)) rfl)
  (pss_cons (ps_fld (pv 0) (pe_callTy c_tuple (by rfl) T.n_tuple bb_tuple (pa_cons (pv 2) pa_nil)) rfl)
  (pss_cons (ps_expr (pe_callD (ok_check_all T) hr (by first | decide | omega) (by rfl) T.g_check_all pass0 (pa_cons (pe_fld (pv 0) (by rfl)) (pa_cons (pe_fld (pv 0) (by rfl)) (pa_cons pe_int pa_nil)))))
  (pss_cons (ps_set (i := 3) sc_Body___init__.nd rfl (.inl rfl) (pe_callB c_len (by rfl) T.n_len bb_len (pa_cons (pe_callD (ok_in_order T) hr (by first | decide | omega) (by rfl) T.g_in_order pass0 (pa_cons (pe_fld (pv 0) (by rfl)) pa_nil)) pa_nil)))
  (pss_cons (ps_if (pt_cmpR u_gt (pv 3) (pe_cval (pe_glob (v := .ref (He.ga K "Body")) (by rfl) T.g_Body rfl)) (nomark _)) pss_never pss_nil)
  (pss_one (ps_if (pt_cmpR u_gt (pe_op u_mul (pe_op u_add (pv 3) pe_int) (pe_propF (E := E0) (pe_fld (pv 0) (by rfl)) T.c_Book T.p_Book_stores (ok_Book_stores T) (hr.mono (by decide)) rfl)) (pe_cval (pe_glob (v := .ref (He.ga K "Body")) (by rfl) T.g_Body rfl)) (nomark _)) pss_never pss_nil))))))), ?_⟩)
  · obtain ⟨x, dx, b, t, s, n, rfl, _⟩ := h
    rfl
  · obtain ⟨x, dx, b, t, s, n, rfl, hx, hb, ht, hs, hn, k⟩ := h
    walk_at "st"
    walk_at "rd"
    refine ⟨b, [], [], rfl, hb, fun b' H1 hb' hbk c1 => ?_⟩
    have hx1 := c1.get0 hx
    walk_at "rd"
    refine x_sfldB hx1 T.c_Body T.na_Body_book (by decide) fun H2 hx2 c2 => ?_
    have nb : ∀ {H0 : Hp} {fs : List (Str × V)}, H0 x = some (.ins (He.ga K "Body") dx fs) → NB (.ins (He.ga K "Body") dx fs) = true → ∀ y ∈ [x], ∀ o, H0 y = some o → NB o = true := fun {H0 fs} e q y m o e2 => by
      rw [List.mem_singleton.mp m, e] at e2
      cases e2
      exact q
    have hx2' : H2 x = some (.ins (He.ga K "Body") dx [("book", .ref b')]) := hx2
    have hbk2 := hbk.ch c2 (nb hx1 rfl)
    have ht2 := c2.sqT (c1.sqT ht)
    walk_at "rd"
    refine x_tupT ht2 ?_
    walk_at "rd"
    refine x_sfldB hx2' T.c_Body T.na_Body_statements (by simp) fun H3 hx3 c3 => ?_
    have hx3' : H3 x = some (.ins (He.ga K "Body") dx [("book", .ref b'), ("statements", .ref t)]) := hx3
    have hbk3 := hbk2.ch c3 (nb hx2' rfl)
    have ht3 := c3.sqT ht2
    have hs3 : Lv K H3 s n := c3.sqT (c2.sqT (c1.sqT hs))
    walk_at "rd"
    refine x_fldB hx3' T.c_Body T.na_Body_book rfl ?_
    walk_at "rd"
    refine x_fldB hx3' T.c_Body T.na_Body_statements rfl ?_
    walk_at "rd"
    refine ⟨.ref b', t, s, n, rfl, ht3, hs3, hn, fun H4 c4 => ?_⟩
    walk_at "rd"
    refine x_fldB (c4.get0 hx3') T.c_Body T.na_Body_statements rfl ?_
    walk_at "rd"
    refine ⟨t, s, n, rfl, c4.sqT ht3, hs3.ch c4, fun l H5 hl h5 c5 => ?_⟩
    walk_at "rd"
    have hx5 := c5.get0 (c4.get0 hx3')
    have hbk5 := (hbk3.ch0 c4).ch0 c5
    refine x_cval T.cv_Body_STATEMENTS ?_
    walk_at "rd"
    refine x_fldB hx5 T.c_Body T.na_Body_book rfl ?_
    obtain ⟨dbx, d1, d2, hb1, hb2, hb3, hne⟩ := id hbk5
    refine ⟨b', dbx, _, rfl, hb1, ?_⟩
    refine ⟨b', [], rfl, hbk5, ?_⟩
    refine x_mul (.inr (by decide)) ?_
    walk_at "rd"
    refine x_cval T.cv_Body_SIZE ?_
    walk_at "rd"
    exact k _ ⟨dx, b', t, s, hx5, hbk5, c5.sqT (c4.sqT ht3), (hs3.ch c4).ch c5⟩ ((c1.nilL (c2.seq c3)).seq ((c4.nilL c5).any))
end
/-- a desk at d, its table at db -/
def Dk (K : PySem.W.Frag) (H : Hp) (d dx bk d1 d2 db : Addr) (kvs : List (Key × V)) : Prop := H d = some (.ins (He.ga K "Desk") dx [("book", .ref bk), ("reading", .non), ("_bodies", .ref db)]) ∧ (∃ bx, BkA K H bk bx d1 d2 [] []) ∧ H db = some (.dK kvs) ∧ db ≠ d1 ∧ db ≠ d2
theorem Dk.ch0 {K : PySem.W.Frag} {H H' : Hp} {d dx bk d1 d2 db : Addr} {kvs : List (Key × V)} (h : Dk K H d dx bk d1 d2 db kvs) (c : Ch [] H H') : Dk K H' d dx bk d1 d2 db kvs := by
  obtain ⟨h1, ⟨bx, h2, h3, h4, h5⟩, h6, h7⟩ := h
  exact ⟨c.get0 h1, ⟨bx, c.get0 h2, c.get0 h3, c.get0 h4, h5⟩, c.get0 h6, h7⟩
/-- what else may change -/
def NB2 : HO → Bool
  | .lst _ => true
  | _ => false
theorem Dk.ch {K : PySem.W.Frag} {S : List Addr} {H H' : Hp} {d dx bk d1 d2 db : Addr} {kvs : List (Key × V)} (h : Dk K H d dx bk d1 d2 db kvs) (c : Ch S H H') (n : ∀ x ∈ S, ∀ o, H x = some o → NB2 o = true) : Dk K H' d dx bk d1 d2 db kvs := by
  obtain ⟨h1, ⟨bx, h2, h3, h4, h5⟩, h6, h7⟩ := h
  have off : ∀ {x : Addr} {o : HO}, H x = some o → NB2 o = false → x ∉ S := fun {x o} e q m => by
    rw [n x m o e] at q
    cases q
  exact ⟨c.st _ _ (off h1 rfl) h1, ⟨bx, c.st _ _ (off h2 rfl) h2, c.st _ _ (off h3 rfl) h3, c.st _ _ (off h4 rfl) h4, h5⟩, c.st _ _ (off h6 rfl) h6, h7⟩
/-- the table holds a body for each of the names, and nothing else -/
def KvOk (K : PySem.W.Frag) (H : Hp) (kvs : List (Key × V)) (names : List Str) : Prop := ∀ n, (n ∈ names → ∃ b, valV kvs (.inr n) = some (.ref b) ∧ Bd K H b n) ∧ (n ∉ names → valV kvs (.inr n) = none)
def sp_Desk___init__ (K : PySem.W.Frag) : Sp := fun vs H Q E => ∃ (x dx b : Addr), vs = [.ref x, .ref b] ∧ H x = some (.ins (He.ga K "Desk") dx []) ∧ Bk K H b [] [] ∧ ∀ H' bk d1 d2 db, Dk K H' x dx bk d1 d2 db [] → Ch [x] H H' → Q .non H'
def sp_Desk___getitem__ (K : PySem.W.Frag) : Sp := fun vs H Q E => ∃ (d dx bk d1 d2 db : Addr) (kvs : List (Key × V)) (z : Str), vs = [.ref d, .str z] ∧ Dk K H d dx bk d1 d2 db kvs ∧ (∀ v, valV kvs (.inr z) = some v → Q v H) ∧
  (valV kvs (.inr z) = none → ∀ e H', H' e = some (.xd [("name", .str z)]) → Ch [] H H' → E (.ref (He.ga K "NoBody")) (some e) H')
def sp_Desk___setitem__ (K : PySem.W.Frag) : Sp := fun vs H Q E => ∃ (d dx bk d1 d2 db b : Addr) (kvs : List (Key × V)) (z m : Str), vs = [.ref d, .str z, .ref b] ∧ Dk K H d dx bk d1 d2 db kvs ∧ kvs.length < 1000 ∧ IsName z ∧ BdB K H b m ∧ ∀ H', Dk K H' d dx bk d1 d2 db (putK kvs (.inr z) (.ref b)) → Ch [db] H H' → Q .non H'
section
variable {P : Program} {w : World} {K : PySem.W.Frag} {mg : Str → Option Value} {base : Heap}
theorem ok_Desk___init__ (T : Txt w K mg)  : FD P w K mg base CX0 5 (He.ma K (He.ga K "Desk") "__init__") ["self", "book"] (sp_Desk___init__ K) := by
  refine FD.mk0 T.f_Desk___init__ sc_Desk___init__ (fun vs H Q E h => ?_) (fun _ _ _ _ _ _ us hl => match us, hl with | [_, _], _ => rfl) (fun cdv A outer s H vs Q E hr h => ⟨_, (pss_cons (ps_fld (pv 0) (pe_callD (ok_copied T) hr (by first | decide | omega) (by rfl) T.g_copied pass0 (pa_cons (pv 1) pa_nil)) rfl)
  (pss_cons (ps_fld (pv 0) pe_non rfl)
  (pss_one (ps_fld (pv 0) pe_dnewK rfl)))), ?_⟩)
  · obtain ⟨x, dx, b, rfl, _⟩ := h
    rfl
  · obtain ⟨x, dx, b, rfl, hx, hb, k⟩ := h
    walk_at "st"
    walk_at "rd"
    refine ⟨b, [], [], rfl, hb, fun b' H1 hb' hbk c1 => ?_⟩
    have hx1 := c1.get0 hx
    walk_at "rd"
    refine x_sfldB hx1 T.c_Desk T.na_Desk_book (by decide) fun H2 hx2 c2 => ?_
    have nb : ∀ {H0 : Hp} {fs : List (Str × V)}, H0 x = some (.ins (He.ga K "Desk") dx fs) → NB (.ins (He.ga K "Desk") dx fs) = true → ∀ y ∈ [x], ∀ o, H0 y = some o → NB o = true := fun {H0 fs} e q y m o e2 => by
      rw [List.mem_singleton.mp m, e] at e2
      cases e2
      exact q
    have hx2' : H2 x = some (.ins (He.ga K "Desk") dx [("book", .ref b')]) := hx2
    have hbk2 := hbk.ch c2 (nb hx1 rfl)
    walk_at "rd"
    refine x_sfldB hx2' T.c_Desk T.na_Desk_reading (by simp) fun H3 hx3 c3 => ?_
    have hx3' : H3 x = some (.ins (He.ga K "Desk") dx [("book", .ref b'), ("reading", .non)]) := hx3
    have hbk3 := hbk2.ch c3 (nb hx2' rfl)
    walk_at "rd"
    refine nD fun db H4 hdb h4 c4 => ?_
    have hbk4 := hbk3.ch0 c4
    have hx4 := c4.get0 hx3'
    walk_at "rd"
    refine x_sfldB hx4 T.c_Desk T.na_Desk__bodies (by simp) fun H5 hx5 c5 => ?_
    have hx5' : H5 x = some (.ins (He.ga K "Desk") dx [("book", .ref b'), ("reading", .non), ("_bodies", .ref db)]) := hx5
    obtain ⟨bx', e1, e2, q1, q2, q3, q4⟩ := hbk3
    have n1 : b' ≠ x := fun z => by
      rw [z, hx3'] at q1
      have := Option.some.inj q1
      injection this with _ _ h3
      simp at h3
    have n2 : e1 ≠ x := ne_of q2 hx3' (by simp)
    have n3 : e2 ≠ x := ne_of q3 hx3' (by simp)
    have n4 : db ≠ x := Ne.symm (ne_of_none hx3' hdb)
    exact k H5 b' e1 e2 db ⟨hx5', ⟨bx', c5.get1 (c4.get0 q1) n1, c5.get1 (c4.get0 q2) n2, c5.get1 (c4.get0 q3) n3, q4⟩, c5.get1 h4 n4, Ne.symm (ne_of_none q2 hdb), Ne.symm (ne_of_none q3 hdb)⟩ ((c1.nilL (c2.seq c3)).seq (c4.nilL c5))
theorem ok_Desk___getitem__ (T : Txt w K mg)  : FD P w K mg base (L2N.CX P w) 4 (He.ma K (He.ga K "Desk") "__getitem__") ["self", "name"] (sp_Desk___getitem__ K) := by
  refine FD.mkN T.f_Desk___getitem__ sc_Desk___getitem__ (fun vs H Q E h => ?_) (fun _ _ _ _ _ _ us hl => match us, hl with | [_, _], _ => rfl) (fun cdv A outer s H vs Q E hr h => ⟨_, (pss_cons (ps_if (pt_cmpR (u_notinD (hu_of hr)) (pv 1) (pe_fld (pv 0) (by rfl)) (by rfl)) (pss_one (L2N.ps_raise (by rfl) (L2N.takes_of rfl rfl rfl rfl) (pmk_oexN T.ox_NoBody T.m_NoBody___init__ (ok_NoBody___init__ T) (hr.mono (by decide)) (by rfl) T.g_NoBody (pa_cons (pv 1) pa_nil)))) pss_nil)
  (pss_one (ps_ret (pe_dget (hu_of hr) (pe_fld (pv 0) rfl) (pv 1) (fun _ _ => rfl))))), ?_⟩)
  · obtain ⟨d, dx, bk, d1, d2, db, kvs, z, rfl, _⟩ := h
    rfl
  · obtain ⟨d, dx, bk, d1, d2, db, kvs, z, rfl, hd, k1, k2⟩ := h
    obtain ⟨h1, h2, h3, _⟩ := id hd
    walk_at "st"
    walk_at "rd"
    refine x_fldB h1 T.c_Desk T.na_Desk__bodies rfl ?_
    refine x_notInD h3 ?_
    refine ⟨_, rfl, ?_⟩
    refine ite_nb (fun hs => ?_) (fun hs => ?_)
    · obtain ⟨v, hv⟩ := Option.isSome_iff_exists.mp hs
      walk_at "rd"
      refine x_fldB h1 T.c_Desk T.na_Desk__bodies rfl ?_
      walk_at "rd"
      refine x_dget h3 hv ?_
      exact k1 v hv
    · refine x_mkx1 ?_ (fun hq ⟨v, e, h⟩ => ⟨v, e, hq _ _ h⟩)
      walk_at "rd"
      exact fun e H' he h' c => k2 (by cases q : valV kvs (.inr z) with | none => rfl | some v => rw [q] at hs; cases hs) e H' h' c
theorem ok_Desk___setitem__ (T : Txt w K mg)  : FD P w K mg base CX0 4 (He.ma K (He.ga K "Desk") "__setitem__") ["self", "name", "body"] (sp_Desk___setitem__ K) := by
  refine FD.mk0 T.f_Desk___setitem__ sc_Desk___setitem__ (fun vs H Q E h => ?_) (fun _ _ _ _ _ _ us hl => match us, hl with | [_, _, _], _ => rfl) (fun cdv A outer s H vs Q E hr h => ⟨_, (pss_cons (ps_expr (pe_callD (ok_check_name T) hr (by first | decide | omega) (by rfl) T.g_check_name pass0 (pa_cons (pv 1) pa_nil)))
  (pss_cons (ps_if (pt_cmpR (u_neO T.ne_Book (ok_Book___eq__ T).raw (hr.mono (by decide)) (E := E0) pass0) (pe_fld (pv 2) (by rfl)) (pe_fld (pv 0) (by rfl)) (nomark _)) pss_never pss_nil)
  (pss_one (ps_dput (hu_of hr) (pe_fld (pv 0) (by rfl)) (pv 1) (pv 2) rfl)))), ?_⟩)
  · obtain ⟨d, dx, bk, d1, d2, db, b, kvs, z, m, rfl, _⟩ := h
    rfl
  · obtain ⟨d, dx, bk, d1, d2, db, b, kvs, z, m, rfl, hd, hl, hz, hb, k⟩ := h
    obtain ⟨h1, ⟨bx, h2, g2, g3, g4⟩, h3, n1, n2⟩ := id hd
    obtain ⟨ex, bk2, t, s', f1, f2, _⟩ := id hb
    walk_at "st"
    walk_at "rd"
    refine ⟨z, rfl, hz, ?_⟩
    walk_at "rd"
    refine x_fldB f1 T.c_Body T.na_Body_book rfl ?_
    walk_at "rd"
    refine x_fldB h1 T.c_Desk T.na_Desk_book rfl ?_
    refine ⟨bk2, bk, _, _, _, _, rfl, rfl, f2.choose_spec.choose_spec.choose_spec.1, h2, ?_⟩
    refine ⟨bk2, bk, [], [], rfl, f2, ⟨bx, d1, d2, h2, g2, g3, g4⟩, List.nodup_nil, (fun _ h => by cases h), List.nodup_nil, (fun _ h => by cases h), ?_⟩
    walk_at "rd"
    refine x_fldB h1 T.c_Desk T.na_Desk__bodies rfl ?_
    walk_at "rd"
    refine ⟨db, _, rfl, DPut.k (k := .inr z) h3 (sz_lt (by omega)), ?_⟩
    have c : Ch [db] H (upd H db (.dK (putK kvs (.inr z) (.ref b)))) := Ch.mut h3 rfl
    have h3' : upd H db (.dK (putK kvs (.inr z) (.ref b))) db = some (.dK (putK kvs (.inr z) (.ref b))) := upd_same
    revert c h3'
    generalize upd H db (.dK (putK kvs (.inr z) (.ref b))) = H2
    intro c h3'
    exact k H2 ⟨c.get1 h1 (ne_of h1 h3 (by simp)), ⟨bx, c.get1 h2 (ne_of h2 h3 (by simp)), c.get1 g2 (Ne.symm n1), c.get1 g3 (Ne.symm n2), g4⟩, h3', n1, n2⟩ c
end
inductive Tr where
  | body (n : Str)
  | nur (r : Str) (ms : List Tr)
mutual
def Tr.bs : Tr → List Str
  | .body n => [n]
  | .nur _ ms => Tr.bsL ms
def Tr.bsL : List Tr → List Str
  | [] => []
  | t :: ts => t.bs ++ Tr.bsL ts
end
mutual
def Tr.ins : Tr → List Str
  | .body _ => []
  | .nur r ms => r :: Tr.insL ms
def Tr.insL : List Tr → List Str
  | [] => []
  | t :: ts => t.ins ++ Tr.insL ts
end
mutual
def Tr.ht : Tr → Nat
  | .body _ => 0
  | .nur _ ms => 1 + Tr.htL ms
def Tr.htL : List Tr → Nat
  | [] => 0
  | t :: ts => max t.ht (Tr.htL ts)
end
-- every nursery inside has a member
mutual
def Tr.full : Tr → Prop
  | .body _ => True
  | .nur _ ms => (ms ≠ [] ∧ ms.length ≤ 4) ∧ Tr.fullL ms
def Tr.fullL : List Tr → Prop
  | [] => True
  | t :: ts => t.full ∧ Tr.fullL ts
end
abbrev nFs (s : Addr) (r : Str) (t p : Addr) : List (Str × V) := [("strike", .ref s), ("rule", .str r), ("members", .ref t), ("place", .ref p)]
mutual
inductive Tn (K : PySem.W.Frag) (H : Hp) (s : Addr) : V → Tr → Prop
  | body {b : Addr} {n : Str} : Bd K H b n → Tn K H s (.ref b) (.body n)
  | nur {a dx t p : Addr} {r : Str} {vs : List V} {ms : List Tr} : H a = some (.ins (He.ga K "Nursery") dx (nFs s r t p)) → SqT K H t vs → TnA K H s vs ms → Tn K H s (.ref a) (.nur r ms)
inductive TnA (K : PySem.W.Frag) (H : Hp) (s : Addr) : List V → List Tr → Prop
  | nil : TnA K H s [] []
  | cons {v : V} {vs : List V} {t : Tr} {ts : List Tr} : Tn K H s v t → TnA K H s vs ts → TnA K H s (v :: vs) (t :: ts)
end
/-- what may change: lists, and a nursery that is being made -/
def NBn : HO → Bool
  | .lst _ => true
  | .ins _ _ [] => true
  | .ins _ _ ((f, _) :: r) => decide (f = "strike") && decide (r.length < 3)
  | _ => false
section
variable {K : PySem.W.Frag} {H H' : Hp} {s : Addr} {S : List Addr}
theorem nbn_body {C dx : Addr} {b t : V} : NBn (.ins C dx [("book", b), ("statements", t)]) = false := by
  have e : decide (("book" : Str) = "strike") = false := by decide +kernel
  show (decide (("book" : Str) = "strike") && decide ([(("statements" : Str), t)].length < 3)) = false
  rw [e]
  rfl
theorem off_of (n : ∀ x ∈ S, ∀ o, H x = some o → NBn o = true) {x : Addr} {o : HO} (e : H x = some o) (q : NBn o = false) : x ∉ S := fun m => by
  rw [n x m o e] at q
  cases q
mutual
theorem Tn.mono (c : Ch S H H') (n : ∀ x ∈ S, ∀ o, H x = some o → NBn o = true) : ∀ (t : Tr) (v : V), Tn K H s v t → Tn K H' s v t
  | .body m, _, h => by
    cases h with
    | body hb =>
      obtain ⟨dx, bk, t, u, h1, h2⟩ := id hb
      exact .body (hb.ch c (off_of n h1 nbn_body))
  | .nur r ms, _, h => by
    cases h with
    | nur h1 h2 h3 => exact .nur (c.st _ _ (off_of n h1 (by simp [NBn, nFs])) h1) (c.sqT h2) (TnA.mono c n ms _ h3)
theorem TnA.mono (c : Ch S H H') (n : ∀ x ∈ S, ∀ o, H x = some o → NBn o = true) : ∀ (ts : List Tr) (vs : List V), TnA K H s vs ts → TnA K H' s vs ts
  | [], _, h => by cases h; exact .nil
  | t :: ts, _, h => by
    cases h with
    | cons h1 h2 => exact .cons (Tn.mono c n t _ h1) (TnA.mono c n ts _ h2)
end
theorem Tn.ch0 {v : V} {t : Tr} (h : Tn K H s v t) (c : Ch [] H H') : Tn K H' s v t := Tn.mono c (fun x m => by cases m) t v h
theorem TnA.ch0 {vs : List V} {ts : List Tr} (h : TnA K H s vs ts) (c : Ch [] H H') : TnA K H' s vs ts := TnA.mono c (fun x m => by cases m) ts vs h
theorem TnA.ch {vs : List V} {ts : List Tr} (h : TnA K H s vs ts) (c : Ch S H H') (n : ∀ x ∈ S, ∀ o, H x = some o → NBn o = true) : TnA K H' s vs ts := TnA.mono c n ts vs h
theorem TnA.length {ts : List Tr} {vs : List V} (h : TnA K H s vs ts) : vs.length = ts.length := by
  induction ts generalizing vs with
  | nil => cases h; rfl
  | cons d ds ih =>
    cases h with
    | cons h1 h2 => rw [List.length_cons, List.length_cons, ih h2]
theorem TnA.get {ts : List Tr} {vs : List V} (h : TnA K H s vs ts) {i : Nat} {v : V} (e : vs[i]? = some v) : ∃ t, ts[i]? = some t ∧ Tn K H s v t := by
  induction ts generalizing vs i with
  | nil => cases h; simp at e
  | cons d ds ih =>
    cases h with
    | cons h1 h2 =>
      cases i with
      | zero => simp at e; subst e; exact ⟨d, rfl, h1⟩
      | succ i =>
        obtain ⟨d', e', h'⟩ := ih h2 (i := i) (by simpa using e)
        exact ⟨d', by simpa using e', h'⟩
theorem TnA.snoc {ts : List Tr} {vs : List V} {v : V} {t : Tr} (h : TnA K H s vs ts) (g : Tn K H s v t) : TnA K H s (vs ++ [v]) (ts ++ [t]) := by
  induction ts generalizing vs with
  | nil => cases h; exact .cons g .nil
  | cons d ds ih =>
    cases h with
    | cons h1 h2 => exact .cons h1 (ih h2)
/-- bodies by their names -/
inductive BdA (K : PySem.W.Frag) (H : Hp) : List V → List Str → Prop
  | nil : BdA K H [] []
  | cons {b : Addr} {n : Str} {vs : List V} {ns : List Str} : Bd K H b n → BdA K H vs ns → BdA K H (.ref b :: vs) (n :: ns)
theorem BdA.app {vs us : List V} {ns ms : List Str} (h : BdA K H vs ns) (g : BdA K H us ms) : BdA K H (vs ++ us) (ns ++ ms) := by
  induction h with
  | nil => exact g
  | cons h1 _ ih => exact .cons h1 ih
theorem BdA.len {vs : List V} {ns : List Str} (h : BdA K H vs ns) : vs.length = ns.length := by
  induction h with
  | nil => rfl
  | cons _ _ ih => rw [List.length_cons, List.length_cons, ih]
theorem BdA.ch {vs : List V} {ns : List Str} (h : BdA K H vs ns) (c : Ch S H H') (n : ∀ x ∈ S, ∀ o, H x = some o → NBn o = true) : BdA K H' vs ns := by
  induction h with
  | nil => exact .nil
  | cons h1 _ ih =>
    obtain ⟨dx, bk, t, u, e1, _⟩ := id h1
    exact .cons (h1.ch c (off_of n e1 nbn_body)) ih
/-- nurseries by their rules -/
inductive NuA (K : PySem.W.Frag) (H : Hp) : List V → List Str → Prop
  | nil : NuA K H [] []
  | cons {a dx s t p : Addr} {r : Str} {vs : List V} {rs : List Str} : H a = some (.ins (He.ga K "Nursery") dx (nFs s r t p)) → NuA K H vs rs → NuA K H (.ref a :: vs) (r :: rs)
theorem NuA.app {vs us : List V} {ns ms : List Str} (h : NuA K H vs ns) (g : NuA K H us ms) : NuA K H (vs ++ us) (ns ++ ms) := by
  induction h with
  | nil => exact g
  | cons h1 _ ih => exact .cons h1 ih
theorem NuA.len {vs : List V} {ns : List Str} (h : NuA K H vs ns) : vs.length = ns.length := by
  induction h with
  | nil => rfl
  | cons _ _ ih => rw [List.length_cons, List.length_cons, ih]
theorem NuA.ch {vs : List V} {ns : List Str} (h : NuA K H vs ns) (c : Ch S H H') (n : ∀ x ∈ S, ∀ o, H x = some o → NBn o = true) : NuA K H' vs ns := by
  induction h with
  | nil => exact .nil
  | cons h1 _ ih => exact .cons (c.st _ _ (off_of n h1 (by simp [NBn, nFs])) h1) ih
end
theorem bsL_app (a b : List Tr) : Tr.bsL (a ++ b) = Tr.bsL a ++ Tr.bsL b := by
  induction a with
  | nil => rfl
  | cons t a ih => show t.bs ++ Tr.bsL (a ++ b) = _; rw [ih, ← List.append_assoc]; rfl
theorem insL_app (a b : List Tr) : Tr.insL (a ++ b) = Tr.insL a ++ Tr.insL b := by
  induction a with
  | nil => rfl
  | cons t a ih => show t.ins ++ Tr.insL (a ++ b) = _; rw [ih, ← List.append_assoc]; rfl
theorem htL_mem {t : Tr} : ∀ {ts : List Tr}, t ∈ ts → t.ht ≤ Tr.htL ts
  | u :: ts, h => by
    show t.ht ≤ max u.ht (Tr.htL ts)
    rcases List.mem_cons.mp h with e | e
    · rw [e]; exact Nat.le_max_left _ _
    · exact Nat.le_trans (htL_mem e) (Nat.le_max_right _ _)
theorem htL_le {n : Int} : ∀ {ms : List Tr}, 0 ≤ n → (∀ y ∈ ms.map (fun t => (t.ht : Int)), y ≤ n) → (Tr.htL ms : Int) ≤ n
  | [], h0, _ => h0
  | t :: ms, h0, h => by
    have h1 := h _ (List.mem_map.mpr ⟨t, List.mem_cons_self .., rfl⟩)
    have h2 := htL_le (ms := ms) h0 fun y hy => h y (by rw [List.map_cons]; exact List.mem_cons_of_mem _ hy)
    show ((max t.ht (Tr.htL ms) : Nat) : Int) ≤ n
    omega
theorem htL_max {ms : List Tr} {m : Int} (h : m ∈ ms.map fun t => (t.ht : Int)) (hmax : ∀ y, y ∈ ms.map (fun t => (t.ht : Int)) → y ≤ m) : m = (Tr.htL ms : Nat) := by
  obtain ⟨t, ht, rfl⟩ := List.mem_map.mp h
  have h1 := htL_mem ht
  have h2 := htL_le (n := (t.ht : Int)) (by omega) hmax
  omega
theorem bsL_mem {t : Tr} : ∀ {ts : List Tr}, t ∈ ts → t.bs.length ≤ (Tr.bsL ts).length
  | u :: ts, h => by
    show t.bs.length ≤ (u.bs ++ Tr.bsL ts).length
    rw [List.length_append]
    rcases List.mem_cons.mp h with e | e
    · rw [e]; omega
    · have := bsL_mem e; omega
theorem insL_mem {t : Tr} : ∀ {ts : List Tr}, t ∈ ts → t.ins.length ≤ (Tr.insL ts).length
  | u :: ts, h => by
    show t.ins.length ≤ (u.ins ++ Tr.insL ts).length
    rw [List.length_append]
    rcases List.mem_cons.mp h with e | e
    · rw [e]; omega
    · have := insL_mem e; omega
theorem fullL_mem {t : Tr} : ∀ {ts : List Tr}, t ∈ ts → Tr.fullL ts → t.full
  | u :: ts, h, f => by
    rcases List.mem_cons.mp h with e | e
    · rw [e]; exact f.1
    · exact fullL_mem e f.2
/-- o.m() -/
theorem pe_methD0 {X : Cx} {k : Nat} {C f : Addr} {m : Str} {ps : List Str} {sp : Sp} {o : Expr} {ta : TE} {apos pos : Pos} {pl : Sem Bool} (he : PE X o ta) (c : Cls X.K C) (hm : Meth X.K C m f) (F : FD X.prog X.w X.K X.mg X.base CX0 k f ps sp) (hr : Room k X.A)
    (ht : eval (.Call (.Attribute o m apos) [] [] pos) X.env = (do
      let ov ← eval o X.env
      standAt apos.atName
      let (f, first) ← holding [ov] (getMethod ov m pl)
      callWith pos f first (backTo pos (starEach [] X.env)) (backToKw pos (keywordEach [] X.env))) := by rfl) :
    PE X (.Call (.Attribute o m apos) [] [] pos) (tMeth C m sp [] E0 ta tNil) := by
  refine ⟨fun pins s σ H Q I h => ?_⟩
  obtain ⟨fd, F1, b⟩ := F.ex
  exact (pe_meth0 (E := E0) he c hm F1 hr b .nil (fun _ _ _ _ _ _ _ h => h.elim) ht).run pins s σ H Q I h
theorem x_meth0 {C : Addr} {m : Str} {sp : Sp} {E : XK} {ta : TE} {σ : L2.St} {H : Hp} {Q : VK} (h : ta σ H fun x H1 => ∃ a dx fs, x = .ref a ∧ H1 a = some (.ins C dx fs) ∧ fs.lookup m = none ∧ sp [x] H1 Q E) : tMeth C m sp [] E ta tNil σ H Q := h
theorem x_extend {H : Hp} {Q : VK} {l b : Addr} {xs zs : List V} (h : H l = some (.lst xs)) (hb : H b = some (.lst zs)) (hz : xs.length + zs.length ≤ sizeLine) (q : ∀ H', H' l = some (.lst (xs ++ zs)) → Ch [l] H H' → Q .non H') : rExtend (.ref l) [.ref b] H Q := ⟨l, b, xs, zs, rfl, rfl, h, hb, hz, q _ upd_same (Ch.mut h rfl)⟩
/-- isinstance of a body: not of a nursery -/
theorem x_notC {K : PySem.W.Frag} {a C D dx : Addr} {fs : List (Str × V)} {H : Hp} {Q : VK} (h : H a = some (.ins C dx fs)) (cl : Cls K C) (i : IsC K C) (k : PySem.W.kitOne K (.ref C) (.ref D) = some false) (q : Q (.bl false) H) : rIsi K [.ref a, .ref D] H Q :=
  ⟨.ref a, .ref D, .ref C, .ref D, false, rfl, .own D, .base (.ins h cl i.ha i.hn i.htk i.hm), k, q⟩
def sp_Nursery_bodies (K : PySem.W.Frag) (n : Nat) : Sp := fun vs H Q E => ∃ (a dx s t p : Addr) (r : Str) (us : List V) (ms : List Tr), vs = [.ref a] ∧ H a = some (.ins (He.ga K "Nursery") dx (nFs s r t p)) ∧ SqT K H t us ∧ TnA K H s us ms ∧ 1 + Tr.htL ms ≤ n ∧ (Tr.bsL ms).length ≤ 1000 ∧
  ∀ l H' ws, H l = none → H' l = some (.lst ws) → BdA K H' ws (Tr.bsL ms) → Ch [] H H' → Q (.ref l) H'
def sp_Nursery_inner (K : PySem.W.Frag) (n : Nat) : Sp := fun vs H Q E => ∃ (a dx s t p : Addr) (r : Str) (us : List V) (ms : List Tr), vs = [.ref a] ∧ H a = some (.ins (He.ga K "Nursery") dx (nFs s r t p)) ∧ SqT K H t us ∧ TnA K H s us ms ∧ 1 + Tr.htL ms ≤ n ∧ (Tr.insL ms).length ≤ 1000 ∧
  ∀ l H' ws, H l = none → H' l = some (.lst ws) → NuA K H' ws (r :: Tr.insL ms) → Ch [] H H' → Q (.ref l) H'
def sp_height_of (K : PySem.W.Frag) (n : Nat) : Sp := fun vs H Q E => ∃ (s : Addr) (v : V) (t : Tr), vs = [v] ∧ Tn K H s v t ∧ t.ht ≤ n ∧ t.full ∧ ∀ H', Ch [] H H' → Q (.int t.ht) H'
section
variable {P : Program} {w : World} {K : PySem.W.Frag} {mg : Str → Option Value} {base : Heap}
theorem st_bodies (T : Txt w K mg) {j k : Nat} {sp' : Sp} (n : Nat) (F : FD P w K mg base CX0 j (He.ma K (He.ga K "Nursery") "bodies") ["self"] sp') (hj : j ≤ k) (hsp : ∀ q, n = q + 1 → sp' = sp_Nursery_bodies K q) :
    FD P w K mg base CX0 (k + 1) (He.ma K (He.ga K "Nursery") "bodies") ["self"] (sp_Nursery_bodies K n) := by
  refine FD.mk0 T.f_Nursery_bodies sc_Nursery_bodies (fun vs H Q E h => ?_) (fun _ _ _ _ _ _ us hl => match us, hl with | [_], _ => rfl) (fun cdv A outer s H vs Q E hr h => ⟨_, (pss_cons (ps_set (i := 1) sc_Nursery_bodies.nd rfl (.inl rfl) (pe_lst pa_nil))
  (pss_cons (ps_for PassesOwn.never rfl (pi_tup (pe_fld (pv 0) (by rfl))) (pg_name (i := 2) sc_Nursery_bodies.nd rfl (.inl rfl)) (pss_one (ps_if (pt_val (pe_callB call_isi (by rfl) T.n_isinstance bb_isinstance (pa_cons (pv 2) (pa_cons (pe_glob (v := .ref (He.ga K "Nursery")) (by rfl) T.g_Nursery rfl) pa_nil)))) (pss_one (ps_expr (pe_bm PySem.F.plainAttrs_list PySem.F.slot_list_extend PySem.F.type_list_extend mt_extend (pv 1) (pa_cons (pe_methD0 (pv 2) T.c_Nursery T.m_Nursery_bodies F (hr.mono hj)) pa_nil)))) (pss_one (ps_expr (pe_bm PySem.F.plainAttrs_list PySem.F.slot_list_append PySem.F.type_list_append mt_append (pv 1) (pa_cons (pv 2) pa_nil)))))))
  (pss_one (ps_ret (pv 1))))), ?_⟩)
  · obtain ⟨a, dx, s, t, p, r, us, ms, rfl, _⟩ := h
    rfl
  · obtain ⟨a, dx, s, t, p, r, us, ms, rfl, ha, ht, hms, hn, hl, kk⟩ := h
    walk_at "st"
    walk_at "rd"
    refine nL fun l H1 hl1 h1 c1 => ?_
    walk_at "rd"
    refine x_fldB (c1.get0 ha) T.c_Nursery T.na_Nursery_members rfl ?_
    refine ⟨t, rfl, ⟨_, c1.sqT ht⟩, ?_⟩
    refine goT us (fun i σ H' => ∃ ws o, σ = [some (.ref a), some (.ref l), o] ∧ H' l = some (.lst ws) ∧ BdA K H' ws (Tr.bsL (ms.take i)) ∧ Ch [] H H') ⟨_, none, rfl, h1, .nil, c1⟩ (fun i σ H' hi hI => ?_) (fun i x σ H' hx hI => ?_) (fun σ H' hI => ?_)
    · obtain ⟨_, _, _, _, _, cc⟩ := hI
      exact cc.sqT ht
    · obtain ⟨ws, o, rfl, h2, hw, cc⟩ := hI
      obtain ⟨tt, htt, hT⟩ := hms.get hx
      have hm : tt ∈ ms := List.mem_of_getElem? htt
      have hT' := hT.ch0 cc
      have hsn : Tr.bsL (ms.take (i + 1)) = Tr.bsL (ms.take i) ++ tt.bs := by
        rw [List.take_add_one, htt, bsL_app]
        show _ ++ (tt.bs ++ []) = _
        rw [List.append_nil]
      have hlen : (Tr.bsL (ms.take i)).length + tt.bs.length ≤ 1000 := by
        have e : Tr.bsL ms = Tr.bsL (ms.take (i + 1)) ++ Tr.bsL (ms.drop (i + 1)) := by rw [← bsL_app, List.take_append_drop]
        rw [e, hsn, List.length_append, List.length_append] at hl
        omega
      have hwl := hw.len
      have nbl : ∀ {H0 : Hp} {zs : List V}, H0 l = some (.lst zs) → ∀ y ∈ [l], ∀ o, H0 y = some o → NBn o = true := fun {H0 zs} e y m o e2 => by
        rw [List.mem_singleton.mp m, e] at e2
        cases e2
        rfl
      walk_at "rd"
      cases tt with
      | body m =>
        cases hT' with
        | body hb =>
          obtain ⟨dx', bk, t', u, e1, _⟩ := id hb
          refine x_notC e1 T.c_Body T.is_Body T.kn_Body_Nursery ?_
          walk_at "rd"
          refine x_append h2 (sz_lt (by simp only [Tr.bs, List.length_cons, List.length_nil] at hlen; omega)) fun H2 h3 c2 => ?_
          walk_at "rd"
          refine ⟨_, _, rfl, h3, ?_, Ch.drop (S := []) (cc.nilL c2) hl1⟩
          rw [hsn]
          exact (hw.ch c2 (nbl h2)).app (.cons (hb.ch c2 (off_of (nbl h2) e1 nbn_body)) .nil)
      | nur r' ms' =>
        cases hT' with
        | nur e1 e2 e3 =>
          refine x_isC e1 T.c_Nursery T.is_Nursery ?_
          walk_at "rd"
          refine x_meth0 ?_
          walk_at "rd"
          refine ⟨_, _, _, rfl, e1, rfl, ?_⟩
          have hh := htL_mem hm
          obtain ⟨q, rfl⟩ : ∃ q, n = q + 1 := ⟨n - 1, by omega⟩
          rw [hsp q rfl]
          have hh' : 1 + Tr.htL ms' ≤ Tr.htL ms := hh
          have hl' : (Tr.bsL ms').length ≤ 1000 := by
            have : (Tr.bs (.nur r' ms')).length = (Tr.bsL ms').length := rfl
            omega
          refine ⟨_, _, s, _, _, r', _, ms', rfl, e1, e2, e3, by omega, hl', fun l2 H2 ws2 hl2 h3 hw2 c2 => ?_⟩
          have hwl2 := hw2.len
          walk_at "rd"
          refine x_extend (c2.get0 h2) h3 (sz_of (by have : (Tr.bs (.nur r' ms')).length = (Tr.bsL ms').length := rfl; simp only [Tr.bs] at hwl hwl2 hlen ⊢; omega)) fun H3 h4 c3 => ?_
          walk_at "rd"
          refine ⟨_, _, rfl, h4, ?_, Ch.drop (S := []) ((cc.nilL c2).nilL c3) hl1⟩
          rw [hsn]
          exact ((hw.ch c2 (fun x m => by cases m)).ch c3 (nbl (c2.get0 h2))).app (hw2.ch c3 (nbl (c2.get0 h2)))
    · obtain ⟨ws, o, rfl, h2, hw, cc⟩ := hI
      rw [hms.length, List.take_length] at hw
      walk_at "rd"
      exact kk l H' ws hl1 h2 hw cc
theorem ok_bodies (T : Txt w K mg) : ∀ r : Nat, FD P w K mg base CX0 (2 + r) (He.ma K (He.ga K "Nursery") "bodies") ["self"] (sp_Nursery_bodies K r)
  | 0 => st_bodies T (sp' := fun _ _ _ _ => False) (j := 1) (k := 1) 0 (FD.mk0 T.f_Nursery_bodies sc_Nursery_bodies (fun vs H Q E h => h.elim) (fun _ _ _ _ _ _ us hl => match us, hl with | [_], _ => rfl) (fun cdv A outer s H vs Q E hr h => h.elim)) (by decide) fun q e => by cases e
  | r + 1 => st_bodies T (r + 1) (ok_bodies T r) (Nat.le_refl _) fun q e => by injection e with e; rw [e]
theorem st_inner (T : Txt w K mg) {j k : Nat} {sp' : Sp} (n : Nat) (F : FD P w K mg base CX0 j (He.ma K (He.ga K "Nursery") "inner") ["self"] sp') (hj : j ≤ k) (hsp : ∀ q, n = q + 1 → sp' = sp_Nursery_inner K q) :
    FD P w K mg base CX0 (k + 1) (He.ma K (He.ga K "Nursery") "inner") ["self"] (sp_Nursery_inner K n) := by
  refine FD.mk0 T.f_Nursery_inner sc_Nursery_inner (fun vs H Q E h => ?_) (fun _ _ _ _ _ _ us hl => match us, hl with | [_], _ => rfl) (fun cdv A outer s H vs Q E hr h => ⟨_, (pss_cons (ps_set (i := 1) sc_Nursery_inner.nd rfl (.inl rfl) (pe_lst (pa_cons (pv 0) pa_nil)))
  (pss_cons (ps_for PassesOwn.never rfl (pi_tup (pe_fld (pv 0) (by rfl))) (pg_name (i := 2) sc_Nursery_inner.nd rfl (.inl rfl)) (pss_one (ps_if (pt_val (pe_callB call_isi (by rfl) T.n_isinstance bb_isinstance (pa_cons (pv 2) (pa_cons (pe_glob (v := .ref (He.ga K "Nursery")) (by rfl) T.g_Nursery rfl) pa_nil)))) (pss_one (ps_expr (pe_bm PySem.F.plainAttrs_list PySem.F.slot_list_extend PySem.F.type_list_extend mt_extend (pv 1) (pa_cons (pe_methD0 (pv 2) T.c_Nursery T.m_Nursery_inner F (hr.mono hj)) pa_nil)))) pss_nil)))
  (pss_one (ps_ret (pv 1))))), ?_⟩)
  · obtain ⟨a, dx, s, t, p, r, us, ms, rfl, _⟩ := h
    rfl
  · obtain ⟨a, dx, s, t, p, r, us, ms, rfl, ha, ht, hms, hn, hl, kk⟩ := h
    walk_at "st"
    walk_at "rd"
    refine nL fun l H1 hl1 h1 c1 => ?_
    walk_at "rd"
    refine x_fldB (c1.get0 ha) T.c_Nursery T.na_Nursery_members rfl ?_
    refine ⟨t, rfl, ⟨_, c1.sqT ht⟩, ?_⟩
    refine goT us (fun i σ H' => ∃ ws o, σ = [some (.ref a), some (.ref l), o] ∧ H' l = some (.lst ws) ∧ NuA K H' ws (r :: Tr.insL (ms.take i)) ∧ Ch [] H H') ⟨_, none, rfl, h1, .cons (c1.get0 ha) .nil, c1⟩ (fun i σ H' hi hI => ?_) (fun i x σ H' hx hI => ?_) (fun σ H' hI => ?_)
    · obtain ⟨_, _, _, _, _, cc⟩ := hI
      exact cc.sqT ht
    · obtain ⟨ws, o, rfl, h2, hw, cc⟩ := hI
      obtain ⟨tt, htt, hT⟩ := hms.get hx
      have hm : tt ∈ ms := List.mem_of_getElem? htt
      have hT' := hT.ch0 cc
      have hsn : Tr.insL (ms.take (i + 1)) = Tr.insL (ms.take i) ++ tt.ins := by
        rw [List.take_add_one, htt, insL_app]
        show _ ++ (tt.ins ++ []) = _
        rw [List.append_nil]
      have hlen : (Tr.insL (ms.take i)).length + tt.ins.length ≤ 1000 := by
        have e : Tr.insL ms = Tr.insL (ms.take (i + 1)) ++ Tr.insL (ms.drop (i + 1)) := by rw [← insL_app, List.take_append_drop]
        rw [e, hsn, List.length_append, List.length_append] at hl
        omega
      have hwl := hw.len
      have nbl : ∀ {H0 : Hp} {zs : List V}, H0 l = some (.lst zs) → ∀ y ∈ [l], ∀ o, H0 y = some o → NBn o = true := fun {H0 zs} e y m o e2 => by
        rw [List.mem_singleton.mp m, e] at e2
        cases e2
        rfl
      walk_at "rd"
      cases tt with
      | body m =>
        cases hT' with
        | body hb =>
          obtain ⟨dx', bk, t', u, e1, _⟩ := id hb
          refine x_notC e1 T.c_Body T.is_Body T.kn_Body_Nursery ?_
          walk_at "rd"
          refine ⟨_, _, rfl, h2, ?_, cc⟩
          rw [hsn]
          show NuA K H' ws (r :: (Tr.insL (ms.take i) ++ []))
          rw [List.append_nil]
          exact hw
      | nur r' ms' =>
        cases hT' with
        | nur e1 e2 e3 =>
          refine x_isC e1 T.c_Nursery T.is_Nursery ?_
          walk_at "rd"
          refine x_meth0 ?_
          walk_at "rd"
          refine ⟨_, _, _, rfl, e1, rfl, ?_⟩
          have hh := htL_mem hm
          obtain ⟨q, rfl⟩ : ∃ q, n = q + 1 := ⟨n - 1, by omega⟩
          rw [hsp q rfl]
          have hh' : 1 + Tr.htL ms' ≤ Tr.htL ms := hh
          have hl' : (Tr.insL ms').length ≤ 1000 := by
            have : (Tr.ins (.nur r' ms')).length = (Tr.insL ms').length + 1 := rfl
            omega
          refine ⟨_, _, s, _, _, r', _, ms', rfl, e1, e2, e3, by omega, hl', fun l2 H2 ws2 hl2 h3 hw2 c2 => ?_⟩
          have hwl2 := hw2.len
          walk_at "rd"
          refine x_extend (c2.get0 h2) h3 (sz_of (by have : (Tr.ins (.nur r' ms')).length = (Tr.insL ms').length + 1 := rfl; simp only [Tr.ins, List.length_cons] at hwl hwl2 hlen ⊢; omega)) fun H3 h4 c3 => ?_
          walk_at "rd"
          refine ⟨_, _, rfl, h4, ?_, Ch.drop (S := []) ((cc.nilL c2).nilL c3) hl1⟩
          rw [hsn]
          exact ((hw.ch c2 (fun x m => by cases m)).ch c3 (nbl (c2.get0 h2))).app (hw2.ch c3 (nbl (c2.get0 h2)))
    · obtain ⟨ws, o, rfl, h2, hw, cc⟩ := hI
      rw [hms.length, List.take_length] at hw
      walk_at "rd"
      exact kk l H' ws hl1 h2 hw cc
theorem ok_inner (T : Txt w K mg) : ∀ r : Nat, FD P w K mg base CX0 (2 + r) (He.ma K (He.ga K "Nursery") "inner") ["self"] (sp_Nursery_inner K r)
  | 0 => st_inner T (sp' := fun _ _ _ _ => False) (j := 1) (k := 1) 0 (FD.mk0 T.f_Nursery_inner sc_Nursery_inner (fun vs H Q E h => h.elim) (fun _ _ _ _ _ _ us hl => match us, hl with | [_], _ => rfl) (fun cdv A outer s H vs Q E hr h => h.elim)) (by decide) fun q e => by cases e
  | r + 1 => st_inner T (r + 1) (ok_inner T r) (Nat.le_refl _) fun q e => by injection e with e; rw [e]
theorem st_height (T : Txt w K mg) {j k : Nat} {sp' : Sp} (n : Nat) (F : FD P w K mg base CX0 j (He.ga K "height_of") ["member"] sp') (hj : j ≤ k) (hsp : ∀ q, n = q + 1 → sp' = sp_height_of K q) :
    FD P w K mg base CX0 (k + 1) (He.ga K "height_of") ["member"] (sp_height_of K n) := by
  refine FD.mk0 T.f_height_of sc_height_of (fun vs H Q E h => ?_) (fun _ _ _ _ _ _ us hl => match us, hl with | [_], _ => rfl) (fun cdv A outer s H vs Q E hr h => ⟨_, (pss_cons (ps_if (pt_val (pe_callB call_isi (by rfl) T.n_isinstance bb_isinstance (pa_cons (pv 0) (pa_cons (pe_glob (v := .ref (He.ga K "Nursery")) (by rfl) T.g_Nursery rfl) pa_nil)))) (pss_one (ps_ret (pe_op u_add pe_int (pe_callB (c_max (by rfl)) (by rfl) T.n_max bb_max (pa_cons (pe_lc (own := [("one", 1)]) rfl sc_height_of.nd (pi_tup (pe_fld (pv 0) (by rfl))) (blkOk_by (N := N_height_of) (sc := defScope s_height_of) (by decide +kernel)) (fun _ _ _ _ _ => (pg_name (i := 1) sc_height_of.nd rfl (.inl rfl))) (fun _ _ _ _ _ => pts_nil) (fun _ _ _ _ _ => (pe_callD F hr (by exact hj) (by rfl) T.g_height_of pass0 (pa_cons (pv 1) pa_nil)))) pa_nil))))) pss_nil)
  (pss_one (ps_ret pe_int))), ?_⟩)
  · obtain ⟨s, v, t, rfl, _⟩ := h
    rfl
  · obtain ⟨s, v, t, rfl, hT, hn, hf, k⟩ := h
    walk_at "st"
    walk_at "rd"
    cases t with
    | body m =>
      cases hT with
      | body hb =>
        obtain ⟨dx', bk, t', u, e1, _⟩ := id hb
        refine x_notC e1 T.c_Body T.is_Body T.kn_Body_Nursery ?_
        walk_at "rd"
        exact k _ (Ch.refl _)
    | nur r ms =>
      cases hT with
      | nur e1 e2 e3 =>
        refine x_isC e1 T.c_Nursery T.is_Nursery ?_
        walk_at "rd"
        refine x_fldB e1 T.c_Nursery T.na_Nursery_members rfl ?_
        refine ⟨_, rfl, ⟨_, e2⟩, fun D hD => ?_⟩
        refine lcTG _ hD (fun i acc H' => Ch [] H H' ∧ acc = (ms.take i).map fun t => V.int (t.ht : Nat)) (fun H' hh hc => ⟨hc, rfl⟩) (fun i acc H' hi hp => hp.1.sqT e2) (fun i x acc H' hx hp hA => ?_) (fun acc H' hp hA => ?_)
        · obtain ⟨cc, rfl⟩ := hp
          obtain ⟨tt, htt, hT⟩ := e3.get hx
          have hm : tt ∈ ms := List.mem_of_getElem? htt
          have hh := htL_mem hm
          have hn' : 1 + Tr.htL ms ≤ n := hn
          obtain ⟨q, rfl⟩ : ∃ q, n = q + 1 := ⟨n - 1, by omega⟩
          rw [hsp q rfl]
          refine ⟨rfl, ?_⟩
          walk_at "rd"
          refine ⟨s, x, tt, rfl, hT.ch0 cc, by omega, fullL_mem hm hf.2, fun H2 c2 => ?_⟩
          refine x_lcE (c2.get0 hA) (sz_lt ?_) fun H3 h3 c3 => ⟨Ch.drop (S := []) ((cc.nilL c2).nilL c3) hD, ?_⟩
          · rw [List.length_map, List.length_take]
            have := hf.1.2
            omega
          · rw [List.take_add_one, htt, List.map_append]
            rfl
        · obtain ⟨cc, rfl⟩ := hp
          rw [e3.length, List.take_length] at hA
          walk_at "rd"
          refine ⟨D, ms.map fun t => (t.ht : Int), rfl, SqL.of (by rw [hA, List.map_map]; rfl), ?_, fun m hm hmax => ?_⟩
          · rw [List.length_map]
            exact List.length_pos_iff.mpr hf.1.1
          · have e : m = (Tr.htL ms : Nat) := htL_max hm hmax
            subst e
            refine x_addI ?_
            have e2 : (1 : Int) + (Tr.htL ms : Nat) = ((Tr.nur r ms).ht : Nat) := by
              show (1 : Int) + (Tr.htL ms : Nat) = ((1 + Tr.htL ms : Nat) : Int)
              omega
            rw [e2]
            exact k _ cc
theorem ok_height (T : Txt w K mg) : ∀ r : Nat, FD P w K mg base CX0 (2 + r) (He.ga K "height_of") ["member"] (sp_height_of K r)
  | 0 => st_height T (sp' := fun _ _ _ _ => False) (j := 1) (k := 1) 0 (FD.mk0 T.f_height_of sc_height_of (fun vs H Q E h => h.elim) (fun _ _ _ _ _ _ us hl => match us, hl with | [_], _ => rfl) (fun cdv A outer s H vs Q E hr h => h.elim)) (by decide) fun q e => by cases e
  | r + 1 => st_height T (r + 1) (ok_height T r) (Nat.le_refl _) fun q e => by injection e with e; rw [e]
end
def isAll : Tr → Bool
  | .nur r _ => decide (r = "all")
  | .body _ => false
/-- it is refused -/
def refN (ms : List Tr) : Prop := ¬ (1 ≤ ms.length ∧ ms.length ≤ 4) ∨ (∃ t ∈ ms, isAll t = true) ∨ 8 < (Tr.bsL ms).length ∨ 3 < 1 + Tr.htL ms
def rulesL : List Str := ["first", "rank", "least", "all"]
def NErr (K : PySem.W.Frag) (C : Addr) : Prop := C = He.ga K "BadNumber" ∨ C = He.ga K "BadMember" ∨ C = He.ga K "TooLarge"
def sp_Nursery___init__ (K : PySem.W.Frag) : Sp := fun vs H Q E => ∃ (a dx s t : Addr) (r nm : Str) (sh : List Str) (us : List V) (ms : List Tr), vs = [.ref a, .ref s, .str r, .ref t] ∧ H a = some (.ins (He.ga K "Nursery") dx []) ∧ r ∈ rulesL ∧ St K H s nm sh ∧ (∀ x ∈ sh, OkT x) ∧
  SqT K H t us ∧ TnA K H s us ms ∧ Tr.fullL ms ∧ Tr.htL ms ≤ 3 ∧ (Tr.bsL ms).length ≤ 1000 ∧
  (¬ refN ms → ∀ p H', H' a = some (.ins (He.ga K "Nursery") dx (nFs s r t p)) → Ch [a] H H' → Q .non H') ∧
  (refN ms → ∀ C d H', NErr K C → Ch [a] H H' → E (.ref C) (some d) H')
section
variable {P : Program} {w : World} {K : PySem.W.Frag} {mg : Str → Option Value} {base : Heap}
theorem fnR_Nursery (T : Txt w K mg) : FnR P w K mg base (L2N.CX P w) 7 (He.ma K (He.ga K "Nursery") "__init__") (fun vs H Q E => ∃ ws rest, vs = ws ++ rest ∧ ws.length = ["self", "strike", "rule"].length ∧ rest.length ≤ sizeLine ∧ ∀ p, H p = Option.none → sp_Nursery___init__ K (ws ++ [V.ref p]) (upd H p (.tup rest)) Q E) := by
  refine fn_starD (ps := ["self", "strike", "rule"]) (pv := "members") T.f_Nursery___init__ sc_Nursery___init__ cxUpN (fun kV doc pm an cdv ct us rest hl => ?_) (fun cdv A outer s H vs Q E hr h => ⟨_, (pss_cons (ps_if (pt_cmpR u_notin (pv 2) (pe_gc (by rfl) T.v_RULES) (by rfl)) pss_never pss_nil)
  (pss_cons (ps_if (pt_not (pt_chain u_le u_le pe_int (pe_callB c_len (by rfl) T.n_len bb_len (pa_cons (pv 3) pa_nil)) (pe_cval (pe_glob (v := .ref (He.ga K "Nursery")) (by rfl) T.g_Nursery rfl)))) (pss_one (L2N.ps_raise (by rfl) (L2N.takes_of rfl rfl rfl rfl) (pmk_oexN T.ox_BadNumber T.m_BadNumber___init__ (ok_BadNumber___init__ T) (hr.mono (by decide)) (by rfl) T.g_BadNumber (pa_cons (pe_callB c_len (by rfl) T.n_len bb_len (pa_cons (pv 3) pa_nil)) pa_nil)))) pss_nil)
  (pss_cons (ps_for PassesOwn.leaving rfl (pi_enumU (by rfl) T.n_enumerate (pa_cons (pv 3) pa_nil)) (pg_tup rfl (pgs_cons (pg_name (i := 4) sc_Nursery___init__.nd rfl (.inl rfl)) (pgs_cons (pg_name (i := 5) sc_Nursery___init__.nd rfl (.inl rfl)) pgs_nil))) (pss_cons (ps_if (pt_not (pt_val (pe_callB call_isi (by rfl) T.n_isinstance bb_isinstance (pa_cons (pv 5) (pa_cons (pe_glob (v := .ref (He.ga K "Nursery")) (by rfl) T.g_Nursery rfl) pa_nil))))) (pss_one ps_continue) pss_nil)
  (pss_cons (ps_if (pt_cmpR (u_eq (hu64 hr)) (pe_fld (pv 5) (by rfl)) pe_str (nomark _)) (pss_one (L2N.ps_raise (by rfl) (L2N.takes_of rfl rfl rfl rfl) (pmk_oexN T.ox_BadMember T.m_BadMember___init__ (ok_BadMember___init__ T) (hr.mono (by decide)) (by rfl) T.g_BadMember (pa_cons (pv 4) pa_nil)))) pss_nil)
  (pss_one (ps_if (pt_not (pt_cmpR (u_eqO T.m_Strike___eq__ (ok_Strike___eq__ T).raw (hr.mono (by decide)) (E := E0) pass0) (pe_fld (pv 5) (by rfl)) (pv 1) (nomark _))) pss_never pss_nil)))))
  (pss_cons (ps_fld (pv 0) (pv 1) rfl)
  (pss_cons (ps_fld (pv 0) (pv 2) rfl)
  (pss_cons (ps_fld (pv 0) (pe_callTy c_tuple (by rfl) T.n_tuple bb_tuple (pa_cons (pv 3) pa_nil)) rfl)
  (pss_cons (ps_fld (pv 0) (pe_tup (pa_cons (pv 1) (pa_cons (pv 2) (pa_cons (pe_fld (pv 0) (by rfl)) pa_nil)))) rfl)
  (pss_cons (ps_if (pt_cmpR u_gt (pe_callB c_len (by rfl) T.n_len bb_len (pa_cons (pe_methD0 (pv 0) T.c_Nursery T.m_Nursery_bodies (ok_bodies T 4) (hr.mono (by decide))) pa_nil)) (pe_cval (pe_glob (v := .ref (He.ga K "Nursery")) (by rfl) T.g_Nursery rfl)) (nomark _)) (pss_one (L2N.ps_raise (by rfl) (L2N.takes_of rfl rfl rfl rfl) (pmk_oexN T.ox_TooLarge T.m_TooLarge___init__ (ok_TooLarge___init__ T) (hr.mono (by decide)) (by rfl) T.g_TooLarge (pa_cons (pe_cval (pe_glob (v := .ref (He.ga K "Nursery")) (by rfl) T.g_Nursery rfl)) pa_nil)))) pss_nil)
  (pss_one (ps_if (pt_cmpR u_gt (pe_callD (ok_height T 4) hr (by first | decide | omega) (by rfl) T.g_height_of pass0 (pa_cons (pv 0) pa_nil)) (pe_cval (pe_glob (v := .ref (He.ga K "Nursery")) (by rfl) T.g_Nursery rfl)) (nomark _)) (pss_one (L2N.ps_raise (by rfl) (L2N.takes_of rfl rfl rfl rfl) (pmk_oexN T.ox_TooLarge T.m_TooLarge___init__ (ok_TooLarge___init__ T) (hr.mono (by decide)) (by rfl) T.g_TooLarge (pa_cons (pe_cval (pe_glob (v := .ref (He.ga K "Nursery")) (by rfl) T.g_Nursery rfl)) pa_nil)))) pss_nil)))))))))), ?_⟩)
  · match us, hl with
    | [_, _, _], _ => cases rest <;> rfl
  obtain ⟨a, dx, s, t, r, nm, sh, us, ms, rfl, ha, hrl, hs, hsh, ht, hms, hfu, hht, hbl, kg, kb⟩ := h
  have hul := hms.length
  walk_at "st"
  walk_at "rd"
  refine x_notInT (T.q_RULES H) rfl rfl ?_
  have hrI : inV (V.str r) [V.str (Str.ofString "first"), V.str (Str.ofString "rank"), V.str (Str.ofString "least"), V.str (Str.ofString "all")] = true := by
    have := inV_str r rulesL
    rw [decide_eq_true hrl] at this
    exact this
  rw [hrI]
  refine ⟨_, rfl, ite_F ?_⟩
  walk_at "rd"
  have errN : ∀ d H', Ch [a] H H' → (1 ≤ ms.length ∧ ms.length ≤ 4 → False) → E (.ref (He.ga K "BadNumber")) (some d) H' := fun d H' c h => kb (.inl h) _ d H' (.inl rfl) c
  refine ite_by (fun h1 => ?_) (fun h1 => ?_)
  rotate_left 1
  · walk_at "rd"
    refine x_mkx1 ?_ (fun hq ⟨v, e, x, n, e1, hl, q⟩ => ⟨v, e, x, n, e1, hl, hq _ _ q⟩)
    walk_at "rd"
    exact fun d H' hd h' c => errN d H' c.any (fun z => h1 (by omega))
  walk_at "rd"
  refine x_cval T.cv_Nursery_MEMBERS ?_
  walk_at "rd"
  refine ite_nby (fun h2 => ?_) (fun h2 => ?_)
  rotate_left 1
  · walk_at "rd"
    refine x_mkx1 ?_ (fun hq ⟨v, e, x, n, e1, hl, q⟩ => ⟨v, e, x, n, e1, hl, hq _ _ q⟩)
    walk_at "rd"
    exact fun d H' hd h' c => errN d H' c.any (fun z => h2 (by omega))
  walk_at "rd"
  refine x_iEU ?_
  walk_at "rd"
  refine ⟨t, us, rfl, .inr ⟨ht, ?_⟩⟩
  refine goEt us (fun i σ H' => Ch [] H H' ∧ (∀ tt ∈ ms.take i, isAll tt = false) ∧ ∃ o2 o3, σ = [some (.ref a), some (.ref s), some (.str r), some (.ref t), o2, o3]) ⟨Ch.refl _, (fun tt h => by simp at h), _, _, rfl⟩ (fun i σ H' _ hI => hI.1.sqT ht) (fun i y σ H' hy hI T' H1 hT h1' c1 => ?_) (fun σ H' hI => ?_)
  · obtain ⟨cc, hna, o2, o3, rfl⟩ := hI
    obtain ⟨tt, htt, hTn⟩ := hms.get hy
    have cc1 := cc.nilL c1
    have hT1 := hTn.ch0 cc1
    have nxt : isAll tt = false → ∀ x ∈ ms.take (i + 1), isAll x = false := fun e x hx => by
      rw [List.take_add_one, htt] at hx
      rcases List.mem_append.mp hx with q | q
      · exact hna x q
      · have e2 : x = tt := by simpa using q
        rw [e2]; exact e
    walk_at "rd"
    cases tt with
    | body m =>
      cases hT1 with
      | body hb =>
        obtain ⟨dx', bk, t', u, e1, _⟩ := id hb
        refine x_notC e1 T.c_Body T.is_Body T.kn_Body_Nursery ?_
        walk_at "rd"
        exact ⟨cc1, nxt rfl, _, _, rfl⟩
    | nur r' ms' =>
      cases hT1 with
      | nur e1 e2 e3 =>
        refine x_isC e1 T.c_Nursery T.is_Nursery ?_
        walk_at "rd"
        refine x_fldB e1 T.c_Nursery T.na_Nursery_rule rfl ?_
        walk_at "rd"
        refine ite_by (fun hal => ?_) (fun hal => ?_)
        · refine x_mkx1 ?_ (fun hq ⟨v, e, q⟩ => ⟨v, e, hq _ _ q⟩)
          walk_at "rd"
          exact fun d H' hd h' c => kb (.inr (.inl ⟨_, List.mem_of_getElem? htt, decide_eq_true hal⟩)) _ d H' (.inr (.inl rfl)) (cc1.nilL c).any
        · walk_at "rd"
          refine x_fldB e1 T.c_Nursery T.na_Nursery_strike rfl ?_
          walk_at "rd"
          obtain ⟨dxs, ts, hs1, hs2⟩ := id hs
          refine x_eqO (K := K) (cc1.get0 hs1) (cc1.get0 hs1) ?_
          refine ⟨s, nm, sh, rfl, ⟨dxs, ts, cc1.get0 hs1, cc1.sqT hs2⟩, hsh, ?_⟩
          walk_at "rd"
          exact ⟨cc1, nxt (decide_eq_false hal), _, _, rfl⟩
  · obtain ⟨cc, hna, o2, o3, rfl⟩ := hI
    rw [hul, List.take_length] at hna
    have ha1 := cc.get0 ha
    have ht1 := cc.sqT ht
    have hms1 := hms.ch0 cc
    walk_at "rd"
    have nba : ∀ {H0 : Hp} {fs : List (Str × V)}, H0 a = some (.ins (He.ga K "Nursery") dx fs) → NBn (.ins (He.ga K "Nursery") dx fs) = true → ∀ y ∈ [a], ∀ o, H0 y = some o → NBn o = true := fun {H0 fs} e q y m o e2 => by
      rw [List.mem_singleton.mp m, e] at e2
      cases e2
      exact q
    refine x_sfldB ha1 T.c_Nursery T.na_Nursery_strike (by decide) fun H2 h2' c2 => ?_
    have ha2 : H2 a = some (.ins (He.ga K "Nursery") dx [("strike", .ref s)]) := h2'
    have hms2 := hms1.ch c2 (nba ha1 rfl)
    walk_at "rd"
    refine x_sfldB ha2 T.c_Nursery T.na_Nursery_rule (by simp) fun H3 h3' c3 => ?_
    have ha3 : H3 a = some (.ins (He.ga K "Nursery") dx [("strike", .ref s), ("rule", .str r)]) := h3'
    have hms3 := hms2.ch c3 (nba ha2 (by simp [NBn]))
    have ht3 := c3.sqT (c2.sqT ht1)
    walk_at "rd"
    refine x_tupT ht3 ?_
    walk_at "rd"
    refine x_sfldB ha3 T.c_Nursery T.na_Nursery_members (by simp) fun H4 h4' c4 => ?_
    have ha4 : H4 a = some (.ins (He.ga K "Nursery") dx [("strike", .ref s), ("rule", .str r), ("members", .ref t)]) := h4'
    have hms4 := hms3.ch c4 (nba ha3 (by simp [NBn]))
    have ht4 := c4.sqT ht3
    walk_at "rd"
    refine x_fldB ha4 T.c_Nursery T.na_Nursery_members rfl ?_
    walk_at "rd"
    refine nT fun p H5 hp h5 c5 => ?_
    walk_at "rd"
    have ha5 := c5.get0 ha4
    have hms5 := hms4.ch0 c5
    refine x_sfldB ha5 T.c_Nursery T.na_Nursery_place (by simp) fun H6 h6' c6 => ?_
    have ha6 : H6 a = some (.ins (He.ga K "Nursery") dx (nFs s r t p)) := h6'
    have hms6 := hms5.ch c6 (nba ha5 (by simp [NBn]))
    have ht6 := c6.sqT (c5.sqT ht4)
    have c06 : Ch [a] H H6 := (cc.nilL ((c2.seq c3).seq c4)).seq (c5.nilL c6)
    walk_at "rd"
    refine x_meth0 ?_
    walk_at "rd"
    refine ⟨a, dx, _, rfl, ha6, rfl, ?_⟩
    refine ⟨a, dx, s, t, p, r, us, ms, rfl, ha6, ht6, hms6, by omega, hbl, fun l H7 ws hl7 h7 hw7 c7 => ?_⟩
    walk_at "rd"
    refine x_cval T.cv_Nursery_BODIES ?_
    walk_at "rd"
    have hwl := hw7.len
    refine ite_by (fun hb8 => ?_) (fun hb8 => ?_)
    · refine x_mkx1 ?_ (fun hq ⟨C, mc, v', u, e1, e2, e3, q⟩ => ⟨C, mc, v', u, e1, e2, e3, hq _ _ q⟩)
      walk_at "rd"
      refine x_cval T.cv_Nursery_BODIES ?_
      exact fun d H' hd h' c => kb (.inr (.inr (.inl (by omega)))) _ d H' (.inr (.inr rfl)) (c06.seq (c7.nilL c).any)
    · walk_at "rd"
      refine ⟨s, .ref a, .nur r ms, rfl, .nur (c7.get0 ha6) (c7.sqT ht6) (hms6.ch0 c7), (show 1 + Tr.htL ms ≤ 4 by omega), ⟨⟨fun e => by rw [e] at hul; rw [hul] at h1; simp at h1, by omega⟩, hfu⟩, fun H8 c8 => ?_⟩
      walk_at "rd"
      refine x_cval T.cv_Nursery_DEPTH ?_
      walk_at "rd"
      have e8 : ((Tr.nur r ms).ht : Int) = 1 + (Tr.htL ms : Int) := by
        show ((1 + Tr.htL ms : Nat) : Int) = _
        omega
      rw [e8]
      refine ite_by (fun hh3 => ?_) (fun hh3 => ?_)
      · refine x_mkx1 ?_ (fun hq ⟨C, mc, v', u, e1, e2, e3, q⟩ => ⟨C, mc, v', u, e1, e2, e3, hq _ _ q⟩)
        walk_at "rd"
        refine x_cval T.cv_Nursery_DEPTH ?_
        exact fun d H' hd h' c => kb (.inr (.inr (.inr (by omega)))) _ d H' (.inr (.inr rfl)) (c06.seq ((c7.nilL c8).nilL c).any)
      · walk_at "rd"
        refine kg (fun hR => ?_) p H8 (c8.get0 (c7.get0 ha6)) (c06.seq (c7.nilL c8).any)
        rcases hR with q | ⟨x, hx, q⟩ | q | q
        · exact q (by omega)
        · rw [hna x hx] at q; cases q
        · omega
        · omega
end
def sp_body_named (K : PySem.W.Frag) : Sp := fun vs H Q E => ∃ (d dx bk d1 d2 db : Addr) (kvs : List (Key × V)) (names : List Str) (z : Str) (i : Int), vs = [.ref d, .str z, .int i] ∧ Dk K H d dx bk d1 d2 db kvs ∧ KvOk K H kvs names ∧ z.length ≤ sizeLine ∧
  (okN z = true → z ∈ names → ∀ b, Bd K H b z → Q (.ref b) H) ∧ (¬ (okN z = true ∧ z ∈ names) → ∀ e H', H' e = some (.xd [("line", .int i)]) → Ch [] H H' → E (.ref (He.ga K "BadLine")) (some e) H')
def sp_made_nursery (K : PySem.W.Frag) : Sp := fun vs H Q E => ∃ (s l : Addr) (r nm : Str) (sh : List Str) (us : List V) (ms : List Tr) (i : Int), vs = [.ref s, .str r, .ref l, .int i] ∧ H l = some (.lst us) ∧ r ∈ rulesL ∧ St K H s nm sh ∧ (∀ x ∈ sh, OkT x) ∧
  TnA K H s us ms ∧ Tr.fullL ms ∧ Tr.htL ms ≤ 3 ∧ (Tr.bsL ms).length ≤ 1000 ∧ ms.length ≤ 1000 ∧
  (¬ refN ms → ∀ v H', Tn K H' s v (.nur r ms) → Ch [] H H' → Q v H') ∧
  (refN ms → ∀ e H', H' e = some (.xd [("line", .int i)]) → Ch [] H H' → E (.ref (He.ga K "BadLine")) (some e) H')
theorem x_subS {C : Addr} {sp : Sp} {E : L2.St → XK} {to ti : TE} {σ : L2.St} {H : Hp} {Q : VK} (h : to σ H fun x H1 => ti σ H1 fun y H2 => ∃ a dx fs, x = .ref a ∧ H2 a = some (.ins C dx fs) ∧ sp [.ref a, y] H2 Q (E σ)) : tSubOS C sp E to ti σ H Q := h
section
variable {P : Program} {w : World} {K : PySem.W.Frag} {mg : Str → Option Value} {base : Heap}
theorem ok_body_named (T : Txt w K mg)  : FD P w K mg base (L2.CX P w) 8 (He.ga K "body_named") ["desk", "name", "index"] (sp_body_named K) := by
  refine FD.mkX T.f_body_named sc_body_named (fun vs H Q E h => ?_) (fun _ _ _ _ _ _ us hl => match us, hl with | [_, _, _], _ => rfl) (fun cdv A outer s H vs Q E hr h => ⟨_, (pss_cons (ps_if (pt_not (pt_val (pe_callD (ok_is_name T) hr (by first | decide | omega) (by rfl) T.g_is_name pass0 (pa_cons (pv 1) pa_nil)))) (pss_one (ps_raise (by rfl) (takes_of rfl rfl rfl rfl) (pmk_oexD T.ox_BadLine T.m_BadLine___init__ (ok_BadLine___init__ T) (hr.mono (by decide)) (by rfl) T.g_BadLine (pa_cons (pv 2) pa_nil)))) pss_nil)
  (pss_one (ps_try_asX (i := 3) rfl rfl rfl sc_body_named.nd rfl rfl ⟨rfl, by decide, .inl T.g_DeedError⟩ rfl (fun W pn xe tk hp => (pss_one (ps_ret (pe_subOS T.m_Desk___getitem__ (fnIn_of T.f_Desk___getitem__) (ok_Desk___getitem__ T).raw (hr.mono (by decide)) (fun σ => L2N.passAt tk σ) (pv 0) (pv 1)))))
  (fun a oe cls d pn xe hz hf tk hc => (pss_one (ps_raiseF (K := K) (by rfl) (i := 3) rfl rfl hz hf rfl (.inl rfl) tk (pmk_hot (K := K) (by rfl) T (roomH_mark (hr.mono (by decide)) _) hc (by rfl) (pa_cons (pv 2) pa_nil)))))))), ?_⟩)
  · obtain ⟨d, dx, bk, d1, d2, db, kvs, names, z, i, rfl, _⟩ := h
    rfl
  · obtain ⟨d, dx, bk, d1, d2, db, kvs, names, z, i, rfl, hd, hkv, hz, kg, kb⟩ := h
    walk_at "st"
    walk_at "rd"
    refine ⟨z, rfl, hz, ?_⟩
    walk_at "rd"
    refine ite_nb (fun hk => ?_) (fun hk => ?_)
    rotate_left 1
    · refine x_mkx1 ?_ (fun hq ⟨v, e, q⟩ => ⟨v, e, hq _ _ q⟩)
      walk_at "rd"
      exact fun e H' he h' c => kb (fun z => by have q := z.1; unfold okN at q; rw [hk] at q; cases q) e H' h' c
    walk_at "rd"
    refine x_subS ?_
    walk_at "rd"
    refine ⟨d, dx, _, rfl, hd.1, ⟨d, dx, bk, d1, d2, db, kvs, z, rfl, hd, fun v hv => ?_, fun hv e H' he c => ?_⟩⟩
    · by_cases hz' : z ∈ names
      · obtain ⟨b, hb1, hb2⟩ := (hkv z).1 hz'
        rw [hb1] at hv
        cases hv
        exact kg hk hz' b hb2
      · rw [(hkv z).2 hz'] at hv
        cases hv
    · have hz' : z ∉ names := fun m => by
        obtain ⟨b, hb1, _⟩ := (hkv z).1 m
        rw [hb1] at hv
        cases hv
      refine ⟨T.ex_NoBody_DeedError, fun a ha => ⟨rfl, T.ox_NoBody.exC, ?_⟩⟩
      refine x_mkx1 ?_ (fun hq ⟨v, e, q⟩ => ⟨v, e, hq _ _ q⟩)
      show tVar 2 [some (V.ref d), some (V.str z), some (V.int i), some (V.ref a)] H' _
      walk_at "rd"
      exact fun e2 H2 he2 h2 c2 => kb (fun q => hz' q.2) e2 H2 h2 (c.nilL c2)
theorem ok_made_nursery (T : Txt w K mg)  : FD P w K mg base (L2.CX P w) 10 (He.ga K "made_nursery") ["strike", "rule", "members", "index"] (sp_made_nursery K) := by
  refine FD.mkX T.f_made_nursery sc_made_nursery (fun vs H Q E h => ?_) (fun _ _ _ _ _ _ us hl => match us, hl with | [_, _, _, _], _ => rfl) (fun cdv A outer s H vs Q E hr h => ⟨_, (pss_one (ps_try_asX (i := 4) rfl rfl rfl sc_made_nursery.nd rfl rfl ⟨rfl, by decide, .inl T.g_DeedError⟩ rfl (fun W pn xe tk hp => (pss_one (ps_ret (pe_makeSt T.mk_Nursery (fnR_Nursery T) (hr.mono (by decide)) (by rfl) T.g_Nursery (fun σ => L2N.passAt tk σ) (pa_cons (pv 0) (pa_cons (pv 1) (pa_starE (K := K) (by rfl) (pv 2) pa_nil)))))))
  (fun a oe cls d pn xe hz hf tk hc => (pss_one (ps_raiseF (K := K) (by rfl) (i := 4) rfl rfl hz hf rfl (.inl rfl) tk (pmk_hot (K := K) (by rfl) T (roomH_mark (hr.mono (by decide)) _) hc (by rfl) (pa_cons (pv 3) pa_nil))))))), ?_⟩)
  · obtain ⟨s, l, r, nm, sh, us, ms, i, rfl, _⟩ := h
    rfl
  · obtain ⟨s, l, r, nm, sh, us, ms, i, rfl, hl, hr', hs, hsh, hms, hfu, hht, hbl, hml, kg, kb⟩ := h
    walk_at "st"
    walk_at "rd"
    refine x_makeRS ?_
    walk_at "rd"
    refine ⟨l, us, rfl, .inr (SqL.of hl), ?_⟩
    walk_at "rd"
    have hul := hms.length
    refine nO fun x dx H1 hx h1 c1 => ?_
    refine x_starI (ws := [.ref x, .ref s, .str r]) (rest := us) (by simp) rfl (sz_of (by omega)) fun t H2 ht h2 c2 => ?_
    have c02 := c1.nilL c2
    obtain ⟨dxs, ts, hs1, hs2⟩ := id hs
    refine ⟨x, dx, s, t, r, nm, sh, us, ms, rfl, c2.get0 h1, hr', ⟨dxs, ts, c02.get0 hs1, c02.sqT hs2⟩, hsh, SqT.of h2, hms.ch0 c02, hfu, hht, hbl, fun hR p H3 h3 c3 => ⟨rfl, ?_⟩, fun hR C d H3 hC c3 => ?_⟩
    · have nbx : ∀ y ∈ [x], ∀ o, H2 y = some o → NBn o = true := fun y m o e2 => by
        rw [List.mem_singleton.mp m, c2.get0 h1] at e2
        cases e2
        rfl
      exact kg hR _ H3 (.nur h3 (c3.sqT (SqT.of h2)) ((hms.ch0 c02).ch c3 nbx)) (Ch.drop (S := []) (c02.nilL c3) hx)
    · have c03 : Ch [] H H3 := Ch.drop (S := []) (c02.nilL c3) hx
      have fin : PySem.W.exmOne K (.ref C) (.ref (He.ga K "DeedError")) = some true → RzK K (.ref C) → WE (wAsX K (Value.ref (He.ga K "DeedError")) 4 fun a cls d x σ H => σ[4]? = some (some (V.ref a)) ∧ RzK K cls ∧ tMkO (He.ga K "BadLine") (sp_BadLine___init__ K) [] (tCons (tVar 3) tNil) σ H fun cls d H' => E cls d H') [some (V.ref s), some (V.str r), some (V.ref l), some (V.int i), none] (.ref C) (some d) H3 := fun h1 h2 => by
        refine ⟨h1, fun a ha => ⟨rfl, h2, ?_⟩⟩
        refine x_mkx1 ?_ (fun hq ⟨v, e, q⟩ => ⟨v, e, hq _ _ q⟩)
        show tVar 3 [some (V.ref s), some (V.str r), some (V.ref l), some (V.int i), some (V.ref a)] H3 _
        walk_at "rd"
        exact fun e2 H4 he2 h4 c4 => kb hR e2 H4 h4 (c03.nilL c4)
      rcases hC with rfl | rfl | rfl
      · exact fin T.ex_BadNumber_DeedError T.ox_BadNumber.exC
      · exact fin T.ex_BadMember_DeedError T.ox_BadMember.exC
      · exact fin T.ex_TooLarge_DeedError T.ox_TooLarge.exC
end
open TL
inductive Kn where
  | nur (r : Str) | bod (n : Str) | fin | bad
abbrev sp1 : Str := " "
abbrev strp (l : Str) : Str := Txt.lstripChars l sp1
abbrev nurL : List Str := ["nursery first", "nursery rank", "nursery least", "nursery all"]
/-- what a stripped line is -/
def kn (L : Str) : Kn := if L ∈ nurL then .nur (cutS L (some 8) none) else if Txt.startswith L "body " = true then .bod (cutS L (some 5) none) else if L = "end" then .fin else .bad
abbrev Fr : Type := Str × List Tr
open Classical in
/-- one line, the frames from the top down -/
noncomputable def stp (known : List Str) (fr : List Fr) (wh : Option Tr) (L : Str) : Option (List Fr × Option Tr) := match wh with
  | some _ => none
  | none => match kn L with
    | .nur r => some ((r, []) :: fr, none)
    | .bod n => match fr with
      | [] => none
      | (r, ms) :: fr => if okN n = true ∧ n ∈ known then some ((r, ms ++ [.body n]) :: fr, none) else none
    | .fin => match fr with
      | [] => none
      | (r, ms) :: fr => if refN ms then none else match fr with
        | [] => some ([], some (.nur r ms))
        | (q, ns) :: fr => some ((q, ns ++ [.nur r ms]) :: fr, none)
    | .bad => none
noncomputable def rn (known : List Str) : List Fr → Option Tr → List Str → Nat → Sum Nat (List Fr × Option Tr)
  | fr, wh, [], _ => .inr (fr, wh)
  | fr, wh, l :: ls, k => match stp known fr wh (strp l) with
    | none => .inl k
    | some (fr', wh') => rn known fr' wh' ls (k + 1)
open Classical in
/-- the number of the wrong line, or the nest -/
noncomputable def res (known : List Str) (hd : Str) (rest : List Str) : Sum Nat Tr := if goodL hd then match rn known [] none rest 2 with
    | .inl k => .inl k
    | .inr (_, some t) => .inr t
    | .inr (_, none) => .inl (rest.length + 2)
  else .inl 1
theorem rn_bad {known : List Str} {fr : List Fr} {wh : Option Tr} {l : Str} {ls : List Str} {k : Nat} (h : stp known fr wh (strp l) = none) : rn known fr wh (l :: ls) k = .inl k := by
  show (match stp known fr wh (strp l) with | none => _ | some (fr', wh') => _) = _
  rw [h]
theorem rn_ok {known : List Str} {fr fr' : List Fr} {wh wh' : Option Tr} {l : Str} {ls : List Str} {k : Nat} (h : stp known fr wh (strp l) = some (fr', wh')) : rn known fr wh (l :: ls) k = rn known fr' wh' ls (k + 1) := by
  show (match stp known fr wh (strp l) with | none => _ | some (fr', wh') => _) = _
  rw [h]
/-! the program's tests -/
theorem part_of (a b : Str) (h : 32 ∉ tl a) : Txt.partition (a ++ sp1 ++ b) sp1 = (a, sp1, b) := partition_app (s := 32) (S := []) (by decide +kernel) h
theorem part_no (a : Str) (h : 32 ∉ tl a) : Txt.partition a sp1 = (a, Str.empty, Str.empty) := partition_none (s := 32) (S := []) (by decide +kernel) h
/-- the program's first test -/
theorem test_nur (L : Str) : ((Txt.partition L sp1).1 = "nursery" ∧ (Txt.partition L sp1).2.2 ∈ rulesL) ↔ L ∈ nurL := by
  constructor
  · rintro ⟨h1, h2⟩
    rcases sp_cases L with h | ⟨a, b, h, rfl⟩
    · rw [part_no L h] at h2
      exact absurd h2 (show ¬ (Str.empty ∈ rulesL) by decide +kernel)
    · rw [part_of a b h] at h1 h2
      have h1' : a = "nursery" := h1
      have h2' : b ∈ rulesL := h2
      subst h1'
      simp only [rulesL, List.mem_cons, List.not_mem_nil, or_false] at h2'
      rcases h2' with rfl | rfl | rfl | rfl <;> decide +kernel
  · intro h
    simp only [nurL, List.mem_cons, List.not_mem_nil, or_false] at h
    rcases h with rfl | rfl | rfl | rfl
    · rw [show ("nursery first" : Str) = "nursery" ++ sp1 ++ "first" by decide +kernel, part_of _ _ (by decide +kernel)]
      exact ⟨rfl, by decide +kernel⟩
    · rw [show ("nursery rank" : Str) = "nursery" ++ sp1 ++ "rank" by decide +kernel, part_of _ _ (by decide +kernel)]
      exact ⟨rfl, by decide +kernel⟩
    · rw [show ("nursery least" : Str) = "nursery" ++ sp1 ++ "least" by decide +kernel, part_of _ _ (by decide +kernel)]
      exact ⟨rfl, by decide +kernel⟩
    · rw [show ("nursery all" : Str) = "nursery" ++ sp1 ++ "all" by decide +kernel, part_of _ _ (by decide +kernel)]
      exact ⟨rfl, by decide +kernel⟩
theorem kn_nur {L : Str} (h : L ∈ nurL) : kn L = .nur (Txt.partition L sp1).2.2 := by
  unfold kn
  rw [if_pos h]
  simp only [nurL, List.mem_cons, List.not_mem_nil, or_false] at h
  rcases h with rfl | rfl | rfl | rfl
  · rw [show ("nursery first" : Str) = "nursery" ++ sp1 ++ "first" by decide +kernel, part_of _ _ (by decide +kernel)]
    exact congrArg Kn.nur (by decide +kernel)
  · rw [show ("nursery rank" : Str) = "nursery" ++ sp1 ++ "rank" by decide +kernel, part_of _ _ (by decide +kernel)]
    exact congrArg Kn.nur (by decide +kernel)
  · rw [show ("nursery least" : Str) = "nursery" ++ sp1 ++ "least" by decide +kernel, part_of _ _ (by decide +kernel)]
    exact congrArg Kn.nur (by decide +kernel)
  · rw [show ("nursery all" : Str) = "nursery" ++ sp1 ++ "all" by decide +kernel, part_of _ _ (by decide +kernel)]
    exact congrArg Kn.nur (by decide +kernel)
theorem body_cut (b : Str) : cutS (("body" : Str) ++ sp1 ++ b) (some 5) none = b := by
  apply ext_tl
  have e := cut_from (("body" : Str) ++ sp1 ++ b) 5
  show tl (cutS (("body" : Str) ++ sp1 ++ b) (some ((5 : Nat) : Int)) none) = _
  rw [e, tl_append, show tl (("body" : Str) ++ sp1) = [98, 111, 100, 121, 32] by decide +kernel]
  rfl
theorem sw_body (L : Str) : Txt.startswith L "body " = true ↔ ∃ b : Str, L = ("body" : Str) ++ sp1 ++ b := by
  rw [sw_iff L "body " (by decide +kernel), pre_iff]
  constructor
  · rintro ⟨r, e⟩
    refine ⟨⟨r.toArray⟩, ext_tl ?_⟩
    rw [tl_append, e, show tl (("body" : Str) ++ sp1) = tl "body " by decide +kernel]
  · rintro ⟨b, rfl⟩
    exact ⟨tl b, by rw [tl_append, show tl (("body" : Str) ++ sp1) = tl "body " by decide +kernel]⟩
theorem word_body {L : Str} (h : (Txt.partition L sp1).1 = "body") : (Txt.startswith L "body " = true ∧ (Txt.partition L sp1).2.2 = cutS L (some 5) none) ∨ (L = "body" ∧ okN (Txt.partition L sp1).2.2 = false) := by
  rcases sp_cases L with hn | ⟨a, b, hn, rfl⟩
  · rw [part_no L hn] at h ⊢
    exact .inr ⟨h, show okN Str.empty = false by decide +kernel⟩
  · rw [part_of a b hn] at h ⊢
    have h' : a = "body" := h
    subst h'
    exact .inl ⟨(sw_body _).mpr ⟨b, rfl⟩, (body_cut b).symm⟩
theorem body_word {L : Str} (h : Txt.startswith L "body " = true) : (Txt.partition L sp1).1 = "body" := by
  obtain ⟨b, rfl⟩ := (sw_body L).mp h
  rw [part_of _ _ (by decide +kernel)]
theorem kn_bod {L : Str} (h1 : L ∉ nurL) (h : (Txt.partition L sp1).1 = "body") : kn L = .bod (Txt.partition L sp1).2.2 ∨ (kn L = .bad ∧ okN (Txt.partition L sp1).2.2 = false) := by
  unfold kn
  rw [if_neg h1]
  rcases word_body h with ⟨h2, h3⟩ | ⟨rfl, h3⟩
  · rw [if_pos h2, h3]
    exact .inl rfl
  · refine .inr ⟨?_, h3⟩
    rw [if_neg (by decide +kernel), if_neg (by decide +kernel)]
theorem kn_fin : kn "end" = .fin := by
  unfold kn
  rw [if_neg (by decide +kernel), if_neg (by decide +kernel), if_pos rfl]
theorem kn_bad {L : Str} (h1 : L ∉ nurL) (h2 : (Txt.partition L sp1).1 ≠ "body") (h3 : L ≠ "end") : kn L = .bad := by
  unfold kn
  rw [if_neg h1, if_neg (fun h => h2 (body_word h)), if_neg h3]
theorem strp_head {x : Str} {c : Nat} {cs : List Nat} (e : x.cps.toList = c :: cs) (h : c ≠ 32) : strp x = x := by
  have hc : (sp1.cps.contains c) = false := by
    show ((#[32] : Array Nat).contains c) = false
    cases q : (#[32] : Array Nat).contains c with
    | false => rfl
    | true =>
      have := Array.contains_iff_mem.mp q
      exact absurd (by simpa using this) h
  have e0 : stripLo sp1.cps.contains true x = 0 := by
    unfold stripLo
    rw [if_pos rfl, e, List.takeWhile_cons_of_neg (by rw [hc]; simp)]
    rfl
  show Txt.stripBy sp1.cps.contains true false x = x
  unfold Txt.stripBy
  rw [if_pos ?_]
  unfold stripSame stripHi
  rw [e0]
  simp
def isB (L : Str) : Bool := Txt.startswith L "body "
def isR (L : Str) : Bool := Txt.startswith L "nursery "
def bodyLs (ls : List Str) : List Str := (ls.filter fun l => isB (strp l)).map fun l => cutS (strp l) (some 5) none
def ruleLs (ls : List Str) : List Str := (ls.filter fun l => isR (strp l)).map fun l => cutS (strp l) (some 8) none
def cb (fr : List Fr) : Option Tr → List Str
  | some t => t.bs
  | none => fr.reverse.flatMap fun f => Tr.bsL f.2
def ci (fr : List Fr) : Option Tr → List Str
  | some t => t.ins
  | none => fr.reverse.flatMap fun f => f.1 :: Tr.insL f.2
theorem kn_cases (L : Str) : (L ∈ nurL ∧ kn L = .nur (cutS L (some 8) none)) ∨ (L ∉ nurL ∧ isB L = true ∧ kn L = .bod (cutS L (some 5) none)) ∨ (L = "end" ∧ kn L = .fin) ∨ kn L = .bad := by
  by_cases h1 : L ∈ nurL
  · exact .inl ⟨h1, by unfold kn; rw [if_pos h1]⟩
  by_cases h2 : isB L = true
  · exact .inr (.inl ⟨h1, h2, by unfold kn; rw [if_neg h1]; unfold isB at h2; rw [if_pos h2]⟩)
  by_cases h3 : L = "end"
  · exact .inr (.inr (.inl ⟨h3, by rw [h3]; exact kn_fin⟩))
  · exact .inr (.inr (.inr (by unfold kn; rw [if_neg h1]; unfold isB at h2; rw [if_neg h2, if_neg h3])))
theorem notR_of_B {L : Str} (h : isB L = true) : isR L = false := by
  cases q : isR L with
  | false => rfl
  | true =>
    obtain ⟨b, rfl⟩ := (sw_body L).mp h
    have q' : Txt.startswith (("body" : Str) ++ sp1 ++ b) "nursery " = true := q
    rw [sw_iff _ "nursery " (by decide +kernel), pre_iff] at q'
    obtain ⟨r, e⟩ := q'
    rw [tl_append, show tl (("body" : Str) ++ sp1) = [98, 111, 100, 121, 32] by decide +kernel, show tl ("nursery " : Str) = [110, 117, 114, 115, 101, 114, 121, 32] by decide +kernel] at e
    simp at e
theorem nur_B {L : Str} (h : L ∈ nurL) : isB L = false ∧ isR L = true := by
  simp only [nurL, List.mem_cons, List.not_mem_nil, or_false] at h
  rcases h with rfl | rfl | rfl | rfl <;> exact ⟨by decide +kernel, by decide +kernel⟩
theorem end_B : isB "end" = false ∧ isR "end" = false := ⟨by decide +kernel, by decide +kernel⟩
theorem stp_cont {known : List Str} {fr fr' : List Fr} {wh wh' : Option Tr} {L : Str} (h : stp known fr wh L = some (fr', wh')) :
    wh = none ∧ cb fr' wh' = cb fr none ++ (if isB L = true then [cutS L (some 5) none] else []) ∧ ci fr' wh' = ci fr none ++ (if isR L = true then [cutS L (some 8) none] else []) := by
  cases wh with
  | some t => cases h
  | none =>
    refine ⟨rfl, ?_⟩
    unfold stp at h
    rcases kn_cases L with ⟨h1, e⟩ | ⟨h1, h2, e⟩ | ⟨h1, e⟩ | e
    · rw [e] at h
      simp only at h
      cases h
      obtain ⟨q1, q2⟩ := nur_B h1
      rw [q1, q2]
      refine ⟨?_, ?_⟩
      · simp [cb, Tr.bsL]
      · simp [ci, Tr.insL]
    · rw [e] at h
      simp only at h
      rw [h2, notR_of_B h2]
      cases fr with
      | nil => cases h
      | cons f fr =>
        obtain ⟨r, ms⟩ := f
        simp only at h
        split at h
        · cases h
          refine ⟨?_, ?_⟩
          · simp [cb, bsL_app, Tr.bsL, Tr.bs]
          · simp [ci, insL_app, Tr.insL, Tr.ins]
        · cases h
    · rw [e] at h
      simp only at h
      obtain ⟨q1, q2⟩ := end_B
      rw [h1, q1, q2]
      cases fr with
      | nil => cases h
      | cons f fr =>
        obtain ⟨r, ms⟩ := f
        simp only at h
        split at h
        · cases h
        · cases fr with
          | nil =>
            cases h
            refine ⟨?_, ?_⟩
            · simp [cb, Tr.bs]
            · simp [ci, Tr.ins]
          | cons g fr =>
            obtain ⟨q, ns⟩ := g
            cases h
            refine ⟨?_, ?_⟩
            · simp [cb, bsL_app, Tr.bsL, Tr.bs]
            · simp [ci, insL_app, Tr.insL, Tr.ins]
    · rw [e] at h
      cases h
theorem bodyLs_cons (l : Str) (ls : List Str) : bodyLs (l :: ls) = (if isB (strp l) = true then [cutS (strp l) (some 5) none] else []) ++ bodyLs ls := by
  unfold bodyLs
  rw [List.filter_cons]
  split <;> rfl
theorem ruleLs_cons (l : Str) (ls : List Str) : ruleLs (l :: ls) = (if isR (strp l) = true then [cutS (strp l) (some 8) none] else []) ++ ruleLs ls := by
  unfold ruleLs
  rw [List.filter_cons]
  split <;> rfl
theorem rn_cont {known : List Str} {t : Tr} : ∀ {ls : List Str} {fr fr' : List Fr} {wh : Option Tr} {k : Nat}, rn known fr wh ls k = .inr (fr', some t) → t.bs = cb fr wh ++ bodyLs ls ∧ t.ins = ci fr wh ++ ruleLs ls
  | [], fr, fr', wh, k, h => by
    have e : wh = some t := by
      have h' : (Sum.inr (fr, wh) : Sum Nat (List Fr × Option Tr)) = .inr (fr', some t) := h
      injection h' with h'
      injection h'
    rw [e]
    exact ⟨by simp [cb, bodyLs], by simp [ci, ruleLs]⟩
  | l :: ls, fr, fr', wh, k, h => by
    cases e : stp known fr wh (strp l) with
    | none => rw [rn_bad e] at h; cases h
    | some p =>
      obtain ⟨fr2, wh2⟩ := p
      rw [rn_ok e] at h
      obtain ⟨h1, h2⟩ := rn_cont h
      obtain ⟨rfl, q1, q2⟩ := stp_cont e
      rw [h1, h2, q1, q2, bodyLs_cons, ruleLs_cons, List.append_assoc, List.append_assoc]
      exact ⟨rfl, rfl⟩
/-- a nest is a nursery -/
theorem stp_nur {known : List Str} {fr fr' : List Fr} {wh : Option Tr} {t : Tr} {L : Str} (h : stp known fr wh L = some (fr', some t)) : ∃ r ms, t = .nur r ms ∧ ¬ refN ms ∧ fr = [(r, ms)] := by
  cases wh with
  | some t => cases h
  | none =>
    unfold stp at h
    rcases kn_cases L with ⟨h1, e⟩ | ⟨h1, h2, e⟩ | ⟨h1, e⟩ | e
    · rw [e] at h
      cases h
    · rw [e] at h
      simp only at h
      cases fr with
      | nil => cases h
      | cons f fr =>
        obtain ⟨r, ms⟩ := f
        simp only at h
        split at h <;> cases h
    · rw [e] at h
      simp only at h
      cases fr with
      | nil => cases h
      | cons f fr =>
        obtain ⟨r, ms⟩ := f
        simp only at h
        split at h
        · cases h
        · rename_i hn
          cases fr with
          | nil =>
            cases h
            exact ⟨r, ms, rfl, hn, rfl⟩
          | cons g fr => cases h
    · rw [e] at h
      cases h
theorem rn_nur {known : List Str} {t : Tr} : ∀ {ls : List Str} {fr fr' : List Fr} {wh : Option Tr} {k : Nat}, rn known fr wh ls k = .inr (fr', some t) → wh = some t ∨ ∃ r ms, t = .nur r ms ∧ ¬ refN ms
  | [], fr, fr', wh, k, h => by
    have h' : (Sum.inr (fr, wh) : Sum Nat (List Fr × Option Tr)) = .inr (fr', some t) := h
    injection h' with h'
    injection h' with _ h'
    exact .inl h'
  | l :: ls, fr, fr', wh, k, h => by
    cases e : stp known fr wh (strp l) with
    | none => rw [rn_bad e] at h; cases h
    | some p =>
      obtain ⟨fr2, wh2⟩ := p
      rw [rn_ok e] at h
      rcases rn_nur h with q | q
      · subst q
        obtain ⟨r, ms, q1, q2, _⟩ := stp_nur e
        exact .inr ⟨r, ms, q1, q2⟩
      · exact .inr q
theorem res_inr {names : List Str} {hd : Str} {rest : List Str} {t : Tr} (h : res names hd rest = .inr t) : (∃ r ms, t = .nur r ms ∧ ¬ refN ms) ∧ t.bs = bodyLs (hd :: rest) ∧ t.ins = ruleLs (hd :: rest) := by
  unfold res at h
  split at h
  · rename_i g
    split at h
    · cases h
    · rename_i fr t' e
      cases h
      have hs : strp hd = hd ∧ isB hd = false ∧ isR hd = false := by
        obtain ⟨r, hr⟩ := pre_iff.mp ((sw_iff hd "strike " (by decide +kernel)).symm.trans g.1)
        have hr' : hd.cps.toList = 115 :: (116 :: 114 :: 105 :: 107 :: 101 :: 32 :: r) := by
          rw [show tl ("strike " : Str) = [115, 116, 114, 105, 107, 101, 32] by decide +kernel] at hr
          exact hr
        refine ⟨strp_head hr' (by decide), ?_, ?_⟩
        · cases q : isB hd with
          | false => rfl
          | true =>
            obtain ⟨z, hz⟩ := pre_iff.mp ((sw_iff hd "body " (by decide +kernel)).symm.trans q)
            rw [show tl ("body " : Str) = [98, 111, 100, 121, 32] by decide +kernel] at hz
            have hz' : hd.cps.toList = _ := hz
            rw [hr'] at hz'
            simp at hz'
        · cases q : isR hd with
          | false => rfl
          | true =>
            obtain ⟨z, hz⟩ := pre_iff.mp ((sw_iff hd "nursery " (by decide +kernel)).symm.trans q)
            rw [show tl ("nursery " : Str) = [110, 117, 114, 115, 101, 114, 121, 32] by decide +kernel] at hz
            have hz' : hd.cps.toList = _ := hz
            rw [hr'] at hz'
            simp at hz'
      obtain ⟨hs1, hs2, hs3⟩ := hs
      refine ⟨?_, ?_, ?_⟩
      · rcases rn_nur e with q | q
        · cases q
        · exact q
      · rw [(rn_cont e).1, bodyLs_cons, hs1, hs2]
        rfl
      · rw [(rn_cont e).2, ruleLs_cons, hs1, hs3]
        rfl
    · cases h
  · cases h
/-- the frames from the top down: their pairs, the addresses of their lists -/
inductive FrA (K : PySem.W.Frag) (H : Hp) (s : Addr) : List V → List Addr → List Fr → Prop
  | nil : FrA K H s [] [] []
  | cons {t l : Addr} {us : List V} {ms : List Tr} {r : Str} {ws : List V} {ls : List Addr} {fr : List Fr} : SqT K H t [.str r, .ref l] → H l = some (.lst us) → TnA K H s us ms → l ∉ ls → FrA K H s ws ls fr → FrA K H s (.ref t :: ws) (l :: ls) ((r, ms) :: fr)
theorem FrA.ch {K : PySem.W.Frag} {H H' : Hp} {s : Addr} {S : List Addr} {ws : List V} {ls : List Addr} {fr : List Fr} (h : FrA K H s ws ls fr) (c : Ch S H H') (n : ∀ x ∈ S, ∀ o, H x = some o → NBn o = true) (hd : ∀ l ∈ ls, l ∉ S) : FrA K H' s ws ls fr := by
  induction h with
  | nil => exact .nil
  | cons h1 h2 h3 h4 _ ih => exact .cons (c.sqT h1) (c.st _ _ (hd _ (List.mem_cons_self ..)) h2) (h3.ch c n) h4 (ih fun l hl => hd l (List.mem_cons_of_mem _ hl))
theorem FrA.ch0 {K : PySem.W.Frag} {H H' : Hp} {s : Addr} {ws : List V} {ls : List Addr} {fr : List Fr} (h : FrA K H s ws ls fr) (c : Ch [] H H') : FrA K H' s ws ls fr := h.ch c (fun x m => by cases m) (fun l _ m => by cases m)
theorem FrA.len {K : PySem.W.Frag} {H : Hp} {s : Addr} {ws : List V} {ls : List Addr} {fr : List Fr} (h : FrA K H s ws ls fr) : ws.length = fr.length := by
  induction h with
  | nil => rfl
  | cons _ _ _ _ _ ih => rw [List.length_cons, List.length_cons, ih]
/-- all bodies in the frames -/
def frB (fr : List Fr) : Nat := (fr.map fun f => (Tr.bsL f.2).length).sum
def FrOk (n : Nat) (fr : List Fr) : Prop := (∀ f ∈ fr, f.1 ∈ rulesL ∧ Tr.fullL f.2 ∧ Tr.htL f.2 ≤ 3 ∧ f.2.length ≤ n) ∧ frB fr ≤ n ∧ fr.length ≤ n
theorem FrOk.nil {n : Nat} : FrOk n [] := ⟨(fun f m => nomatch m), Nat.zero_le _, Nat.zero_le _⟩
/-- whole: none yet, or the nest -/
def WhV (K : PySem.W.Frag) (H : Hp) (s : Addr) : Option Tr → V → Prop
  | none, v => v = .non
  | some t, v => Tn K H s v t
/-- the frames at F, all lists of theirs made behind H0 -/
def RI (K : PySem.W.Frag) (H0 H : Hp) (s F : Addr) (fr : List Fr) (wh : Option Tr) (wv : V) : Prop := ∃ ws ls, FrA K H s ws ls fr ∧ H F = some (.lst ws.reverse) ∧ F ∉ ls ∧ (∀ l ∈ ls, H0 l = none) ∧ Ch [F] H0 H ∧ WhV K H s wh wv
theorem RI.ch {K : PySem.W.Frag} {H0 H : Hp} {s F : Addr} {fr : List Fr} {wh : Option Tr} {wv : V} (h : RI K H0 H s F fr wh wv) : Ch [F] H0 H := by
  obtain ⟨ws, ls, h1, h2, h3, h4, h5, h6⟩ := h
  exact h5
theorem RI.ch0 {K : PySem.W.Frag} {H0 H H' : Hp} {s F : Addr} {fr : List Fr} {wh : Option Tr} {wv : V} (h : RI K H0 H s F fr wh wv) (c : Ch [] H H') : RI K H0 H' s F fr wh wv := by
  obtain ⟨ws, ls, h1, h2, h3, h4, h5, h6⟩ := h
  refine ⟨ws, ls, h1.ch0 c, c.get0 h2, h3, h4, h5.nilR c, ?_⟩
  cases wh with
  | none => exact h6
  | some t => exact Tn.ch0 (show Tn K H s wv t from h6) c
theorem Ch.stepN {S : List Addr} {l : Addr} {H0 H H' : Hp} (cc : Ch S H0 H) (c : Ch [l] H H') (n : H0 l = none) : Ch S H0 H' := by
  refine Ch.drop ((cc.trans c).mono (S' := l :: S) fun b m => ?_) n
  rcases List.mem_append.mp m with q | q
  · exact List.mem_cons_of_mem _ q
  · rw [List.mem_singleton.mp q]
    exact List.mem_cons_self ..
theorem FrA.lists {K : PySem.W.Frag} {H : Hp} {s : Addr} {ws : List V} {ls : List Addr} {fr : List Fr} (h : FrA K H s ws ls fr) : ∀ l ∈ ls, ∃ us, H l = some (.lst us) := by
  induction h with
  | nil => intro l m; cases m
  | cons h1 h2 h3 h4 h5 ih =>
    intro x m
    rcases List.mem_cons.mp m with e | e
    · rw [e]; exact ⟨_, h2⟩
    · exact ih x e
theorem fullL_app {a b : List Tr} : Tr.fullL (a ++ b) ↔ Tr.fullL a ∧ Tr.fullL b := by
  induction a with
  | nil => exact ⟨fun h => ⟨trivial, h⟩, fun h => h.2⟩
  | cons t a ih =>
    show t.full ∧ Tr.fullL (a ++ b) ↔ (t.full ∧ Tr.fullL a) ∧ Tr.fullL b
    rw [ih, and_assoc]
theorem htL_app (a b : List Tr) : Tr.htL (a ++ b) = max (Tr.htL a) (Tr.htL b) := by
  induction a with
  | nil => exact (Nat.zero_max _).symm
  | cons t a ih =>
    show max t.ht (Tr.htL (a ++ b)) = max (max t.ht (Tr.htL a)) (Tr.htL b)
    rw [ih, Nat.max_assoc]
theorem frB_cons (f : Fr) (fr : List Fr) : frB (f :: fr) = (Tr.bsL f.2).length + frB fr := by
  unfold frB
  rw [List.map_cons, List.sum_cons]
theorem FrOk.push {n : Nat} {r : Str} {fr : List Fr} (h : FrOk n fr) (hr : r ∈ rulesL) : FrOk (n + 1) ((r, []) :: fr) := by
  obtain ⟨h1, h2, h3⟩ := h
  refine ⟨fun f m => ?_, ?_, ?_⟩
  · rcases List.mem_cons.mp m with e | e
    · rw [e]
      exact ⟨hr, trivial, Nat.zero_le _, Nat.zero_le _⟩
    · obtain ⟨q1, q2, q3, q4⟩ := h1 f e
      exact ⟨q1, q2, q3, by omega⟩
  · rw [frB_cons]
    show 0 + frB fr ≤ _
    omega
  · rw [List.length_cons]
    omega
theorem FrOk.body {n : Nat} {r z : Str} {ms : List Tr} {fr : List Fr} (h : FrOk n ((r, ms) :: fr)) : FrOk (n + 1) ((r, ms ++ [.body z]) :: fr) := by
  obtain ⟨h1, h2, h3⟩ := h
  rw [frB_cons] at h2
  have h2' : (Tr.bsL ms).length + frB fr ≤ n := h2
  refine ⟨fun f m => ?_, ?_, ?_⟩
  · rcases List.mem_cons.mp m with e | e
    · rw [e]
      obtain ⟨q1, q2, q3, q4⟩ := h1 _ (List.mem_cons_self ..)
      refine ⟨q1, fullL_app.mpr ⟨q2, trivial, trivial⟩, ?_, ?_⟩
      · show Tr.htL (ms ++ [.body z]) ≤ 3
        rw [htL_app]
        exact Nat.max_le.mpr ⟨q3, (show max 0 0 ≤ 3 by decide)⟩
      · show (ms ++ [Tr.body z]).length ≤ n + 1
        rw [List.length_append]
        exact Nat.add_le_add_right q4 1
    · obtain ⟨q1, q2, q3, q4⟩ := h1 f (List.mem_cons_of_mem _ e)
      exact ⟨q1, q2, q3, by omega⟩
  · rw [frB_cons]
    show (Tr.bsL (ms ++ [.body z])).length + frB fr ≤ n + 1
    rw [bsL_app, List.length_append]
    show (Tr.bsL ms).length + 1 + frB fr ≤ n + 1
    omega
  · rw [List.length_cons] at h3 ⊢
    omega
theorem FrOk.close {n : Nat} {r q : Str} {ms ns : List Tr} {fr : List Fr} (h : FrOk n ((r, ms) :: (q, ns) :: fr)) (hR : ¬ refN ms) : FrOk (n + 1) ((q, ns ++ [.nur r ms]) :: fr) := by
  obtain ⟨h1, h2, h3⟩ := h
  rw [frB_cons, frB_cons] at h2
  have h2' : (Tr.bsL ms).length + ((Tr.bsL ns).length + frB fr) ≤ n := h2
  obtain ⟨p1, p2, p3, p4⟩ := h1 _ (List.mem_cons_self ..)
  have n1 : 1 ≤ ms.length ∧ ms.length ≤ 4 := Classical.byContradiction fun z => hR (.inl z)
  have n2 : ¬ 3 < 1 + Tr.htL ms := fun z => hR (.inr (.inr (.inr z)))
  refine ⟨fun f m => ?_, ?_, ?_⟩
  · rcases List.mem_cons.mp m with e | e
    · rw [e]
      obtain ⟨q1, q2, q3, q4⟩ := h1 _ (List.mem_cons_of_mem _ (List.mem_cons_self ..))
      refine ⟨q1, fullL_app.mpr ⟨q2, ⟨⟨fun e => by rw [e] at n1; simp at n1, n1.2⟩, p2⟩, trivial⟩, ?_, ?_⟩
      · show Tr.htL (ns ++ [.nur r ms]) ≤ 3
        rw [htL_app]
        refine Nat.max_le.mpr ⟨q3, ?_⟩
        show max (1 + Tr.htL ms) 0 ≤ 3
        omega
      · show (ns ++ [Tr.nur r ms]).length ≤ n + 1
        rw [List.length_append]
        exact Nat.add_le_add_right q4 1
    · obtain ⟨q1, q2, q3, q4⟩ := h1 f (List.mem_cons_of_mem _ (List.mem_cons_of_mem _ e))
      exact ⟨q1, q2, q3, by omega⟩
  · rw [frB_cons]
    show (Tr.bsL (ns ++ [.nur r ms])).length + frB fr ≤ n + 1
    rw [bsL_app, List.length_append]
    show (Tr.bsL ns).length + (Tr.bsL ms ++ []).length + frB fr ≤ n + 1
    rw [List.append_nil]
    omega
  · rw [List.length_cons, List.length_cons] at h3
    rw [List.length_cons]
    omega
theorem rn_bad' {known : List Str} {fr : List Fr} {wh : Option Tr} {l L : Str} {ls : List Str} {k : Nat} (e : L = strp l) (h : stp known fr wh L = none) : rn known fr wh (l :: ls) k = .inl k := rn_bad (by rw [← e]; exact h)
theorem rn_ok' {known : List Str} {fr fr' : List Fr} {wh wh' : Option Tr} {l L : Str} {ls : List Str} {k : Nat} (e : L = strp l) (h : stp known fr wh L = some (fr', wh')) : rn known fr wh (l :: ls) k = rn known fr' wh' ls (k + 1) := rn_ok (by rw [← e]; exact h)
theorem FrA.ch1 {K : PySem.W.Frag} {H H' : Hp} {s F : Addr} {xs ws : List V} {ls : List Addr} {fr : List Fr} (h : FrA K H s ws ls fr) (c : Ch [F] H H') (hF : H F = some (.lst xs)) (n : F ∉ ls) : FrA K H' s ws ls fr := by
  refine h.ch c (fun x m o e => ?_) (fun l hl m => ?_)
  · rw [List.mem_singleton.mp m, hF] at e
    cases e
    rfl
  · rw [List.mem_singleton.mp m] at hl
    exact n hl
theorem inV_rules (r : Str) : inV (V.str r) [V.str (Str.ofString "first"), V.str (Str.ofString "rank"), V.str (Str.ofString "least"), V.str (Str.ofString "all")] = decide (r ∈ rulesL) := inV_str r rulesL
theorem stp_n {known : List Str} {fr : List Fr} {L r : Str} (h : kn L = .nur r) : stp known fr none L = some ((r, []) :: fr, none) := by
  unfold stp
  rw [h]
theorem stp_b {known : List Str} {fr : List Fr} {L : Str} (h : kn L = .bad) : stp known fr none L = none := by
  unfold stp
  rw [h]
theorem stp_nil {known : List Str} {L : Str} (h : ∀ r, kn L ≠ .nur r) : stp known [] none L = none := by
  unfold stp
  cases e : kn L with
  | nur r => exact absurd e (h r)
  | bod n => rfl
  | fin => rfl
  | bad => rfl
theorem stp_bodC {known : List Str} {r n L : Str} {ms : List Tr} {fr : List Fr} (h : kn L = .bod n) (g : okN n = true ∧ n ∈ known) : stp known ((r, ms) :: fr) none L = some ((r, ms ++ [.body n]) :: fr, none) := by
  unfold stp
  rw [h]
  exact if_pos g
theorem stp_bodN {known : List Str} {r n L : Str} {ms : List Tr} {fr : List Fr} (h : kn L = .bod n) (g : ¬ (okN n = true ∧ n ∈ known)) : stp known ((r, ms) :: fr) none L = none := by
  unfold stp
  rw [h]
  exact if_neg g
theorem stp_finN {known : List Str} {r L : Str} {ms : List Tr} {fr : List Fr} (h : kn L = .fin) (g : refN ms) : stp known ((r, ms) :: fr) none L = none := by
  unfold stp
  rw [h]
  exact if_pos g
theorem stp_finW {known : List Str} {r L : Str} {ms : List Tr} (h : kn L = .fin) (g : ¬ refN ms) : stp known [(r, ms)] none L = some ([], some (.nur r ms)) := by
  unfold stp
  rw [h]
  exact if_neg g
theorem stp_finC {known : List Str} {r q L : Str} {ms ns : List Tr} {fr : List Fr} (h : kn L = .fin) (g : ¬ refN ms) : stp known ((r, ms) :: (q, ns) :: fr) none L = some ((q, ns ++ [.nur r ms]) :: fr, none) := by
  unfold stp
  rw [h]
  exact if_neg g
theorem KvOk.ch0 {K : PySem.W.Frag} {H H' : Hp} {kvs : List (Key × V)} {names : List Str} (h : KvOk K H kvs names) (c : Ch [] H H') : KvOk K H' kvs names := fun n => ⟨fun m => by
  obtain ⟨b, h1, h2⟩ := (h n).1 m
  exact ⟨b, h1, h2.ch c (by simp)⟩, (h n).2⟩
theorem addI_mono {K : PySem.W.Frag} {i j : Int} {H : Hp} {Q Q' : VK} (hq : ∀ v H1, Q v H1 → Q' v H1) (q : rAdd K (.int i) (.int j) H Q) : rAdd K (.int i) (.int j) H Q' := by
  rcases q with ⟨a, b, h1, h2, q⟩ | ⟨a, b, h1, _⟩ | ⟨a, b, c, d, h1, _⟩ | ⟨a, b, c, d, h1, _⟩
  · exact .inl ⟨a, b, h1, h2, hq _ _ q⟩
  · cases h1
  · cases h1
  · cases h1
theorem res_bad {names : List Str} {hd : Str} {rest : List Str} {k : Nat} (g : goodL hd) (h : rn names [] none rest 2 = .inl k) : res names hd rest = .inl k := by
  unfold res
  rw [if_pos g, h]
theorem res_in {names : List Str} {hd : Str} {rest : List Str} {fr : List Fr} {t : Tr} (g : goodL hd) (h : rn names [] none rest 2 = .inr (fr, some t)) : res names hd rest = .inr t := by
  unfold res
  rw [if_pos g, h]
theorem res_un {names : List Str} {hd : Str} {rest : List Str} {fr : List Fr} (g : goodL hd) (h : rn names [] none rest 2 = .inr (fr, none)) : res names hd rest = .inl (rest.length + 2) := by
  unfold res
  rw [if_pos g, h]
def sp_read_nursery (K : PySem.W.Frag) : Sp := fun vs H Q E => ∃ (d dx bk d1 d2 db : Addr) (kvs : List (Key × V)) (names : List Str) (txt hd : Str) (rest : List Str), vs = [.ref d, .str txt] ∧ Dk K H d dx bk d1 d2 db kvs ∧ KvOk K H kvs names ∧
  Txt.split txt "\n" = hd :: rest ∧ txt.length ≤ 90000 ∧ (∀ l ∈ hd :: rest, l.length ≤ 60) ∧ rest.length ≤ 200 ∧
  (∀ t, res names hd rest = .inr t → ∀ s v H', Tn K H' s v t → Ch [] H H' → Q v H') ∧
  (∀ n, res names hd rest = .inl n → ∀ e H', H' e = some (.xd [("line", .int (n : Nat))]) → Ch [] H H' → E (.ref (He.ga K "BadLine")) (some e) H')
section
variable {P : Program} {w : World} {K : PySem.W.Frag} {mg : Str → Option Value} {base : Heap}
theorem ok_read_nursery (T : Txt w K mg)  : FD P w K mg base (L2.CX P w) 11 (He.ga K "read_nursery") ["desk", "text"] (sp_read_nursery K) := by
  refine FD.mkX T.f_read_nursery sc_read_nursery (fun vs H Q E h => ?_) (fun _ _ _ _ _ _ us hl => match us, hl with | [_, _], _ => rfl) (fun cdv A outer s H vs Q E hr h => ⟨_, (pss_cons (ps_set (i := 2) sc_read_nursery.nd rfl (.inl rfl) (pe_bm PySem.F.plainAttrs_str PySem.F.slot_str_split PySem.F.type_str_split mt_splitU (pv 1) (pa_cons pe_str pa_nil)))
  (pss_cons (ps_set (i := 3) sc_read_nursery.nd rfl (.inl rfl) (pe_callD (ok_strike_of T) hr (by decide) (by rfl) T.g_strike_of (passX (takes_of rfl rfl rfl rfl) (fun _ _ _ _ h => h)) (pa_cons (pe_ix ix_seq (pv 2) pe_int (by intro _ _; rfl)) pa_nil)))
  (pss_cons (ps_par (i := 4) (j := 5) (by rfl) sc_read_nursery.nd rfl rfl (by decide) rfl rfl (pa_cons (pe_lst pa_nil) (pa_cons pe_non pa_nil)) (by rfl))
  (pss_cons (ps_for PassesOwn.leaving rfl (pi_enumS (by decide) (by decide) (by rfl) T.n_enumerate (pa_cons (pe_slice u_slice (pv 2) (po_some pe_int) po_none) pa_nil)) (pg_tup rfl (pgs_cons (pg_name (i := 6) sc_read_nursery.nd rfl (.inl rfl)) (pgs_cons (pg_name (i := 7) sc_read_nursery.nd rfl (.inl rfl)) pgs_nil))) (pss_cons (ps_asg (pe_bm PySem.F.plainAttrs_str PySem.F.slot_str_partition PySem.F.type_str_partition mt_part (pe_bm PySem.F.plainAttrs_str PySem.F.slot_str_lstrip PySem.F.type_str_lstrip mt_lst (pv 7) (pa_cons pe_str pa_nil)) (pa_cons pe_str pa_nil)) (pg_tup rfl (pgs_cons (pg_name (i := 8) sc_read_nursery.nd rfl (.inl rfl)) (pgs_cons (pg_name (i := 9) sc_read_nursery.nd rfl (.inl rfl)) (pgs_cons (pg_name (i := 10) sc_read_nursery.nd rfl (.inl rfl)) pgs_nil)))))
  (pss_cons (ps_if (pt_cmpR u_isnot (pv 5) pe_non (nomark _)) (pss_one (ps_raise (by rfl) (takes_of rfl rfl rfl rfl) (pmk_oexD T.ox_BadLine T.m_BadLine___init__ (ok_BadLine___init__ T) (hr.mono (by decide)) (by rfl) T.g_BadLine (pa_cons (pv 6) pa_nil)))) pss_nil)
  (pss_one (ps_if (PW.pt (pw_and (pt_cmpR (u_eq (hu64 hr)) (pv 8) pe_str (nomark _)) (pw_and1 (pt_cmpR u_in (pv 10) (pe_gc (by rfl) T.v_RULES) (by rfl))))) (pss_one (ps_expr (pe_bm PySem.F.plainAttrs_list PySem.F.slot_list_append PySem.F.type_list_append mt_append (pv 4) (pa_cons (pe_tup (pa_cons (pv 10) (pa_cons (pe_lst pa_nil) pa_nil))) pa_nil)))) (pss_one (ps_if (PW.pt (pw_and (pt_cmpR (u_eq (hu64 hr)) (pv 8) pe_str (nomark _)) (pw_and1 (pt_cmpR u_gt (pe_callB c_len (by rfl) T.n_len bb_len (pa_cons (pv 4) pa_nil)) pe_int (nomark _))))) (pss_one (ps_expr (pe_bm PySem.F.plainAttrs_list PySem.F.slot_list_append PySem.F.type_list_append mt_append (pe_ix ix_seq (pe_ix ix_seq (pv 4) (pe_un un_neg pe_int) (by intro _ _; rfl)) pe_int (by intro _ _; rfl)) (pa_cons (pe_callD (ok_body_named T) hr (by decide) (by rfl) T.g_body_named (passX (takes_of rfl rfl rfl rfl) (fun _ _ _ _ h => h)) (pa_cons (pv 0) (pa_cons (pv 10) (pa_cons (pv 6) pa_nil)))) pa_nil)))) (pss_one (ps_if (PW.pt (pw_and (pt_cmpR (u_eq (hu64 hr)) (pe_bm PySem.F.plainAttrs_str PySem.F.slot_str_lstrip PySem.F.type_str_lstrip mt_lst (pv 7) (pa_cons pe_str pa_nil)) pe_str (nomark _)) (pw_and1 (pt_cmpR u_gt (pe_callB c_len (by rfl) T.n_len bb_len (pa_cons (pv 4) pa_nil)) pe_int (nomark _))))) (pss_cons (ps_asg (pe_bm0 PySem.F.plainAttrs_list PySem.F.slot_list_pop PySem.F.type_list_pop mt_pop (pv 4)) (pg_tup rfl (pgs_cons (pg_name (i := 11) sc_read_nursery.nd rfl (.inl rfl)) (pgs_cons (pg_name (i := 12) sc_read_nursery.nd rfl (.inl rfl)) pgs_nil))))
  (pss_cons (ps_set (i := 13) sc_read_nursery.nd rfl (.inl rfl) (pe_callD (ok_made_nursery T) hr (by decide) (by rfl) T.g_made_nursery (passX (takes_of rfl rfl rfl rfl) (fun _ _ _ _ h => h)) (pa_cons (pv 3) (pa_cons (pv 11) (pa_cons (pv 12) (pa_cons (pv 6) pa_nil))))))
  (pss_one (ps_if (pt_cmpR u_gt (pe_callB c_len (by rfl) T.n_len bb_len (pa_cons (pv 4) pa_nil)) pe_int (nomark _)) (pss_one (ps_expr (pe_bm PySem.F.plainAttrs_list PySem.F.slot_list_append PySem.F.type_list_append mt_append (pe_ix ix_seq (pe_ix ix_seq (pv 4) (pe_un un_neg pe_int) (by intro _ _; rfl)) pe_int (by intro _ _; rfl)) (pa_cons (pv 13) pa_nil)))) (pss_one (ps_set (i := 5) sc_read_nursery.nd rfl (.inl rfl) (pv 13))))))) (pss_one (ps_raise (by rfl) (takes_of rfl rfl rfl rfl) (pmk_oexD T.ox_BadLine T.m_BadLine___init__ (ok_BadLine___init__ T) (hr.mono (by decide)) (by rfl) T.g_BadLine (pa_cons (pv 6) pa_nil)))))))))))))
  (pss_cons (ps_if (pt_cmpR u_is (pv 5) pe_non (nomark _)) (pss_one (ps_raise (by rfl) (takes_of rfl rfl rfl rfl) (pmk_oexD T.ox_BadLine T.m_BadLine___init__ (ok_BadLine___init__ T) (hr.mono (by decide)) (by rfl) T.g_BadLine (pa_cons (pe_op u_add (pe_callB c_len (by rfl) T.n_len bb_len (pa_cons (pv 2) pa_nil)) pe_int) pa_nil)))) pss_nil)
  (pss_one (ps_ret (pv 5)))))))), ?_⟩)
  · obtain ⟨d, dx, bk, d1, d2, db, kvs, names, txt, hd, rest, rfl, _⟩ := h
    rfl
  · obtain ⟨d, dx, bk, d1, d2, db, kvs, names, txt, hd, rest, rfl, hD, hkv, hsp, htx, hls, hrl, kg, kb⟩ := h
    walk_at "st"
    walk_at "rd"
    refine x_split (by decide +kernel) (sz_of (by omega)) fun lL H1 hlL h1 c1 => ?_
    rw [show Txt.split txt (Str.ofString "\n") = hd :: rest from hsp] at h1
    walk_at "rd"
    refine ⟨hd, rfl, hls hd (List.mem_cons_self ..), fun hg s nm sh H2 hs hsh c2 => ?_, fun hg e H' he hc => kb 1 (by unfold res; rw [if_neg hg]) e H' he (c1.nilL hc)⟩
    have h2 := c2.get0 h1
    have c02 := c1.nilL c2
    walk_at "rd"
    refine x_par ?_
    walk_at "rd"
    refine nL fun F H3 hF h3 c3 => ?_
    walk_at "rd"
    refine x_parE ?_
    simp only [List.set_cons_succ, List.set_cons_zero]
    walk_at "rd"
    refine x_iES ?_
    walk_at "rd"
    have h23 := c3.get0 h2
    refine x_slL (SqL.of h23) fun l2 H4 hl4 h4 c4 => ?_
    rw [show cutV ((hd :: rest).map V.str) (some 1) none = rest.map V.str from cutV_up' _ 1] at h4
    walk_at "rd"
    refine ⟨l2, _, rfl, SqL.of h4, ?_⟩
    have h34 := c4.get0 h3
    have hnF : l2 ≠ F := fun z => by rw [z, h3] at hl4; cases hl4
    have c24 := c3.nilL c4
    refine goES (rest.map V.str) (fun i σ H' => ∃ fr wh wv o6 o7 o8 o9 o10 o11 o12 o13, σ = [some (.ref d), some (.str txt), some (.ref lL), some (.ref s), some (.ref F), some wv, o6, o7, o8, o9, o10, o11, o12, o13] ∧ RI K H4 H' s F fr wh wv ∧ rn names [] none rest 2 = rn names fr wh (rest.drop i) (2 + i) ∧ FrOk i fr)
      ⟨[], none, .non, none, none, none, none, none, none, none, none, rfl, ⟨[], [], .nil, h34, List.not_mem_nil, (fun l m => by cases m), (Ch.refl _).any, rfl⟩, rfl, FrOk.nil⟩ (fun i σ H' _ hI => ?_) (fun i x σ H' hx hI T0 H5 hT h5 c5 => ?_) (fun σ H' hI => ?_)
    · obtain ⟨fr, wh, wv, o6, o7, o8, o9, o10, o11, o12, o13, rfl, hR, hrn, hfk⟩ := hI
      exact SqL.of (hR.ch.get1 h4 hnF)
    · obtain ⟨fr, wh, wv, o6, o7, o8, o9, o10, o11, o12, o13, rfl, hR, hrn, hfk⟩ := hI
      obtain ⟨l, hl', rfl⟩ : ∃ l, rest[i]? = some l ∧ x = V.str l := by
        rw [List.getElem?_map] at hx
        cases q : rest[i]? with
        | none => rw [q] at hx; cases hx
        | some r => rw [q] at hx; exact ⟨r, rfl, (Option.some.inj hx).symm⟩
      have hll : l.length ≤ 60 := hls l (List.mem_cons_of_mem _ (List.mem_of_getElem? hl'))
      have hdr : rest.drop i = l :: rest.drop (i + 1) := by
        obtain ⟨hi, e⟩ := List.getElem?_eq_some_iff.mp hl'
        rw [List.drop_eq_getElem_cons hi, e]
      have hrnL : rn names [] none rest 2 = rn names fr wh (l :: rest.drop (i + 1)) (2 + i) := by rw [hrn, hdr]
      have hR5 := hR.ch0 c5
      walk_at "rd"
      refine x_lstrip (sz_of (by omega)) ?_
      walk_at "rd"
      obtain ⟨L, hL⟩ : ∃ L, L = strp l := ⟨_, rfl⟩
      rw [show Txt.lstripChars l (Str.ofString " ") = L from hL.symm]
      have hLl : L.length ≤ 60 := by rw [hL]; exact Nat.le_trans (lstrip_len l sp1) hll
      refine x_part (by decide +kernel) (sz_of (by omega)) fun p H6 hp h6 c6 => ?_
      have hR6 := hR5.ch0 c6
      obtain ⟨W, hW⟩ : ∃ W, W = (Txt.partition L sp1).1 := ⟨_, rfl⟩
      obtain ⟨R, hRR⟩ : ∃ R, R = (Txt.partition L sp1).2.2 := ⟨_, rfl⟩
      have h6' : H6 p = some (.tup [.str W, .str (Txt.partition L sp1).2.1, .str R]) := by rw [hW, hRR]; exact h6
      have hRl : R.length ≤ 60 := by rw [hRR]; exact Nat.le_trans (part_len L sp1 (by decide +kernel)).2 hLl
      generalize (Txt.partition L sp1).2.1 = M at h6'
      walk_at "rd"
      have c26 : Ch [] H2 H6 := Ch.drop (S := []) (c24.nilL hR6.ch) hF
      have raise_ : stp names fr wh L = none → ∀ σ' H', Ch [] H2 H' → σ'[6]? = some (some (V.int (2 + (i : Int)))) → tMkO (He.ga K "BadLine") (sp_BadLine___init__ K) [] (tCons (tVar 6) tNil) σ' H' (fun cls d H' => E cls d H') := fun hn σ' H' c hσ => by
        refine x_mkx1 ?_ (fun hq ⟨v, e, q⟩ => ⟨v, e, hq _ _ q⟩)
        refine x_var hσ ?_
        walk_at "rd"
        exact fun e H7 he h7 c7 => kb (2 + i) (res_bad hg (by rw [hrnL, rn_bad' hL hn])) e H7 (by rw [h7]; exact congrArg (fun z => some (HO.xd [(Str.ofString "line", V.int z)])) (by omega)) (c02.nilL (c.nilL c7))
      have next_ : ∀ fr' wh', stp names fr wh L = some (fr', wh') → rn names [] none rest 2 = rn names fr' wh' (rest.drop (i + 1)) (2 + (i + 1)) := fun fr' wh' h => by rw [hrnL, rn_ok' hL h]; rfl
      have hil : i < rest.length := (List.getElem?_eq_some_iff.mp hl').1
      cases wh with
      | some t =>
        have hwv : wv ≠ .non := by
          obtain ⟨_, _, _, _, _, _, _, q⟩ := hR6
          intro z
          have q' : Tn K H6 s wv t := q
          rw [z] at q'
          cases q'
        refine ite_nn hwv ?_
        exact raise_ rfl _ _ c26 rfl
      | none =>
        obtain ⟨ws, ls, hA, hFF, hFls, hls0, hch, hwv⟩ := hR6
        have hwv' : wv = .non := hwv
        subst hwv'
        refine ite_n rfl ?_
        have hwl : ws.reverse.length ≤ 200 := by
          rw [List.length_reverse, hA.len]
          have := hfk.2.2
          omega
        by_cases hn : L ∈ nurL
        · obtain ⟨q1, q2⟩ := (test_nur L).mpr hn
          have t1 : W = Str.ofString "nursery" := hW.trans q1
          rw [← hRR] at q2
          walk_at "rd"
          refine x_inT (T.q_RULES H6) rfl rfl ?_
          rw [inV_rules, decide_eq_true q2]
          walk_at "rd"
          refine nL fun b H7 hb h7 c7 => ?_
          walk_at "rd"
          refine nT fun u H8 hu h8 c8 => ?_
          walk_at "rd"
          have hF8 := c8.get0 (c7.get0 hFF)
          refine x_append hF8 (sz_lt (by omega)) fun H9 h9 c9 => ?_
          walk_at "rd"
          have huF : u ≠ F := Ne.symm (ne_of_none (c7.get0 hFF) hu)
          have hbF : b ≠ F := Ne.symm (ne_of_none hFF hb)
          have c69 := (c7.nilL c8).nilL c9
          refine ⟨(R, []) :: fr, none, .non, _, _, _, _, _, _, _, _, rfl, ⟨.ref u :: ws, b :: ls, .cons (SqT.of (c9.get1 h8 huF)) (c9.get1 (c8.get0 h7) hbF) .nil (fun m => ?_) (hA.ch1 c69 hFF hFls), ?_, ?_, ?_, hch.seq c69, rfl⟩, next_ _ _ (stp_n (by rw [kn_nur hn, hRR])), hfk.push q2⟩
          · obtain ⟨us, e⟩ := hA.lists b m
            rw [hb] at e
            cases e
          · rw [h9, List.reverse_cons]
          · intro m
            rcases List.mem_cons.mp m with e | e
            · exact hbF e.symm
            · exact hFls e
          · intro y m
            rcases List.mem_cons.mp m with e | e
            · rw [e]
              exact hch.free hb (by simpa using hbF)
            · exact hls0 y e
        · have hnW : ¬ (W = "nursery" ∧ R ∈ rulesL) := fun z => hn ((test_nur L).mp ⟨by rw [← hW]; exact z.1, by rw [← hRR]; exact z.2⟩)
          by_cases hWn : W = "nursery"
          · have hRn : R ∉ rulesL := fun z => hnW ⟨hWn, z⟩
            have t1 : W = Str.ofString "nursery" := hWn
            have t2 : ¬ W = Str.ofString "body" := by rw [hWn]; decide +kernel
            have t3 : ¬ L = Str.ofString "end" := fun z => by
              rw [hW, z] at hWn
              revert hWn
              decide +kernel
            walk_at "rd"
            refine x_inT (T.q_RULES H6) rfl rfl ?_
            rw [inV_rules, decide_eq_false hRn]
            walk_at "rd"
            refine x_lstrip (sz_of (by omega)) ?_
            rw [show Txt.lstripChars l (Str.ofString " ") = L from hL.symm]
            walk_at "rd"
            refine raise_ (stp_b (kn_bad hn (by rw [← hW]; exact t2) t3)) _ _ c26 rfl
          · have t1 : ¬ W = Str.ofString "nursery" := hWn
            by_cases hWb : W = "body"
            · have t2 : W = Str.ofString "body" := hWb
              have t3 : ¬ L = Str.ofString "end" := fun z => by
                rw [hW, z] at hWb
                revert hWb
                decide +kernel
              have hkb := kn_bod hn (hW.symm.trans hWb)
              rw [← hRR] at hkb
              cases hA with
              | nil =>
                walk_at "rd"
                refine x_lstrip (sz_of (by omega)) ?_
                rw [show Txt.lstripChars l (Str.ofString " ") = L from hL.symm]
                walk_at "rd"
                exact raise_ (stp_nil fun r e => by rcases hkb with q | ⟨q, _⟩ <;> rw [q] at e <;> cases e) _ _ c26 rfl
              | @cons tt l0 us ms r ws ls fr g1 g2 g3 g4 g5 =>
                rw [List.reverse_cons] at hFF hwl
                have nb0 : ∀ x ∈ [l0], ∀ o, H6 x = some o → NBn o = true := fun x m o e => by
                  rw [List.mem_singleton.mp m, g2] at e
                  cases e
                  rfl
                have hul : us.length ≤ 200 := by
                  rw [g3.length]
                  have := (hfk.1 _ (List.mem_cons_self ..)).2.2.2
                  have q : ms.length ≤ i := this
                  omega
                walk_at "rd"
                refine ite_d (by rw [List.length_append, List.length_singleton]; omega) ?_
                walk_at "rd"
                refine x_ixLm (SqL.of hFF) ?_
                walk_at "rd"
                refine ⟨d, dx, bk, d1, d2, db, kvs, names, R, _, rfl, hD.ch0 (c02.nilL c26), hkv.ch0 (c02.nilL c26), sz_of (by omega), fun ho hm b hb => ?_, fun hno e H' he hc => ?_⟩
                · have hkb' : kn L = .bod R := by
                    rcases hkb with q | ⟨_, q⟩
                    · exact q
                    · rw [q] at ho; cases ho
                  walk_at "rd"
                  refine x_append g2 (sz_lt (by omega)) fun H7 h7 c7 => ?_
                  walk_at "rd"
                  have hFl : F ≠ l0 := fun z => hFls (by rw [z]; exact List.mem_cons_self ..)
                  obtain ⟨dx', bk', t', u', e1, _⟩ := id hb
                  exact ⟨(r, ms ++ [.body R]) :: fr, none, .non, _, _, _, _, _, _, _, _, rfl, ⟨.ref tt :: ws, l0 :: ls, .cons (c7.sqT g1) h7 ((g3.ch c7 nb0).snoc (.body (hb.ch c7 (off_of nb0 e1 nbn_body)))) g4 (g5.ch1 c7 g2 g4), by rw [List.reverse_cons]; exact c7.get1 hFF hFl, hFls, hls0, hch.stepN c7 (hls0 l0 (List.mem_cons_self ..)), rfl⟩, next_ _ _ (stp_bodC hkb' ⟨ho, hm⟩), hfk.body⟩
                · have hst : stp names ((r, ms) :: fr) none L = none := by
                    rcases hkb with q | ⟨q, _⟩
                    · exact stp_bodN q hno
                    · exact stp_b q
                  exact kb (2 + i) (res_bad hg (by rw [hrnL, rn_bad' hL hst])) e H' (by rw [he]; exact congrArg (fun z => some (HO.xd [(Str.ofString "line", V.int z)])) (by omega)) ((c02.nilL c26).nilL hc)
            · have t2 : ¬ W = Str.ofString "body" := hWb
              by_cases hLe : L = "end"
              · have t3 : L = Str.ofString "end" := hLe
                have hkf : kn L = .fin := by rw [hLe]; exact kn_fin
                cases hA with
                | nil =>
                  walk_at "rd"
                  refine x_lstrip (sz_of (by omega)) ?_
                  rw [show Txt.lstripChars l (Str.ofString " ") = L from hL.symm]
                  walk_at "rd"
                  exact raise_ (stp_nil fun r e => by rw [hkf] at e; cases e) _ _ c26 rfl
                | @cons tt l0 us ms r ws ls fr g1 g2 g3 g4 g5 =>
                  rw [List.reverse_cons] at hFF hwl
                  obtain ⟨f1, f2, f3, f4⟩ := hfk.1 _ (List.mem_cons_self ..)
                  have f4' : ms.length ≤ i := f4
                  have f5 : (Tr.bsL ms).length ≤ i := by
                    have := hfk.2.1
                    rw [frB_cons] at this
                    exact Nat.le_trans (Nat.le_add_right _ _) this
                  have hFl : l0 ≠ F := fun z => hFls (by rw [z]; exact List.mem_cons_self ..)
                  have hFls' : F ∉ ls := fun m => hFls (List.mem_cons_of_mem _ m)
                  walk_at "rd"
                  refine x_lstrip (sz_of (by omega)) ?_
                  rw [show Txt.lstripChars l (Str.ofString " ") = L from hL.symm]
                  walk_at "rd"
                  refine ite_d (by rw [List.length_append, List.length_singleton]; omega) ?_
                  walk_at "rd"
                  refine x_pop hFF fun H7 h7 c7 => ?_
                  have c27 : Ch [] H2 H7 := Ch.drop (S := []) (c24.nilL (hch.seq c7)) hF
                  have g17 := c7.sqT g1
                  walk_at "rd"
                  obtain ⟨dxs, ts, hs1, hs2⟩ := id hs
                  have nbF : ∀ x ∈ [F], ∀ o, H6 x = some o → NBn o = true := fun x m o e => by
                    rw [List.mem_singleton.mp m, hFF] at e
                    cases e
                    rfl
                  refine ⟨s, l0, r, nm, sh, us, ms, _, rfl, c7.get1 g2 hFl, f1, ⟨dxs, ts, c27.get0 hs1, c27.sqT hs2⟩, hsh, g3.ch c7 nbF, f2, f3, by omega, by omega, fun hRf v H8 hT c8 => ?_, fun hRf e H' he hc => ?_⟩
                  · have h8 := c8.get0 h7
                    have g58 := (g5.ch1 c7 hFF hFls').ch0 c8
                    have hls0' : ∀ y ∈ ls, H4 y = none := fun y m => hls0 y (List.mem_cons_of_mem _ m)
                    have hch8 := (hch.seq c7).nilR c8
                    have hwl8 : ws.length ≤ 200 := by
                      rw [List.length_append, List.length_reverse] at hwl
                      omega
                    walk_at "rd"
                    cases g58 with
                    | nil =>
                      walk_at "rd"
                      exact ⟨[], some (.nur r ms), v, _, _, _, _, _, _, _, _, rfl, ⟨[], [], .nil, h8, List.not_mem_nil, (fun y m => by cases m), hch8, hT⟩, next_ _ _ (stp_finW hkf hRf), FrOk.nil⟩
                    | @cons tt2 l1 us1 ns q ws ls fr k1 k2 k3 k4 k5 =>
                      rw [List.reverse_cons] at h8
                      have nb1 : ∀ x ∈ [l1], ∀ o, H8 x = some o → NBn o = true := fun x m o e => by
                        rw [List.mem_singleton.mp m, k2] at e
                        cases e
                        rfl
                      have hul : us1.length ≤ 200 := by
                        rw [k3.length]
                        have := (hfk.1 _ (List.mem_cons_of_mem _ (List.mem_cons_self ..))).2.2.2
                        have q : ns.length ≤ i := this
                        omega
                      have hFl1 : F ≠ l1 := fun z => hFls' (by rw [z]; exact List.mem_cons_self ..)
                      refine ite_d (by rw [List.length_reverse, List.length_cons]; omega) ?_
                      walk_at "rd"
                      refine x_ixLm (SqL.of h8) ?_
                      walk_at "rd"
                      refine x_append k2 (sz_lt (by omega)) fun H9 h9 c9 => ?_
                      walk_at "rd"
                      exact ⟨(q, ns ++ [.nur r ms]) :: fr, none, .non, _, _, _, _, _, _, _, _, rfl, ⟨.ref tt2 :: ws, l1 :: ls, .cons (c9.sqT k1) h9 ((k3.ch c9 nb1).snoc (Tn.mono c9 nb1 _ _ hT)) k4 (k5.ch1 c9 k2 k4), by rw [List.reverse_cons]; exact c9.get1 h8 hFl1, hFls', hls0', hch8.stepN c9 (hls0' l1 (List.mem_cons_self ..)), rfl⟩, next_ _ _ (stp_finC hkf hRf), hfk.close hRf⟩
                  · exact kb (2 + i) (res_bad hg (by rw [hrnL, rn_bad' hL (stp_finN hkf hRf)])) e H' (by rw [he]; exact congrArg (fun z => some (HO.xd [(Str.ofString "line", V.int z)])) (by omega)) ((c02.nilL c27).nilL hc)
              · have t3 : ¬ L = Str.ofString "end" := hLe
                walk_at "rd"
                refine x_lstrip (sz_of (by omega)) ?_
                rw [show Txt.lstripChars l (Str.ofString " ") = L from hL.symm]
                walk_at "rd"
                exact raise_ (stp_b (kn_bad hn (by rw [← hW]; exact hWb) hLe)) _ _ c26 rfl
    · obtain ⟨fr, wh, wv, o6, o7, o8, o9, o10, o11, o12, o13, rfl, hR, hrn, hfk⟩ := hI
      rw [List.length_map, List.drop_length] at hrn
      have hnL : lL ≠ F := ne_of_none h2 hF
      obtain ⟨ws, ls, hA, hFF, hFls, hls0, hch, hwv⟩ := hR
      have hlE := hch.get1 (c4.get0 h23) hnL
      have cE : Ch [] H2 H' := Ch.drop (S := []) (c24.nilL hch) hF
      walk_at "rd"
      cases wh with
      | none =>
        have hwv' : wv = .non := hwv
        refine ite_d hwv' ?_
        refine x_mkx1 ?_ (fun hq ⟨v, e, x, n, e1, hl, q⟩ => ⟨v, e, x, n, e1, hl, addI_mono hq q⟩)
        walk_at "rd"
        exact fun e H7 he h7 c7 => kb (rest.length + 2) (res_un hg (by rw [hrn]; rfl)) e H7 (by rw [h7]; exact congrArg (fun z => some (HO.xd [(Str.ofString "line", V.int z)])) (by rw [List.length_map, List.length_cons]; omega)) ((c02.nilL cE).nilL c7)
      | some t =>
        have hT : Tn K H' s wv t := hwv
        refine ite_dn (fun z => by rw [z] at hT; cases hT) ?_
        walk_at "rd"
        exact kg t (res_in hg (by rw [hrn]; rfl)) s wv H' hT (c02.nilL cE)
end
def Atm (x : V) : Prop := x = .non ∨ (∃ b, x = .bl b) ∨ (∃ i, x = .int i) ∨ ∃ z, x = .str z
def Sm (K : PySem.W.Frag) (H : Hp) : Nat → V → V → Prop
  | 0, x, y => x = y ∧ Atm x
  | n + 1, x, y => (x = y ∧ Atm x) ∨ ∃ (a b : Addr) (xs ys : List V), x = .ref a ∧ y = .ref b ∧ (SqT K H a xs ∧ SqT K H b ys ∨ H a = some (.lst xs) ∧ H b = some (.lst ys)) ∧ xs.length = ys.length ∧ ys.length ≤ 100000 ∧ ∀ (i : Nat) u v, xs[i]? = some u → ys[i]? = some v → Sm K H n u v
section
variable {K : PySem.W.Frag} {H : Hp}
theorem Sm.atm {n : Nat} {x : V} (h : Atm x) : Sm K H n x x := by
  cases n with
  | zero => exact ⟨rfl, h⟩
  | succ n => exact .inl ⟨rfl, h⟩
theorem Sm.inv {n : Nat} {x y : V} (h : Sm K H n x y) : (x = y ∧ Atm x) ∨ ∃ (q : Nat) (a b : Addr) (xs ys : List V), n = q + 1 ∧ x = .ref a ∧ y = .ref b ∧ (SqT K H a xs ∧ SqT K H b ys ∨ H a = some (.lst xs) ∧ H b = some (.lst ys)) ∧ xs.length = ys.length ∧ ys.length ≤ 100000 ∧ ∀ (i : Nat) u v, xs[i]? = some u → ys[i]? = some v → Sm K H q u v := by
  cases n with
  | zero => exact .inl h
  | succ n =>
    rcases h with h | ⟨a, b, xs, ys, h⟩
    · exact .inl h
    · exact .inr ⟨n, a, b, xs, ys, rfl, h⟩
theorem Sm.up : ∀ {n m : Nat} {x y : V}, Sm K H n x y → n ≤ m → Sm K H m x y := by
  intro n
  induction n with
  | zero =>
    intro m x y h _
    obtain ⟨rfl, h⟩ := h
    exact Sm.atm h
  | succ n ih =>
    intro m x y h hm
    rcases h with ⟨rfl, h⟩ | ⟨a, b, xs, ys, e1, e2, h1, h2, h3, h4⟩
    · exact Sm.atm h
    · match m, hm with
      | m + 1, hm => exact .inr ⟨a, b, xs, ys, e1, e2, h1, h2, h3, fun i u v hu hv => ih (h4 i u v hu hv) (by omega)⟩
/-- flat enough, narrow enough -/
def Sd : Nat → PyData → Prop
  | _, .none => True
  | _, .bool _ => True
  | _, .int _ => True
  | _, .str _ => True
  | n + 1, .tuple ds => ds.length ≤ 100000 ∧ ∀ d ∈ ds, Sd n d
  | _, _ => False
theorem Sd.up : ∀ {n m : Nat} {d : PyData}, Sd n d → n ≤ m → Sd m d := by
  intro n
  induction n with
  | zero =>
    intro m d h _
    cases d with
    | none => cases m <;> exact trivial
    | bool => cases m <;> exact trivial
    | int => cases m <;> exact trivial
    | str => cases m <;> exact trivial
    | tuple ds => exact h.elim
    | list ds => exact h.elim
    | dict ds => exact h.elim
  | succ n ih =>
    intro m d h hm
    cases d with
    | none => cases m <;> exact trivial
    | bool => cases m <;> exact trivial
    | int => cases m <;> exact trivial
    | str => cases m <;> exact trivial
    | tuple ds =>
      match m, hm with
      | m + 1, hm => exact ⟨h.1, fun d hd => ih (h.2 d hd) (by omega)⟩
    | list ds => exact h.elim
    | dict ds => exact h.elim
theorem DtA.at_ {vs : List V} {ds : List PyData} (h : DtA K H vs ds) {i : Nat} {v : V} (e : vs[i]? = some v) : ∃ d, d ∈ ds ∧ ds[i]? = some d ∧ Dt K H v d := by
  obtain ⟨d, hd, hv⟩ := h.get e
  exact ⟨d, List.mem_of_getElem? hd, hd, hv⟩
theorem Sm.of_dt : ∀ {n : Nat} {d : PyData} {x y : V}, Sd n d → Dt K H x d → Dt K H y d → Sm K H n x y := by
  intro n
  induction n with
  | zero =>
    intro d x y h hx hy
    cases hx with
    | non => cases hy; exact Sm.atm (.inl rfl)
    | bl b => cases hy; exact Sm.atm (.inr (.inl ⟨_, rfl⟩))
    | int i => cases hy; exact Sm.atm (.inr (.inr (.inl ⟨_, rfl⟩)))
    | str z => cases hy; exact Sm.atm (.inr (.inr (.inr ⟨_, rfl⟩)))
    | tup _ _ => exact h.elim
  | succ n ih =>
    intro d x y h hx hy
    cases hx with
    | non => cases hy; exact Sm.atm (.inl rfl)
    | bl b => cases hy; exact Sm.atm (.inr (.inl ⟨_, rfl⟩))
    | int i => cases hy; exact Sm.atm (.inr (.inr (.inl ⟨_, rfl⟩)))
    | str z => cases hy; exact Sm.atm (.inr (.inr (.inr ⟨_, rfl⟩)))
    | @tup a xs ds hs ha =>
      cases hy with
      | @tup b ys _ hs2 ha2 =>
      refine .inr ⟨a, b, xs, ys, rfl, rfl, .inl ⟨hs, hs2⟩, by rw [ha.length, ha2.length], by rw [ha2.length]; exact h.1, fun i u v hu hv => ?_⟩
      obtain ⟨d, hd, e, hd1⟩ := ha.at_ hu
      obtain ⟨d', hd', e', hd2⟩ := ha2.at_ hv
      rw [e] at e'
      cases e'
      exact ih (h.2 d hd) hd1 hd2
theorem Sm.lst {n : Nat} {a b : Addr} {xs ys : List V} {ds : List PyData} (h1 : H a = some (.lst xs)) (h2 : H b = some (.lst ys)) (ha : DtA K H xs ds) (hb : DtA K H ys ds) (hd : ∀ d ∈ ds, Sd n d) (hl : ds.length ≤ 100000) : Sm K H (n + 1) (.ref a) (.ref b) := by
  refine .inr ⟨a, b, xs, ys, rfl, rfl, .inr ⟨h1, h2⟩, by rw [ha.length, hb.length], by rw [hb.length]; exact hl, fun i u v hu hv => ?_⟩
  obtain ⟨d, hd1, e, q1⟩ := ha.at_ hu
  obtain ⟨d', hd', e', q2⟩ := hb.at_ hv
  rw [e] at e'
  cases e'
  exact Sm.of_dt (hd d hd1) q1 q2
theorem Sm.tup {n : Nat} {a b : Addr} {xs ys : List V} {ds : List PyData} (h1 : SqT K H a xs) (h2 : SqT K H b ys) (ha : DtA K H xs ds) (hb : DtA K H ys ds) (hd : ∀ d ∈ ds, Sd n d) (hl : ds.length ≤ 100000) : Sm K H (n + 1) (.ref a) (.ref b) := by
  refine .inr ⟨a, b, xs, ys, rfl, rfl, .inl ⟨h1, h2⟩, by rw [ha.length, hb.length], by rw [hb.length]; exact hl, fun i u v hu hv => ?_⟩
  obtain ⟨d, hd1, e, q1⟩ := ha.at_ hu
  obtain ⟨d', hd', e', q2⟩ := hb.at_ hv
  rw [e] at e'
  cases e'
  exact Sm.of_dt (hd d hd1) q1 q2
theorem Sd.str (n : Nat) (z : Str) : Sd n (.str z) := by cases n <;> exact trivial
theorem Sd.int (n : Nat) (z : Int) : Sd n (.int z) := by cases n <;> exact trivial
end
def sp__law_same (K : PySem.W.Frag) (n : Nat) : Sp := fun vs H Q E => ∃ (x y : V), vs = [x, y] ∧ Sm K H n x y ∧ Q (.bl true) H
section
variable {P : Program} {w : World} {K : PySem.W.Frag} {mg : Str → Option Value} {base : Heap}
theorem st__law_same (T : Txt w K mg) {j k : Nat} {sp' : Sp} (r : Nat) (F : FD P w K mg base CX0 j (He.ga K "_law_same") ["actual", "expected"] sp') (hj : j ≤ k) (hsp : ∀ q, r = q + 1 → sp' = sp__law_same K q) :
    FD P w K mg base CX0 (k + 1) (He.ga K "_law_same") ["actual", "expected"] (sp__law_same K r) := by
  refine FD.mk0 T.f__law_same sc__law_same (fun vs H Q E h => ?_) (fun _ _ _ _ _ _ us hl => match us, hl with | [_, _], _ => rfl) (fun cdv A outer s H vs Q E hr h => ⟨_, (pss_cons (ps_if (pt_cmpR u_is (pv 1) pe_non (nomark _)) (pss_one (ps_ret (pe_cmpR u_is (pv 0) pe_non (nomark _)))) pss_nil)
  (pss_cons (ps_if (pt_val (pe_callB call_isi (by rfl) T.n_isinstance bb_isinstance (pa_cons (pv 1) (pa_cons (pe_bltn (v := .ty "bool") (by rfl) T.n_bool bb_bool rfl) pa_nil)))) (pss_one (ps_ret (pe_and (pe_callB call_isi (by rfl) T.n_isinstance bb_isinstance (pa_cons (pv 0) (pa_cons (pe_bltn (v := .ty "bool") (by rfl) T.n_bool bb_bool rfl) pa_nil))) (pe_one (pe_cmpR (u_eq (hu64 hr)) (pv 0) (pv 1) (nomark _)))))) pss_nil)
  (pss_cons (ps_if (pt_val (pe_callB call_isi (by rfl) T.n_isinstance bb_isinstance (pa_cons (pv 1) (pa_cons (pe_bltn (v := .ty "int") (by rfl) T.n_int bb_int rfl) pa_nil)))) (pss_one (ps_ret (pe_and (pe_callB call_isi (by rfl) T.n_isinstance bb_isinstance (pa_cons (pv 0) (pa_cons (pe_bltn (v := .ty "int") (by rfl) T.n_int bb_int rfl) pa_nil))) (pe_and (pe_not (pe_callB call_isi (by rfl) T.n_isinstance bb_isinstance (pa_cons (pv 0) (pa_cons (pe_bltn (v := .ty "bool") (by rfl) T.n_bool bb_bool rfl) pa_nil)))) (pe_one (pe_cmpR (u_eq (hu64 hr)) (pv 0) (pv 1) (nomark _))))))) pss_nil)
  (pss_cons (ps_if (pt_val (pe_callB call_isi (by rfl) T.n_isinstance bb_isinstance (pa_cons (pv 1) (pa_cons (pe_bltn (v := .ty "str") (by rfl) T.n_str bb_str rfl) pa_nil)))) (pss_one (ps_ret (pe_and (pe_callB call_isi (by rfl) T.n_isinstance bb_isinstance (pa_cons (pv 0) (pa_cons (pe_bltn (v := .ty "str") (by rfl) T.n_str bb_str rfl) pa_nil))) (pe_one (pe_cmpR (u_eq (hu64 hr)) (pv 0) (pv 1) (nomark _)))))) pss_nil)
  (pss_cons (ps_if (PW.pt (pw_and (pt_val (pe_callB call_isi (by rfl) T.n_isinstance bb_isinstance (pa_cons (pv 1) (pa_cons (pe_bltn (v := .ty "tuple") (by rfl) T.n_tuple bb_tuple rfl) pa_nil)))) (pw_and1 (pt_not (pt_val (pe_callB call_isi (by rfl) T.n_isinstance bb_isinstance (pa_cons (pv 0) (pa_cons (pe_bltn (v := .ty "tuple") (by rfl) T.n_tuple bb_tuple rfl) pa_nil)))))))) (pss_one (ps_ret pe_bl)) pss_nil)
  (pss_cons (ps_if (PW.pt (pw_and (pt_val (pe_callB call_isi (by rfl) T.n_isinstance bb_isinstance (pa_cons (pv 1) (pa_cons (pe_bltn (v := .ty "list") (by rfl) T.n_list bb_list rfl) pa_nil)))) (pw_and1 (pt_not (pt_val (pe_callB call_isi (by rfl) T.n_isinstance bb_isinstance (pa_cons (pv 0) (pa_cons (pe_bltn (v := .ty "list") (by rfl) T.n_list bb_list rfl) pa_nil)))))))) (pss_one (ps_ret pe_bl)) pss_nil)
  (pss_cons (ps_if (pt_cmpR (u_ne (hu64 hr)) (pe_callB c_len (by rfl) T.n_len bb_len (pa_cons (pv 0) pa_nil)) (pe_callB c_len (by rfl) T.n_len bb_len (pa_cons (pv 1) pa_nil)) (nomark _)) (pss_one (ps_ret pe_bl)) pss_nil)
  (pss_cons (ps_for PassesOwn.never rfl (pi_range1 (by rfl) T.n_range (pa_cons (pe_callB c_len (by rfl) T.n_len bb_len (pa_cons (pv 1) pa_nil)) pa_nil)) (pg_name (i := 2) sc__law_same.nd rfl (.inl rfl)) (pss_one (ps_if (pt_not (pt_val (pe_callD F hr (by first | decide | omega) (by rfl) T.g__law_same pass0 (pa_cons (pe_ix ix_seq (pv 0) (pv 2) (by intro _ _; rfl)) (pa_cons (pe_ix ix_seq (pv 1) (pv 2) (by intro _ _; rfl)) pa_nil))))) (pss_one (ps_ret pe_bl)) pss_nil)))
  (pss_one (ps_ret pe_bl)))))))))), ?_⟩)
  · obtain ⟨x, y, rfl, _⟩ := h
    rfl
  · obtain ⟨x, y, rfl, hS, kk⟩ := h
    walk_at "st"
    rcases hS.inv with ⟨rfl, hA⟩ | ⟨q, a, b, xs, ys, rfl, rfl, rfl, hq, hl, hz, hs⟩
    · rcases hA with rfl | ⟨b, rfl⟩ | ⟨i, rfl⟩ | ⟨z, rfl⟩
      · have e : decide (V.non = V.non) = true := decide_eq_true rfl
        walk_at "rd"
        rw [e]
        exact kk
      · have e : decide (b = b) = true := decide_eq_true rfl
        walk_at "rd"
        refine x_isBl (b := true) (by decide +kernel) ?_
        walk_at "rd"
        refine x_isBl (b := true) (by decide +kernel) ?_
        walk_at "rd"
        rw [e]
        exact kk
      · have e : decide (i = i) = true := decide_eq_true rfl
        walk_at "rd"
        refine x_isInt (b := false) (by decide +kernel) ?_
        walk_at "rd"
        refine x_isInt (b := true) (by decide +kernel) ?_
        walk_at "rd"
        refine x_isInt (b := true) (by decide +kernel) ?_
        walk_at "rd"
        refine x_isInt (b := false) (by decide +kernel) ?_
        walk_at "rd"
        rw [e]
        exact kk
      · have e : decide (z = z) = true := decide_eq_true rfl
        walk_at "rd"
        refine x_isStr (b := false) (by decide +kernel) ?_
        walk_at "rd"
        refine x_isStr (b := false) (by decide +kernel) ?_
        walk_at "rd"
        refine x_isStr (b := true) (by decide +kernel) ?_
        walk_at "rd"
        refine x_isStr (b := true) (by decide +kernel) ?_
        walk_at "rd"
        rw [e]
        exact kk
    · have hl2 : (xs.length : Int) = (ys.length : Int) := by omega
      rcases hq with ⟨ha, hb⟩ | ⟨ha, hb⟩
      · walk_at "rd"
        refine x_isTup (b := false) hb (by decide +kernel) ?_
        walk_at "rd"
        refine x_isTup (b := false) hb (by decide +kernel) ?_
        walk_at "rd"
        refine x_isTup (b := false) hb (by decide +kernel) ?_
        walk_at "rd"
        refine x_isTup (b := true) hb (by decide +kernel) ?_
        walk_at "rd"
        refine x_isTup (b := true) ha (by decide +kernel) ?_
        walk_at "rd"
        refine x_isTup (b := false) hb (by decide +kernel) ?_
        walk_at "rd"
        refine goR (fun i σ H' => H' = H ∧ ∃ o, σ = [some (.ref a), some (.ref b), o]) ⟨rfl, none, rfl⟩ (fun i σ H' hi hI => ?_) (fun σ H' hI => ?_)
        · obtain ⟨rfl, o, rfl⟩ := hI
          obtain ⟨u, hu⟩ : ∃ u, xs[i]? = some u := ⟨_, List.getElem?_eq_getElem (by omega)⟩
          obtain ⟨v, hv⟩ : ∃ v, ys[i]? = some v := ⟨_, List.getElem?_eq_getElem (by omega)⟩
          rw [hsp q rfl]
          walk_at "rd"
          refine x_ixT (k := i) ha (by omega) hu ?_
          walk_at "rd"
          refine x_ixT (k := i) hb (by omega) hv ?_
          walk_at "rd"
          refine ⟨u, v, rfl, hs i u v hu hv, ?_⟩
          walk_at "rd"
          exact ⟨rfl, _, rfl⟩
        · obtain ⟨rfl, o, rfl⟩ := hI
          walk_at "rd"
          exact kk
      · walk_at "rd"
        refine x_isLst (b := false) hb (by decide +kernel) ?_
        walk_at "rd"
        refine x_isLst (b := false) hb (by decide +kernel) ?_
        walk_at "rd"
        refine x_isLst (b := false) hb (by decide +kernel) ?_
        walk_at "rd"
        refine x_isLst (b := false) hb (by decide +kernel) ?_
        walk_at "rd"
        refine x_isLst (b := true) hb (by decide +kernel) ?_
        walk_at "rd"
        refine x_isLst (b := true) ha (by decide +kernel) ?_
        walk_at "rd"
        refine goR (fun i σ H' => H' = H ∧ ∃ o, σ = [some (.ref a), some (.ref b), o]) ⟨rfl, none, rfl⟩ (fun i σ H' hi hI => ?_) (fun σ H' hI => ?_)
        · obtain ⟨rfl, o, rfl⟩ := hI
          obtain ⟨u, hu⟩ : ∃ u, xs[i]? = some u := ⟨_, List.getElem?_eq_getElem (by omega)⟩
          obtain ⟨v, hv⟩ : ∃ v, ys[i]? = some v := ⟨_, List.getElem?_eq_getElem (by omega)⟩
          rw [hsp q rfl]
          walk_at "rd"
          refine x_ixL (k := i) (SqL.of ha) (by omega) hu ?_
          walk_at "rd"
          refine x_ixL (k := i) (SqL.of hb) (by omega) hv ?_
          walk_at "rd"
          refine ⟨u, v, rfl, hs i u v hu hv, ?_⟩
          walk_at "rd"
          exact ⟨rfl, _, rfl⟩
        · obtain ⟨rfl, o, rfl⟩ := hI
          walk_at "rd"
          exact kk
theorem ok__law_sameN (T : Txt w K mg) : ∀ r : Nat, FD P w K mg base CX0 (2 + r) (He.ga K "_law_same") ["actual", "expected"] (sp__law_same K r)
  | 0 => st__law_same T (sp' := fun _ _ _ _ => False) (j := 1) (k := 1) 0 (FD.mk0 T.f__law_same sc__law_same (fun vs H Q E h => h.elim) (fun _ _ _ _ _ _ us hl => match us, hl with | [_, _], _ => rfl) (fun cdv A outer s H vs Q E hr h => h.elim)) (Nat.le_refl _) fun q e => by cases e
  | r + 1 => st__law_same T (r + 1) (ok__law_sameN T r) (Nat.le_refl _) fun q e => by injection e with e; rw [e]
theorem ok__law_same (T : Txt w K mg) : FD P w K mg base CX0 10 (He.ga K "_law_same") ["actual", "expected"] (sp__law_same K 8) := ok__law_sameN T 8
theorem use_same {H : Hp} {Q : VK} {E : XK} {n : Nat} {x y : V} (h : Sm K H n x y) (hn : n ≤ 8) (q : Q (.bl true) H) : sp__law_same K 8 [x, y] H Q E := ⟨x, y, rfl, h.up hn, q⟩
end
/-- the law refuses a frame -/
def refR (rs : List Str) (m lv : Int) : Prop := ¬ (1 ≤ rs.length ∧ rs.length ≤ 4) ∨ ("all" : Str) ∈ rs ∨ 8 < m ∨ 3 < lv
def sp__law_refusal (K : PySem.W.Frag) : Sp := fun vs H Q E => ∃ (a b : Addr) (r : Str) (rs : List Str) (m lv : Int), vs = [.ref a] ∧ H a = some (.lst [.str r, .ref b, .int m, .int lv]) ∧ H b = some (.lst (rs.map V.str)) ∧ (refR rs m lv → ∀ z : Str, Q (.str z) H) ∧ (¬ refR rs m lv → Q .non H)
def sp__law_strike_line : Sp := fun vs H Q E => ∃ l : Str, vs = [.str l] ∧ l.length ≤ 60 ∧ ∀ (b : Bool) H', (b = true ↔ goodL l) → Ch [] H H' → Q (.bl b) H'
section
variable {P : Program} {w : World} {K : PySem.W.Frag} {mg : Str → Option Value} {base : Heap}
theorem ok__law_refusal (T : Txt w K mg)  : FD P w K mg base CX0 1 (He.ga K "_law_refusal") ["frame"] (sp__law_refusal K) := by
  refine FD.mk0 T.f__law_refusal sc__law_refusal (fun vs H Q E h => ?_) (fun _ _ _ _ _ _ us hl => match us, hl with | [_], _ => rfl) (fun cdv A outer s H vs Q E hr h => ⟨_, (pss_cons (ps_asg (pv 0) (pg_lst rfl (pgs_cons (pg_name (i := 1) sc__law_refusal.nd rfl (.inl rfl)) (pgs_cons (pg_name (i := 2) sc__law_refusal.nd rfl (.inl rfl)) (pgs_cons (pg_name (i := 3) sc__law_refusal.nd rfl (.inl rfl)) (pgs_cons (pg_name (i := 4) sc__law_refusal.nd rfl (.inl rfl)) pgs_nil))))))
  (pss_cons (ps_if (PW.pt (pw_or (pt_cmpR u_lt (pe_callB c_len (by rfl) T.n_len bb_len (pa_cons (pv 2) pa_nil)) pe_int (nomark _)) (pw_or1 (pt_cmpR u_gt (pe_callB c_len (by rfl) T.n_len bb_len (pa_cons (pv 2) pa_nil)) pe_int (nomark _))))) (pss_one (ps_ret pe_str)) pss_nil)
  (pss_cons (ps_if (pt_cmpR u_in pe_str (pv 2) (by rfl)) (pss_one (ps_ret pe_str)) pss_nil)
  (pss_one (ps_ret (pe_ifExp (PW.pt (pw_or (pt_cmpR u_gt (pv 3) pe_int (nomark _)) (pw_or1 (pt_cmpR u_gt (pv 4) pe_int (nomark _))))) pe_str pe_non)))))), ?_⟩)
  · obtain ⟨a, b, r, rs, m, lv, rfl, _⟩ := h
    rfl
  · obtain ⟨a, b, r, rs, m, lv, rfl, ha, hb, kr, kn⟩ := h
    walk_at "st"
    walk_at "rd"
    refine x_glst (SqL.of ha) rfl ?_
    walk_at "rd"
    refine ite_by (fun h1 => ?_) (fun h1 => ?_)
    · walk_at "rd"
      refine kr (.inl fun z => ?_) _
      rw [List.length_map] at h1
      omega
    walk_at "rd"
    refine ite_by (fun h2 => ?_) (fun h2 => ?_)
    · walk_at "rd"
      refine kr (.inl fun z => ?_) _
      rw [List.length_map] at h2
      omega
    rw [List.length_map] at h1 h2
    walk_at "rd"
    refine x_inL (SqL.of hb) rfl (flat_str _) ?_
    rw [inV_str]
    walk_at "rd"
    refine ite_by (fun h3 => ?_) (fun h3 => ?_)
    · walk_at "rd"
      exact kr (.inr (.inl h3)) _
    walk_at "rd"
    refine ite_by (fun h4 => ?_) (fun h4 => ?_)
    · walk_at "rd"
      exact kr (.inr (.inr (.inl h4))) _
    walk_at "rd"
    refine ite_by (fun h5 => ?_) (fun h5 => ?_)
    · walk_at "rd"
      exact kr (.inr (.inr (.inr h5))) _
    walk_at "rd"
    refine kn fun q => ?_
    rcases q with q | q | q | q
    · exact q (by omega)
    · exact h3 q
    · exact h4 q
    · exact h5 q
theorem ok__law_strike_line (T : Txt w K mg)  : FD P w K mg base CX0 4 (He.ga K "_law_strike_line") ["line"] sp__law_strike_line := by
  refine FD.mk0 T.f__law_strike_line sc__law_strike_line (fun vs H Q E h => ?_) (fun _ _ _ _ _ _ us hl => match us, hl with | [_], _ => rfl) (fun cdv A outer s H vs Q E hr h => ⟨_, (pss_cons (ps_if (pt_not (pt_val (pe_bm PySem.F.plainAttrs_str PySem.F.slot_str_startswith PySem.F.type_str_startswith mt_sw (pv 0) (pa_cons pe_str pa_nil)))) (pss_one (ps_ret pe_bl)) pss_nil)
  (pss_cons (ps_asg (pe_bm PySem.F.plainAttrs_str PySem.F.slot_str_partition PySem.F.type_str_partition mt_part (pe_slice u_slice (pv 0) (po_some pe_int) po_none) (pa_cons pe_str pa_nil)) (pg_tup rfl (pgs_cons (pg_name (i := 1) sc__law_strike_line.nd rfl (.inl rfl)) (pgs_cons (pg_name (i := 2) sc__law_strike_line.nd rfl (.inl rfl)) (pgs_cons (pg_name (i := 3) sc__law_strike_line.nd rfl (.inl rfl)) pgs_nil)))))
  (pss_cons (ps_set (i := 4) sc__law_strike_line.nd rfl (.inl rfl) (pe_lst pa_nil))
  (pss_cons (ps_if (pt_cmpR (u_ne (hu64 hr)) (pv 2) pe_str (nomark _)) (pss_one (ps_set (i := 4) sc__law_strike_line.nd rfl (.inl rfl) (pe_bm PySem.F.plainAttrs_str PySem.F.slot_str_split PySem.F.type_str_split mt_splitU (pv 3) (pa_cons pe_str pa_nil)))) pss_nil)
  (pss_cons (ps_for PassesOwn.never rfl (pi_list (pe_op u_add (pe_lst (pa_cons (pv 1) pa_nil)) (pv 4))) (pg_name (i := 5) sc__law_strike_line.nd rfl (.inl rfl)) (pss_one (ps_if (pt_not (pt_val (pe_callD (ok__law_is_name T) hr (by first | decide | omega) (by rfl) T.g__law_is_name pass0 (pa_cons (pv 5) pa_nil)))) (pss_one (ps_ret pe_bl)) pss_nil)))
  (pss_one (ps_ret (pe_cmpR (u_eq (hu64 hr)) (pv 4) (pe_callD (ok__law_once T) hr (by first | decide | omega) (by rfl) T.g__law_once pass0 (pa_cons (pv 4) pa_nil)) (nomark _))))))))), ?_⟩)
  · obtain ⟨l, rfl, _⟩ := h
    rfl
  · obtain ⟨l, rfl, hll, kk⟩ := h
    walk_at "st"
    walk_at "rd"
    refine ite_nb (fun hk => ?_) (fun hk => ?_)
    rotate_left 1
    · walk_at "rd"
      exact kk _ _ ⟨(fun z => nomatch z), fun z => by rw [z.1] at hk; cases hk⟩ (Ch.refl _)
    walk_at "rd"
    refine x_slS (sz_of (by omega)) ?_
    walk_at "rd"
    obtain ⟨z, hz⟩ : ∃ z, z = cutS l (some 7) none := ⟨_, rfl⟩
    have hzl : z.length ≤ 60 := by
      have e : tl' (cutS l (some 7) none) = l.cps.toList.drop 7 := cut_from l 7
      rw [str_len, hz]
      show (tl' (cutS l (some 7) none)).length ≤ 60
      rw [e, List.length_drop, ← str_len]
      omega
    have kk2 : ∀ (b : Bool) H', (b = true ↔ goodS z) → Ch [] H H' → Q (.bl b) H' := fun b H' e c => kk b H' (by
      rw [e, hz]
      exact ⟨fun g => ⟨hk, g⟩, fun g => g.2⟩) c
    rw [← hz]
    refine x_part (by decide +kernel) (sz_of (by omega)) fun p H1 hp h1 c1 => ?_
    walk_at "rd"
    have hp1 : (Txt.partition z (Str.ofString " past ")).1.length ≤ z.length ∧ (Txt.partition z (Str.ofString " past ")).2.2.length ≤ z.length := part_len z sPast (by decide +kernel)
    refine nL fun l0 H2 hl0 h2 c2 => ?_
    walk_at "rd"
    refine ifs_join (fun σ' H' => ∃ l', σ' = [some (.str l), some (.str (Txt.partition z sPast).1), some (.str (Txt.partition z sPast).2.1), some (.str (Txt.partition z sPast).2.2), some (.ref l'), none] ∧ H' l' = some (.lst ((nmsOf z).map V.str)) ∧ Ch [] H H') ?_ (fun hc nx' hx => ?_) (fun hc nx' hx => ?_)
    rotate_left 1
    · walk_at "rd"
      refine x_split (by decide +kernel) (sz_of (by omega)) fun l3 H3 hl3 h3 c3 => ?_
      walk_at "rd"
      refine hx _ _ ⟨l3, rfl, ?_, (c1.nilL c2).nilL c3⟩
      rw [h3]
      unfold nmsOf
      rw [if_neg (by simpa using hc)]
    · walk_at "rd"
      refine hx _ _ ⟨l0, rfl, ?_, c1.nilL c2⟩
      rw [h2]
      unfold nmsOf
      rw [if_pos (by simpa using hc)]
      rfl
    rintro _ H3 ⟨l4, rfl, h4, c4⟩
    have hnl : (∀ n ∈ nmsOf z, n.length ≤ 60) ∧ (nmsOf z).length ≤ 61 := by
      unfold nmsOf
      split
      · simp
      · obtain ⟨q1, q2⟩ := split_len (Txt.partition z sPast).2.2 sSp (by decide +kernel) (by decide +kernel)
        have hp2 : (Txt.partition z sPast).2.2.length ≤ z.length := hp1.2
        exact ⟨fun n hn => by have := q1 n hn; omega, by omega⟩
    walk_at "rd"
    refine nL fun l5 H5 hl5 h5 c5 => ?_
    have h45 := c5.get0 h4
    walk_at "rd"
    refine x_addL h5 h45 (sz_of (by simp; omega)) fun l6 H6 hl6 h6 c6 => ?_
    have h6' : H6 l6 = some (.lst (((Txt.partition z sPast).1 :: nmsOf z).map V.str)) := h6
    clear h6
    walk_at "rd"
    have c16 : Ch [] H H6 := (c4.nilL c5).nilL c6
    have h46 := c6.get0 h45
    refine goL ((((Txt.partition z sPast).1) :: nmsOf z).map V.str) (fun i σ H' => Ch [] H6 H' ∧ ∃ o, σ = [some (.str l), some (.str (Txt.partition z sPast).1), some (.str (Txt.partition z sPast).2.1), some (.str (Txt.partition z sPast).2.2), some (.ref l4), o] ∧ ∀ n ∈ ((Txt.partition z sPast).1 :: nmsOf z).take i, okN n = true) ⟨Ch.refl _, _, rfl, fun n hn => by simp at hn⟩ (fun i σ H' hi hI => ?_) (fun i x σ H' hx hI => ?_) (fun σ H' hI => ?_)
    · exact SqL.of (hI.1.get0 h6')
    · obtain ⟨cc, o, rfl, ha⟩ := hI
      obtain ⟨r, hr', rfl⟩ : ∃ r, ((Txt.partition z sPast).1 :: nmsOf z)[i]? = some r ∧ x = V.str r := by
        rw [List.getElem?_map] at hx
        cases q : ((Txt.partition z sPast).1 :: nmsOf z)[i]? with
        | none => rw [q] at hx; cases hx
        | some r => rw [q] at hx; exact ⟨r, rfl, (Option.some.inj hx).symm⟩
      have hrm : r ∈ (Txt.partition z sPast).1 :: nmsOf z := List.mem_of_getElem? hr'
      have hrl : r.length ≤ 60 := by
        rcases List.mem_cons.mp hrm with e | e
        · have hp2 : (Txt.partition z sPast).1.length ≤ z.length := hp1.1
          rw [e]; omega
        · exact hnl.1 r e
      walk_at "rd"
      refine ⟨r, rfl, sz_of (by omega), fun H7 c7 => ?_⟩
      walk_at "rd"
      refine ite_nb (fun hk => ?_) (fun hk => ?_)
      · walk_at "rd"
        refine ⟨cc.nilL c7, _, rfl, fun n hn => ?_⟩
        rw [List.take_add_one, hr'] at hn
        rcases List.mem_append.mp hn with e | e
        · exact ha n e
        · have e2 : n = r := by simpa using e
          rw [e2]
          exact hk
      · walk_at "rd"
        refine kk2 _ _ ⟨(fun z => nomatch z), fun g => ?_⟩ (c16.nilL (cc.nilL c7))
        obtain ⟨g1, g2, _⟩ := g
        rcases List.mem_cons.mp hrm with e | e
        · rw [e] at hk
          have hk' : okN (Txt.partition z sPast).1 = false := hk
          rw [g1] at hk'
          cases hk'
        · have hk' : okN r = false := hk
          rw [g2 r e] at hk'
          cases hk'
    · obtain ⟨cc, o, rfl, ha⟩ := hI
      rw [List.length_map, List.take_length] at ha
      have gn : IsName (Txt.partition z sPast).1 := ha _ (List.mem_cons_self ..)
      have gs : ∀ n ∈ nmsOf z, IsName n := fun n hn => ha n (List.mem_cons_of_mem _ hn)
      have okN' : ∀ n ∈ nmsOf z, OkT n := fun n hn => name_okT (gs n hn)
      have h47 := cc.get0 h46
      walk_at "rd"
      refine ⟨l4, nmsOf z, rfl, h47, by omega, fun q H8 h8 c8 => ?_⟩
      refine x_eqLS (SqL.of (c8.get0 h47)) (SqL.of h8) okN' (fun n hn => okN' n (mem_once hn)) ?_
      refine kk2 _ _ ?_ (c16.nilL (cc.nilL c8))
      rw [decide_eq_true_iff]
      exact ⟨fun e => ⟨gn, gs, e⟩, fun g => g.2.2⟩
end
inductive Sh where
  | num (i : Nat)
  | nod (r : Str) (ms : List Sh)
mutual
/-- the shape at v; its lists were not there in N -/
inductive ShV (N H : Hp) : V → Sh → Prop
  | num {i : Nat} : ShV N H (.int i) (.num i)
  | nod {a b : Addr} {r : Str} {vs : List V} {ms : List Sh} : N a = none → N b = none → H a = some (.lst [.str r, .ref b]) → H b = some (.lst vs) → ShA N H vs ms → ShV N H (.ref a) (.nod r ms)
inductive ShA (N H : Hp) : List V → List Sh → Prop
  | nil : ShA N H [] []
  | cons {v : V} {vs : List V} {t : Sh} {ts : List Sh} : ShV N H v t → ShA N H vs ts → ShA N H (v :: vs) (t :: ts)
end
section
variable {N N' H H' : Hp} {S : List Addr}
mutual
theorem ShV.mono (c : Ch S H H') (n : ∀ x ∈ S, N x ≠ none) : ∀ (t : Sh) (v : V), ShV N H v t → ShV N H' v t
  | .num i, _, h => by cases h; exact .num
  | .nod r ms, _, h => by
    cases h with
    | nod n1 n2 h1 h2 h3 => exact .nod n1 n2 (c.st _ _ (fun m => n _ m n1) h1) (c.st _ _ (fun m => n _ m n2) h2) (ShA.mono c n ms _ h3)
theorem ShA.mono (c : Ch S H H') (n : ∀ x ∈ S, N x ≠ none) : ∀ (ts : List Sh) (vs : List V), ShA N H vs ts → ShA N H' vs ts
  | [], _, h => by cases h; exact .nil
  | t :: ts, _, h => by
    cases h with
    | cons h1 h2 => exact .cons (ShV.mono c n t _ h1) (ShA.mono c n ts _ h2)
end
mutual
theorem ShV.weakA (n : ∀ x, N x = none → N' x = none) : ∀ (t : Sh) (v : V), ShV N H v t → ShV N' H v t
  | .num i, _, h => by cases h; exact .num
  | .nod r ms, _, h => by
    cases h with
    | nod n1 n2 h1 h2 h3 => exact .nod (n _ n1) (n _ n2) h1 h2 (ShA.weakA n ms _ h3)
theorem ShA.weakA (n : ∀ x, N x = none → N' x = none) : ∀ (ts : List Sh) (vs : List V), ShA N H vs ts → ShA N' H vs ts
  | [], _, h => by cases h; exact .nil
  | t :: ts, _, h => by
    cases h with
    | cons h1 h2 => exact .cons (ShV.weakA n t _ h1) (ShA.weakA n ts _ h2)
end
theorem ShV.ch {v : V} {t : Sh} (h : ShV N H v t) (c : Ch S H H') (n : ∀ x ∈ S, N x ≠ none) : ShV N H' v t := ShV.mono c n t v h
theorem ShA.ch {vs : List V} {ts : List Sh} (h : ShA N H vs ts) (c : Ch S H H') (n : ∀ x ∈ S, N x ≠ none) : ShA N H' vs ts := ShA.mono c n ts vs h
theorem ShV.ch0 {v : V} {t : Sh} (h : ShV N H v t) (c : Ch [] H H') : ShV N H' v t := h.ch c fun x m => by cases m
theorem ShA.ch0 {vs : List V} {ts : List Sh} (h : ShA N H vs ts) (c : Ch [] H H') : ShA N H' vs ts := h.ch c fun x m => by cases m
theorem ShV.weak {v : V} {t : Sh} (h : ShV N H v t) (n : ∀ x, N x = none → N' x = none) : ShV N' H v t := ShV.weakA n t v h
theorem ShA.weak {vs : List V} {ts : List Sh} (h : ShA N H vs ts) (n : ∀ x, N x = none → N' x = none) : ShA N' H vs ts := ShA.weakA n ts vs h
theorem ShA.snoc {ts : List Sh} {vs : List V} {v : V} {t : Sh} (h : ShA N H vs ts) (g : ShV N H v t) : ShA N H (vs ++ [v]) (ts ++ [t]) := by
  induction ts generalizing vs with
  | nil => cases h; exact .cons g .nil
  | cons d ds ih =>
    cases h with
    | cons h1 h2 => exact .cons h1 (ih h2)
theorem ShA.length {ts : List Sh} {vs : List V} (h : ShA N H vs ts) : vs.length = ts.length := by
  induction ts generalizing vs with
  | nil => cases h; rfl
  | cons d ds ih =>
    cases h with
    | cons h1 h2 => rw [List.length_cons, List.length_cons, ih h2]
theorem ShA.get {ts : List Sh} {vs : List V} (h : ShA N H vs ts) {i : Nat} {v : V} (e : vs[i]? = some v) : ∃ t, t ∈ ts ∧ ShV N H v t := by
  induction ts generalizing vs i with
  | nil => cases h; simp at e
  | cons d ds ih =>
    cases h with
    | cons h1 h2 =>
      cases i with
      | zero => simp at e; subst e; exact ⟨d, List.mem_cons_self .., h1⟩
      | succ i =>
        obtain ⟨d', e', h'⟩ := ih h2 (i := i) (by simpa using e)
        exact ⟨d', List.mem_cons_of_mem _ e', h'⟩
theorem Ch.grow (c : Ch S H H') (n : ∀ x ∈ S, H' x ≠ none) : ∀ x, H' x = none → H x = none := fun x hx => by
  by_cases m : x ∈ S
  · exact absurd hx (n x m)
  · exact c.free hx m
end
/-- narrow, not deep, its numbers below M -/
def okS : Nat → Nat → Sh → Prop
  | _, M, .num i => i < M
  | n + 1, M, .nod r ms => r ∈ rulesL ∧ ms.length ≤ 4 ∧ ∀ m ∈ ms, okS n M m
  | 0, _, .nod _ _ => False
theorem okS.mono : ∀ {n M M' : Nat} {s : Sh}, okS n M s → M ≤ M' → okS n M' s
  | 0, M, M', .num i, h, hm => by unfold okS at h ⊢; omega
  | n + 1, M, M', .num i, h, hm => by unfold okS at h ⊢; omega
  | n + 1, M, M', .nod r ms, h, hm => by
    unfold okS at h ⊢
    exact ⟨h.1, h.2.1, fun m hmm => (h.2.2 m hmm).mono hm⟩
  | 0, M, M', .nod r ms, h, hm => h.elim
theorem okS.num (n : Nat) {M i : Nat} (h : i < M) : okS n M (.num i) := by
  cases n <;> exact h
def sp__law_shape (n : Nat) : Sp := fun vs H Q E => ∃ (p c q : Addr) (A : Nat), vs = [.ref p, .int (2 - (n : Int)), .ref q] ∧ n ≤ 2 ∧ Pl H p c ∧ H q = some (.lst [.int A, .int (8 - (A : Int))]) ∧ A ≤ 8 ∧ q ≠ p ∧ q ≠ c ∧
  ∀ (x : Addr) (r : Str) (ms : List Sh) (A' : Nat) H', ShV H H' (.ref x) (.nod r ms) → okS (n + 1) A' (.nod r ms) → A ≤ A' → A' ≤ 8 → (A < 8 → A < A') → H' q = some (.lst [.int A', .int (8 - (A' : Int))]) → Pl H' p c → Ch [p, q] H H' → Q (.ref x) H'
/-- a line: short, of signs that are printed -/
def LnOk (m : Nat) (z : Str) : Prop := z.length ≤ m ∧ ∀ c ∈ z.cps.toList, 32 ≤ c ∧ c < 128
theorem LnOk.mono {m n : Nat} {z : Str} (h : LnOk m z) (e : m ≤ n) : LnOk n z := ⟨Nat.le_trans h.1 e, h.2⟩
theorem LnOk.app {a b : Nat} {x y : Str} (h : LnOk a x) (g : LnOk b y) : LnOk (a + b) (x ++ y) := by
  refine ⟨?_, fun c hc => ?_⟩
  · have h1 := h.1
    have g1 := g.1
    rw [str_len] at h1 g1 ⊢
    rw [app_list, List.length_append]
    omega
  · rw [app_list] at hc
    rcases List.mem_append.mp hc with q | q
    · exact h.2 c q
    · exact g.2 c q
def Lc : Nat → Nat
  | 0 => 1
  | n + 1 => 2 + 4 * Lc n
def sp__law_lines (K : PySem.W.Frag) (n : Nat) : Sp := fun vs H Q E => ∃ (N : Hp) (x nl : Addr) (r : Str) (ms : List Sh) (M : Nat) (names : List Str), vs = [.ref x, .ref nl] ∧ n ≤ 3 ∧ ShV N H (.ref x) (.nod r ms) ∧ okS n M (.nod r ms) ∧ H nl = some (.lst (names.map V.str)) ∧ (∀ z ∈ names, IsName z) ∧ M ≤ names.length ∧
  ∀ (l : Addr) (ls : List Str) H', H l = none → H' l = some (.lst (ls.map V.str)) → ls.length ≤ Lc n → (∀ z ∈ ls, LnOk (17 + 2 * n) z) → Ch [] H H' → Q (.ref l) H'
section
variable {P : Program} {w : World} {K : PySem.W.Frag} {mg : Str → Option Value} {base : Heap}
theorem st__law_shape (T : Txt w K mg) {j k : Nat} {sp' : Sp} (n : Nat) (F : FD P w K mg base CX0 j (He.ga K "_law_shape") ["pool", "depth", "count"] sp') (hj : j ≤ k) (h4 : 4 ≤ k) (hsp : ∀ q, n = q + 1 → sp' = sp__law_shape q) :
    FD P w K mg base CX0 (k + 1) (He.ga K "_law_shape") ["pool", "depth", "count"] (sp__law_shape n) := by
  refine FD.mk0 T.f__law_shape sc__law_shape (fun vs H Q E h => ?_) (fun _ _ _ _ _ _ us hl => match us, hl with | [_, _, _], _ => rfl) (fun cdv A outer s H vs Q E hr h => ⟨_, (pss_cons (ps_set (i := 3) sc__law_shape.nd rfl (.inl rfl) (pe_ix ix_seq (pe_lst (pa_cons pe_str (pa_cons pe_str (pa_cons pe_str (pa_cons pe_str pa_nil))))) (pe_callD (ok__law_draw T) hr (by first | decide | omega) (by rfl) T.g__law_draw pass0 (pa_cons (pv 0) (pa_cons (pe_ifExp (pt_cmpR (u_eq (hu64 hr)) (pv 1) pe_int (nomark _)) pe_int pe_int) pa_nil))) (by intro _ _; rfl)))
  (pss_cons (ps_set (i := 4) sc__law_shape.nd rfl (.inl rfl) (pe_lst pa_nil))
  (pss_cons (ps_for PassesOwn.never rfl (pi_range1 (by rfl) T.n_range (pa_cons (pe_op u_add pe_int (pe_callD (ok__law_draw T) hr (by first | decide | omega) (by rfl) T.g__law_draw pass0 (pa_cons (pv 0) (pa_cons (pe_op u_sub pe_int (pv 1)) pa_nil)))) pa_nil)) (pg_name (i := 5) sc__law_shape.nd rfl (.inl rfl)) (pss_one (ps_if (PW.pt (pw_and (pt_cmpR u_lt (pv 1) pe_int (nomark _)) (pw_and (pt_cmpR u_gt (pe_ix ix_seq (pv 2) pe_int (by intro _ _; rfl)) pe_int (nomark _)) (pw_and1 (pt_cmpR (u_eq (hu64 hr)) (pe_callD (ok__law_draw T) hr (by first | decide | omega) (by rfl) T.g__law_draw pass0 (pa_cons (pv 0) (pa_cons pe_int pa_nil))) pe_int (nomark _)))))) (pss_one (ps_expr (pe_bm PySem.F.plainAttrs_list PySem.F.slot_list_append PySem.F.type_list_append mt_append (pv 4) (pa_cons (pe_callD F hr (by first | decide | omega) (by rfl) T.g__law_shape pass0 (pa_cons (pv 0) (pa_cons (pe_op u_add (pv 1) pe_int) (pa_cons (pv 2) pa_nil)))) pa_nil)))) (pss_one (ps_if (pt_cmpR u_gt (pe_ix ix_seq (pv 2) pe_int (by intro _ _; rfl)) pe_int (nomark _)) (pss_cons (ps_expr (pe_bm PySem.F.plainAttrs_list PySem.F.slot_list_append PySem.F.type_list_append mt_append (pv 4) (pa_cons (pe_ix ix_seq (pv 2) pe_int (by intro _ _; rfl)) pa_nil)))
  (pss_cons (ps_asg (pe_op u_add (pe_ix ix_seq (pv 2) pe_int (by intro _ _; rfl)) pe_int) (pg_sub (pv 2) pe_int set_list))
  (pss_one (ps_asg (pe_op u_sub (pe_ix ix_seq (pv 2) pe_int (by intro _ _; rfl)) pe_int) (pg_sub (pv 2) pe_int set_list))))) pss_nil)))))
  (pss_one (ps_ret (pe_lst (pa_cons (pv 3) (pa_cons (pv 4) pa_nil)))))))), ?_⟩)
  · obtain ⟨p, c, q, A, rfl, _⟩ := h
    rfl
  · obtain ⟨p, c, q, A, rfl, hn, hp, hq, hA, nqp, nqc, kk⟩ := h
    walk_at "st"
    walk_at "rd"
    have hpn : H p ≠ none := by obtain ⟨⟨_, _, _, _, e, _⟩, _⟩ := hp; rw [e]; exact fun z => nomatch z
    have hqn : H q ≠ none := by rw [hq]; exact fun z => nomatch z
    refine nL fun rl H1 hrl h1 c1 => ?_
    walk_at "rd"
    refine ite_join (fun x H2 => (∃ l : Int, x = .int l ∧ 3 ≤ l ∧ l ≤ 4) ∧ H2 = H1) ?_ (fun hc Q' hQ => hQ _ _ ⟨⟨4, rfl, by decide, by decide⟩, rfl⟩) (fun hc Q' hQ => hQ _ _ ⟨⟨3, rfl, by decide, by decide⟩, rfl⟩)
    rintro _ _ ⟨⟨l, rfl, l0, l1⟩, rfl⟩
    walk_at "rd"
    refine use_draw (hp.ch0 c1) (by omega) (by omega) fun d H2 d0 d1 hp2 c2 => ?_
    have nrp : rl ≠ p := fun z => hpn (by rw [← z]; exact hrl)
    obtain ⟨r, hr1, hr2⟩ : ∃ r, r ∈ rulesL ∧ [V.str (Str.ofString "first"), V.str (Str.ofString "rank"), V.str (Str.ofString "least"), V.str (Str.ofString "all")][d.toNat]? = some (V.str r) := by
      have : d = 0 ∨ d = 1 ∨ d = 2 ∨ d = 3 := by omega
      rcases this with rfl | rfl | rfl | rfl
      · exact ⟨"first", by decide +kernel, rfl⟩
      · exact ⟨"rank", by decide +kernel, rfl⟩
      · exact ⟨"least", by decide +kernel, rfl⟩
      · exact ⟨"all", by decide +kernel, rfl⟩
    refine x_ixL (SqL.of (c2.get1 h1 nrp)) (k := d.toNat) (by omega) hr2 ?_
    walk_at "rd"
    refine nL fun m H3 hm h3 c3 => ?_
    walk_at "rd"
    refine use_draw (hp2.ch0 c3) (by omega) (by omega) fun e H4 e0 e1 hp4 c4 => ?_
    have c24 : Ch [p] H H4 := ((c1.nilL c2).nilR c3).seq c4
    have hmH : H m = none := (c1.nilL c2).free hm (fun z => by
      rw [List.mem_singleton.mp z] at hm
      obtain ⟨⟨_, _, _, _, e, _⟩, _⟩ := hp2
      rw [e] at hm
      cases hm)
    have nmp : m ≠ p := fun z => hpn (by rw [← z]; exact hmH)
    have nmq : m ≠ q := fun z => hqn (by rw [← z]; exact hmH)
    have nmc : m ≠ c := fun z => by
      obtain ⟨_, ns, e, _⟩ := hp
      rw [← z, hmH] at e
      cases e
    have h4m := c4.get1 h3 nmp
    have h4q := c24.get1 hq nqp
    have h4p : H4 p ≠ none := by obtain ⟨⟨_, _, _, _, e, _⟩, _⟩ := hp4; rw [e]; exact fun z => nomatch z
    have keep4 : ∀ x ∈ [m, p, q], H4 x ≠ none := fun x hx => by
      rcases List.mem_cons.mp hx with z | hx
      · rw [z, h4m]; exact fun z => nomatch z
      rcases List.mem_cons.mp hx with z | hx
      · rw [z]; exact h4p
      · rw [List.mem_singleton.mp hx, h4q]; exact fun z => nomatch z
    walk_at "rd"
    refine goR (fun i σ H' => ∃ (Ai : Nat) (vs : List V) (ss : List Sh) (o5 : Option V), σ = [some (.ref p), some (.int (2 - (n : Int))), some (.ref q), some (.str r), some (.ref m), o5] ∧ H' m = some (.lst vs) ∧ ShA H4 H' vs ss ∧ ss.length ≤ i ∧ (∀ s ∈ ss, okS n Ai s) ∧ A ≤ Ai ∧ Ai ≤ 8 ∧ (0 < i → A < 8 → A < Ai) ∧ H' q = some (.lst [.int Ai, .int (8 - (Ai : Int))]) ∧ Pl H' p c ∧ Ch [m, p, q] H4 H')
      ⟨A, [], [], none, rfl, h4m, .nil, Nat.zero_le _, (fun s hs => by cases hs), Nat.le_refl _, hA, (fun z => by omega), h4q, hp4, (Ch.refl _).any⟩ (fun i σ H' hi hI => ?_) (fun σ H' hI => ?_)
    · obtain ⟨Ai, vs, ss, o5, rfl, k1, k2, k3, k4, k5, k6, k7, k8, k9, k10⟩ := hI
      have hvl : vs.length ≤ 4 := by rw [k2.length]; omega
      refine x_name5 ?_
      refine x_ifS ?_
      refine tt_join (fun b H5 => (b = true → 1 ≤ n ∧ Ai < 7) ∧ Pl H5 p c ∧ Ch [p] H' H5) (fun QB' hQ => ?_) ?_
      · walk_at "rd"
        refine ite_by (fun t1 => ?_) (fun t1 => ?_)
        rotate_left 1
        · exact hQ _ _ ⟨(fun z => nomatch z), k9, (Ch.refl _).any⟩
        walk_at "rd"
        refine ite_by (fun t2 => ?_) (fun t2 => ?_)
        rotate_left 1
        · exact hQ _ _ ⟨(fun z => nomatch z), k9, (Ch.refl _).any⟩
        walk_at "rd"
        refine use_draw k9 (by decide) (by decide) fun f H5 f0 f1 hp5 c5 => ?_
        walk_at "rd"
        exact hQ _ _ ⟨fun _ => ⟨by omega, by omega⟩, hp5, c5⟩
      rintro b H5 ⟨hb, hp5, c5⟩
      have k15 := c5.get1 k1 nmp
      have k85 := c5.get1 k8 nqp
      have cc5 : Ch [m, p, q] H4 H5 := k10.seq (c5.mono fun x hx => by rw [List.mem_singleton.mp hx]; simp)
      have k25 : ShA H4 H5 vs ss := k2.ch c5 fun x hx => by rw [List.mem_singleton.mp hx]; exact h4p
      refine ite_b (fun hbt => ?_) (fun hbf => ?_)
      · obtain ⟨n1, n2⟩ := hb hbt
        obtain ⟨n', rfl⟩ : ∃ n', n = n' + 1 := ⟨n - 1, by omega⟩
        rw [hsp n' rfl]
        walk_at "rd"
        refine ⟨p, c, q, Ai, by rw [show (2 - ((n' + 1 : Nat) : Int) + 1) = 2 - (n' : Int) by omega], by omega, hp5, k85, k6, nqp, nqc, fun x r2 ms2 A' H6 hV hok hle h8 hlt hq6 hp6 c6 => ?_⟩
        have h6m := c6.st _ _ (by simp [nmp, nmq]) k15
        walk_at "rd"
        refine x_append h6m (sz_lt (by omega)) fun H7 h7 c7 => ?_
        walk_at "rd"
        have hpq : ∀ x ∈ [p, q], H4 x ≠ none := fun x hx => keep4 x (List.mem_cons_of_mem _ hx)
        have hm1 : ∀ x ∈ [m], H4 x ≠ none := fun x hx => keep4 x (by rw [List.mem_singleton.mp hx]; exact List.mem_cons_self ..)
        have gr : ∀ x, H5 x = none → H4 x = none := cc5.grow fun x hx => by
          rcases List.mem_cons.mp hx with z | hx
          · rw [z, k15]; exact fun z => nomatch z
          rcases List.mem_cons.mp hx with z | hx
          · rw [z]; obtain ⟨⟨_, _, _, _, e, _⟩, _⟩ := hp5; rw [e]; exact fun z => nomatch z
          · rw [List.mem_singleton.mp hx, k85]; exact fun z => nomatch z
        refine ⟨A', vs ++ [.ref x], ss ++ [.nod r2 ms2], _, rfl, h7, ((k25.ch c6 hpq).ch c7 hm1).snoc ((hV.weak gr).ch c7 hm1), by rw [List.length_append, List.length_singleton]; omega, fun s hs => ?_, by omega, h8, fun _ _ => by have := hlt (by omega); omega, c7.get1 hq6 (Ne.symm nmq), hp6.ch c7 (by simpa using Ne.symm nmp) (by simpa using Ne.symm nmc), ?_⟩
        · rcases List.mem_append.mp hs with z | z
          · exact (k4 s z).mono hle
          · rw [List.mem_singleton.mp z]
            exact hok
        · exact cc5.seq ((c6.mono fun x hx => List.mem_cons_of_mem _ hx).seq (c7.mono fun x hx => by rw [List.mem_singleton.mp hx]; exact List.mem_cons_self ..))
      · have hm1 : ∀ x ∈ [m], H4 x ≠ none := fun x hx => keep4 x (by rw [List.mem_singleton.mp hx]; exact List.mem_cons_self ..)
        have hq1 : ∀ x ∈ [q], H4 x ≠ none := fun x hx => keep4 x (by rw [List.mem_singleton.mp hx]; simp)
        walk_at "rd"
        refine ite_by (fun t3 => ?_) (fun t3 => ?_)
        · walk_at "rd"
          refine x_append k15 (sz_lt (by omega)) fun H6 h6 c6 => ?_
          have h6q := c6.get1 k85 (Ne.symm nmq)
          walk_at "rd"
          refine x_set0 h6q fun H7 h7 c7 => ?_
          walk_at "rd"
          refine x_set1 h7 fun H8 h8 c8 => ?_
          walk_at "rd"
          refine ⟨Ai + 1, vs ++ [.int Ai], ss ++ [.num Ai], _, rfl, c8.get1 (c7.get1 h6 nmq) nmq, (((k25.ch c6 hm1).ch c7 hq1).ch c8 hq1).snoc .num, by rw [List.length_append, List.length_singleton]; omega, fun s hs => ?_, by omega, by omega, (fun _ _ => by omega), ?_, ((hp5.ch c6 (by simpa using Ne.symm nmp) (by simpa using Ne.symm nmc)).ch c7 (by simpa using Ne.symm nqp) (by simpa using Ne.symm nqc)).ch c8 (by simpa using Ne.symm nqp) (by simpa using Ne.symm nqc), ?_⟩
          · rcases List.mem_append.mp hs with z | z
            · exact (k4 s z).mono (by omega)
            · rw [List.mem_singleton.mp z]
              exact okS.num _ (by omega)
          · rw [h8]
            have e1 : ((Ai + 1 : Nat) : Int) = (Ai : Int) + 1 := by omega
            have e2 : 8 - ((Ai : Int) + 1) = 8 - (Ai : Int) - 1 := by omega
            rw [e1, e2]
          · exact ((cc5.seq (c6.mono fun x hx => by rw [List.mem_singleton.mp hx]; simp)).seq (c7.mono fun x hx => by rw [List.mem_singleton.mp hx]; simp)).seq (c8.mono fun x hx => by rw [List.mem_singleton.mp hx]; simp)
        · walk_at "rd"
          exact ⟨Ai, vs, ss, _, rfl, k15, k25, by omega, k4, k5, k6, (fun _ _ => by omega), k85, hp5, cc5⟩
    · obtain ⟨Ai, vs, ss, o5, rfl, k1, k2, k3, k4, k5, k6, k7, k8, k9, k10⟩ := hI
      walk_at "rd"
      refine nL fun x H5 hx h5 c5 => ?_
      have cpq : Ch [p, q] H H' := by
        refine Ch.drop (p := m) ((c24.trans k10).mono fun y hy => ?_) hmH
        rcases List.mem_append.mp hy with z | z
        · rw [List.mem_singleton.mp z]; simp
        · exact z
      have gr4 : ∀ y, H4 y = none → H y = none := c24.grow fun y hy => by rw [List.mem_singleton.mp hy]; exact h4p
      have hxH : H x = none := cpq.grow (fun y hy => by
        rcases List.mem_cons.mp hy with z | hy
        · rw [z]; obtain ⟨⟨_, _, _, _, e, _⟩, _⟩ := k9; rw [e]; exact fun z => nomatch z
        · rw [List.mem_singleton.mp hy, k8]; exact fun z => nomatch z) x hx
      exact kk x r ss Ai H5 (.nod hxH hmH h5 (c5.get0 k1) ((k2.weak gr4).ch0 c5)) ⟨hr1, by omega, k4⟩ k5 k6 (fun z => k7 (by omega) z) (c5.get0 k8) (k9.ch0 c5) (cpq.nilR c5)
theorem ok__law_shape (T : Txt w K mg) : ∀ r : Nat, FD P w K mg base CX0 (5 + r) (He.ga K "_law_shape") ["pool", "depth", "count"] (sp__law_shape r)
  | 0 => st__law_shape T (sp' := fun _ _ _ _ => False) (j := 4) (k := 4) 0 (FD.mk0 T.f__law_shape sc__law_shape (fun vs H Q E h => h.elim) (fun _ _ _ _ _ _ us hl => match us, hl with | [_, _, _], _ => rfl) (fun cdv A outer s H vs Q E hr h => h.elim)) (Nat.le_refl _) (Nat.le_refl _) fun q e => by cases e
  | r + 1 => st__law_shape T (r + 1) (ok__law_shape T r) (Nat.le_refl _) (Nat.le_trans (by decide : 4 ≤ 5) (Nat.le_add_right 5 r)) fun q e => by injection e with e; rw [e]
theorem st__law_lines (T : Txt w K mg) {j k : Nat} {sp' : Sp} (n : Nat) (F : FD P w K mg base CX0 j (He.ga K "_law_lines") ["shape", "names"] sp') (hj : j ≤ k) (hsp : ∀ q, n = q + 1 → sp' = sp__law_lines K q) :
    FD P w K mg base CX0 (k + 1) (He.ga K "_law_lines") ["shape", "names"] (sp__law_lines K n) := by
  refine FD.mk0 T.f__law_lines sc__law_lines (fun vs H Q E h => ?_) (fun _ _ _ _ _ _ us hl => match us, hl with | [_, _], _ => rfl) (fun cdv A outer s H vs Q E hr h => ⟨_, (pss_cons (ps_set (i := 2) sc__law_lines.nd rfl (.inl rfl) (pe_lst (pa_cons (pe_op u_add pe_str (pe_ix ix_seq (pv 0) pe_int (by intro _ _; rfl))) pa_nil)))
  (pss_cons (ps_for PassesOwn.never rfl (pi_list (pe_ix ix_seq (pv 0) pe_int (by intro _ _; rfl))) (pg_name (i := 3) sc__law_lines.nd rfl (.inl rfl)) (pss_one (ps_if (pt_val (pe_callB call_isi (by rfl) T.n_isinstance bb_isinstance (pa_cons (pv 3) (pa_cons (pe_bltn (v := .ty "int") (by rfl) T.n_int bb_int rfl) pa_nil)))) (pss_one (ps_expr (pe_bm PySem.F.plainAttrs_list PySem.F.slot_list_append PySem.F.type_list_append mt_append (pv 2) (pa_cons (pe_op u_add pe_str (pe_ix ix_seq (pv 1) (pv 3) (by intro _ _; rfl))) pa_nil)))) (pss_one (ps_set (i := 2) sc__law_lines.nd rfl (.inl rfl) (pe_op u_add (pv 2) (pe_lc (own := [("line", 4)]) rfl sc__law_lines.nd (pi_list (pe_callD F hr (by first | decide | omega) (by rfl) T.g__law_lines pass0 (pa_cons (pv 3) (pa_cons (pv 1) pa_nil)))) (blkOk_by (N := N__law_lines) (sc := defScope s__law_lines) (by decide +kernel)) (fun _ _ _ _ _ => (pg_name (i := 4) sc__law_lines.nd rfl (.inl rfl))) (fun _ _ _ _ _ => pts_nil) (fun _ _ _ _ _ => (pe_op (u_addE (K := K) (by rfl)) pe_str (pv 4))))))))))
  (pss_one (ps_ret (pe_op u_add (pv 2) (pe_lst (pa_cons pe_str pa_nil))))))), ?_⟩)
  · obtain ⟨N, x, nl, r, ms, M, names, rfl, _⟩ := h
    rfl
  · obtain ⟨N, x, nl, r, ms, M, names, rfl, hn, hV, hok, hnl, hnm, hM, kk⟩ := h
    obtain ⟨n', rfl⟩ : ∃ n', n = n' + 1 := by
      cases n with
      | zero => exact hok.elim
      | succ n => exact ⟨n, rfl⟩
    obtain ⟨hr1, hms4, hms⟩ := hok
    cases hV with
    | @nod _ b _ vs _ n1 n2 hx hb hA =>
    have hvl : vs.length ≤ 4 := by rw [hA.length]; exact hms4
    walk_at "st"
    walk_at "rd"
    have okr : LnOk 13 (Str.ofString "nursery " ++ r) := by
      simp only [rulesL, List.mem_cons, List.not_mem_nil, or_false] at hr1
      rcases hr1 with rfl | rfl | rfl | rfl <;> exact ⟨by decide +kernel, by decide +kernel⟩
    refine x_addS (sz_of (by have := okr.1; rw [str_len, app_list, List.length_append] at this; rw [str_len, str_len]; omega)) ?_
    walk_at "rd"
    refine nL fun l0 H1 hl0 h1 c1 => ?_
    walk_at "rd"
    have hx1 := c1.get0 hx
    have hb1 := c1.get0 hb
    walk_at "rd"
    refine goL vs (fun i σ H' => ∃ (l : Addr) (ls : List Str) (o3 : Option V), σ = [some (.ref x), some (.ref nl), some (.ref l), o3, none] ∧ H' l = some (.lst (ls.map V.str)) ∧ H l = none ∧ ls.length ≤ 1 + i * Lc n' ∧ (∀ z ∈ ls, LnOk (17 + 2 * (n' + 1)) z) ∧ Ch [] H H')
      ⟨l0, [Str.ofString "nursery " ++ r], none, rfl, h1, hl0, by simp, (fun z hz => by rw [List.mem_singleton.mp hz]; exact okr.mono (by omega)), c1⟩ (fun i σ H' _ hI => ?_) (fun i y σ H' hy hI => ?_) (fun σ H' hI => ?_)
    · obtain ⟨l, ls, o3, rfl, k1, k2, k3, k4, k5⟩ := hI
      exact SqL.of (k5.get0 hb)
    · obtain ⟨l, ls, o3, rfl, k1, k2, k3, k4, k5⟩ := hI
      obtain ⟨s', hs', hV⟩ := hA.get hy
      have hi4 : i < 4 := by
        have := (List.getElem?_eq_some_iff.mp hy).1
        omega
      have hL26 : Lc n' ≤ 26 := by
        have : n' = 0 ∨ n' = 1 ∨ n' = 2 := by omega
        rcases this with rfl | rfl | rfl <;> decide
      have hiL : i * Lc n' ≤ 3 * 26 := Nat.mul_le_mul (by omega) hL26
      have hL1 : 1 ≤ Lc n' := by cases n' with
        | zero => exact Nat.le_refl _
        | succ n => show 1 ≤ 2 + 4 * Lc n; omega
      have hs1 : (i + 1) * Lc n' = i * Lc n' + Lc n' := Nat.succ_mul _ _
      walk_at "rd"
      cases s' with
      | num a =>
        cases hV
        have ha : a < M := by
          have q := hms _ hs'
          cases n' <;> exact q
        obtain ⟨z, hz⟩ : ∃ z, names[a]? = some z := ⟨_, List.getElem?_eq_getElem (by omega)⟩
        have hzn := hnm z (List.mem_of_getElem? hz)
        have okz : LnOk 17 (Str.ofString "body " ++ z) := LnOk.app (a := 5) (b := 12) ⟨by decide +kernel, by decide +kernel⟩ ⟨hzn.length, (name_okT hzn).2⟩
        refine x_isInt (b := true) (by decide +kernel) ?_
        walk_at "rd"
        refine x_ixL (SqL.of (k5.get0 hnl)) (k := a) rfl (by rw [List.getElem?_map, hz]; rfl) ?_
        refine x_addS (sz_of (by have := okz.1; rw [str_len, app_list, List.length_append] at this; rw [str_len, str_len]; omega)) ?_
        walk_at "rd"
        refine x_append k1 (sz_lt (by rw [List.length_map]; omega)) fun H2 h2 c2 => ?_
        walk_at "rd"
        refine ⟨l, ls ++ [Str.ofString "body " ++ z], _, rfl, by rw [h2, List.map_append]; rfl, k2, by rw [List.length_append, List.length_singleton]; omega, fun w hw => ?_, k5.stepN c2 k2⟩
        rcases List.mem_append.mp hw with q | q
        · exact k4 w q
        · rw [List.mem_singleton.mp q]
          exact okz.mono (by omega)
      | nod r2 ms2 =>
        have hok2 := hms _ hs'
        have hV' := hV.ch0 k5
        cases hV with
        | @nod y2 b2 _ vs2 _ m1 m2 e1 e2 e3 =>
        rw [hsp n' rfl]
        refine x_isLst (b := false) (k5.get0 e1) (by decide +kernel) ?_
        walk_at "rd"
        refine ⟨N, y2, nl, r2, ms2, M, names, rfl, by omega, hV', hok2, k5.get0 hnl, hnm, hM, fun l2 ls2 H2 hl2 h2 hls2 hok3 c2 => ?_⟩
        have k12 := c2.get0 k1
        walk_at "rd"
        intro D hD
        refine lcL (ls2.map V.str) hD (fun j acc H' => Ch [] H2 H' ∧ acc = (ls2.take j).map (fun z => V.str (Str.ofString "  " ++ z))) (fun H' hh hc => ⟨hc, rfl⟩) (fun j acc H' hj hp => SqL.of (hp.1.get0 h2)) (fun j d acc H' hd hp hA' => ?_) (fun acc H' hp hA' => ?_)
        · obtain ⟨cc, rfl⟩ := hp
          obtain ⟨z, hz, rfl⟩ : ∃ z, ls2[j]? = some z ∧ d = V.str z := by
            rw [List.getElem?_map] at hd
            cases q : ls2[j]? with
            | none => rw [q] at hd; cases hd
            | some z => rw [q] at hd; exact ⟨z, rfl, (Option.some.inj hd).symm⟩
          have hzk := hok3 z (List.mem_of_getElem? hz)
          walk_at "rd"
          refine x_addS (sz_of (by have := hzk.1; rw [show (Str.ofString "  ").length = 2 by decide +kernel]; omega)) ?_
          refine x_lcE hA' (sz_lt ?_) fun H3 h3 c3 => ⟨(cc.trans c3).drop hD |>.mono (by simp), by rw [List.take_add_one, hz, List.map_append]; rfl⟩
          rw [List.length_map, List.length_take]
          omega
        · obtain ⟨cc, rfl⟩ := hp
          rw [List.length_map, List.take_length] at hA'
          refine x_addL (cc.get0 k12) hA' (sz_of (by rw [List.length_map, List.length_map]; omega)) fun l3 H3 hl3 h3 c3 => ?_
          walk_at "rd"
          have c23 := (k5.nilL c2).nilL (cc.nilL c3)
          refine ⟨l3, ls ++ ls2.map (fun z => Str.ofString "  " ++ z), _, rfl, by rw [h3, List.map_append, List.map_map]; rfl, ((k5.nilL c2).nilL cc).free0 hl3, by rw [List.length_append, List.length_map]; omega, fun w hw => ?_, c23⟩
          rcases List.mem_append.mp hw with q | q
          · exact k4 w q
          · obtain ⟨z, hz, rfl⟩ := List.mem_map.mp q
            exact (LnOk.app (a := 2) (b := 17 + 2 * n') ⟨by decide +kernel, by decide +kernel⟩ (hok3 z hz)).mono (by omega)
    · obtain ⟨l, ls, o3, rfl, k1, k2, k3, k4, k5⟩ := hI
      have hL26 : Lc n' ≤ 26 := by
        have : n' = 0 ∨ n' = 1 ∨ n' = 2 := by omega
        rcases this with rfl | rfl | rfl <;> decide
      have hiL : vs.length * Lc n' ≤ 4 * Lc n' := Nat.mul_le_mul hvl (Nat.le_refl _)
      walk_at "rd"
      refine nL fun l2 H2 hl2 h2 c2 => ?_
      refine x_addL (c2.get0 k1) h2 (sz_of (by rw [List.length_map, List.length_singleton]; omega)) fun l3 H3 hl3 h3 c3 => ?_
      refine kk l3 (ls ++ [Str.ofString "end"]) H3 ((k5.nilL c2).free0 hl3) (by rw [h3, List.map_append]; rfl) ?_ (fun w hw => ?_) ((k5.nilL c2).nilL c3)
      · rw [List.length_append, List.length_singleton]
        show ls.length + 1 ≤ 2 + 4 * Lc n'
        omega
      · rcases List.mem_append.mp hw with q | q
        · exact k4 w q
        · rw [List.mem_singleton.mp q]
          exact LnOk.mono (m := 3) ⟨by decide +kernel, by decide +kernel⟩ (by omega)
theorem ok__law_linesN (T : Txt w K mg) : ∀ r : Nat, FD P w K mg base CX0 (2 + r) (He.ga K "_law_lines") ["shape", "names"] (sp__law_lines K r)
  | 0 => st__law_lines T (sp' := fun _ _ _ _ => False) (j := 1) (k := 1) 0 (FD.mk0 T.f__law_lines sc__law_lines (fun vs H Q E h => h.elim) (fun _ _ _ _ _ _ us hl => match us, hl with | [_, _], _ => rfl) (fun cdv A outer s H vs Q E hr h => h.elim)) (Nat.le_refl _) fun q e => by cases e
  | r + 1 => st__law_lines T (r + 1) (ok__law_linesN T r) (Nat.le_refl _) fun q e => by injection e with e; rw [e]
end
def ruleOf : Tr → Str
  | .body _ => "body"
  | .nur r _ => r
abbrev rulesOf (ms : List Tr) : List Str := ms.map ruleOf
theorem rulesOf_app (a b : List Tr) : rulesOf (a ++ b) = rulesOf a ++ rulesOf b := List.map_append
theorem okT_body : OkT "body" := ⟨by decide +kernel, by decide +kernel⟩
theorem refR_iff (ms : List Tr) : refR (rulesOf ms) ((Tr.bsL ms).length : Nat) (1 + (Tr.htL ms : Nat)) ↔ refN ms := by
  unfold refR refN
  rw [List.length_map]
  have h : ("all" : Str) ∈ rulesOf ms ↔ ∃ t ∈ ms, isAll t = true := by
    rw [List.mem_map]
    constructor
    · rintro ⟨t, ht, e⟩
      refine ⟨t, ht, ?_⟩
      cases t with
      | body n => exact absurd e (show ¬ ("body" : Str) = "all" by decide +kernel)
      | nur r ms => exact decide_eq_true e
    · rintro ⟨t, ht, e⟩
      refine ⟨t, ht, ?_⟩
      cases t with
      | body n => cases e
      | nur r ms => exact of_decide_eq_true e
  rw [h]
  constructor
  · rintro (q | q | q | q)
    · exact .inl q
    · exact .inr (.inl q)
    · exact .inr (.inr (.inl (by omega)))
    · exact .inr (.inr (.inr (by omega)))
  · rintro (q | q | q | q)
    · exact .inl q
    · exact .inr (.inl q)
    · exact .inr (.inr (.inl (by omega)))
    · exact .inr (.inr (.inr (by omega)))
/-- the law's frames from the top down -/
inductive FlA (H : Hp) (F : Addr) : List V → List Fr → Prop
  | nil : FlA H F [] []
  | cons {a b : Addr} {zs ws : List V} {r : Str} {ms : List Tr} {fr : List Fr} {m v : Int} : a ≠ F → b ≠ F → H a = some (.lst [.str r, .ref b, .int m, .int v]) → H b = some (.lst zs) → zs = (rulesOf ms).map V.str → m = ((Tr.bsL ms).length : Nat) → v = 1 + (Tr.htL ms : Nat) → FlA H F ws fr → FlA H F (.ref a :: ws) ((r, ms) :: fr)
theorem FlA.ch {H H' : Hp} {F : Addr} {ws : List V} {fr : List Fr} (h : FlA H F ws fr) (c : Ch [F] H H') : FlA H' F ws fr := by
  induction h with
  | nil => exact .nil
  | cons n1 n2 h1 h2 e1 e2 e3 _ ih => exact .cons n1 n2 (c.get1 h1 n1) (c.get1 h2 n2) e1 e2 e3 ih
theorem FlA.len {H : Hp} {F : Addr} {ws : List V} {fr : List Fr} (h : FlA H F ws fr) : ws.length = fr.length := by
  induction h with
  | nil => rfl
  | cons _ _ _ _ _ _ _ _ ih => rw [List.length_cons, List.length_cons, ih]
def FlOk (fr : List Fr) : Prop := ∀ f ∈ fr, ∀ z ∈ rulesOf f.2, OkT z
theorem okT_rule {r : Str} (h : r ∈ rulesL) : OkT r := by
  simp only [rulesL, List.mem_cons, List.not_mem_nil, or_false] at h
  rcases h with rfl | rfl | rfl | rfl <;> exact ⟨by decide +kernel, by decide +kernel⟩
/-! frames compared with [] -/
theorem dpa_snoc {K : PySem.W.Frag} {H : Hp} {v : V} {d : PyData} : ∀ {vs : List V} {ds : List PyData}, DpAll K H vs ds → Dp K H v d → DpAll K H (vs ++ [v]) (ds ++ [d])
  | _, _, .nil, g => .cons g .nil
  | _, _, .cons h t, g => .cons h (dpa_snoc t g)
theorem lay_all {ds : List PyData} (h : ∀ d ∈ ds, PyData.canLay0 d = true ∧ PyData.depth d ≤ 5) : PyData.canLayAll0 ds = true ∧ PyData.depthAll ds ≤ 5 := by
  induction ds with
  | nil => exact ⟨rfl, Nat.zero_le _⟩
  | cons d ds ih =>
    obtain ⟨q1, q2⟩ := ih fun e he => h e (List.mem_cons_of_mem _ he)
    obtain ⟨p1, p2⟩ := h d (List.mem_cons_self ..)
    refine ⟨?_, ?_⟩
    · show (PyData.canLay0 d && PyData.canLayAll0 ds) = true
      rw [p1, q1]
      rfl
    · show max (PyData.depth d) (PyData.depthAll ds) ≤ 5
      omega
theorem fl_data {K : PySem.W.Frag} {H : Hp} {F : Addr} {ws : List V} {fr : List Fr} (h : FlA H F ws fr) (hr : ∀ f ∈ fr, f.1 ∈ rulesL) (ok : FlOk fr) : ∃ ds : List PyData, DpAll K H ws.reverse ds ∧ ds.length = fr.length ∧ ∀ d ∈ ds, PyData.canLay0 d = true ∧ PyData.depth d ≤ 5 := by
  induction h with
  | nil => exact ⟨[], .nil, rfl, fun d m => by cases m⟩
  | @cons a b zs ws r ms fr m v n1 n2 h1 h2 e1 e2 e3 _ ih =>
    obtain ⟨ds, q1, q2, q3⟩ := ih (fun f hf => hr f (List.mem_cons_of_mem _ hf)) fun f hf => ok f (List.mem_cons_of_mem _ hf)
    have hok := ok _ (List.mem_cons_self ..)
    obtain ⟨l1, l2⟩ := lay_str (xs := rulesOf ms) hok
    have hrr := (okT_rule (hr _ (List.mem_cons_self ..))).ok
    subst e1
    refine ⟨ds ++ [.list [.str r, .list (sD (rulesOf ms)), .int m, .int v]], ?_, ?_, fun d hd => ?_⟩
    · rw [List.reverse_cons]
      exact dpa_snoc q1 (.lst (SqL.of h1) (.cons (.str r) (.cons (.lst (SqL.of h2) (dpa_str _)) (.cons (.int m) (.cons (.int v) .nil)))))
    · rw [List.length_append, List.length_singleton, List.length_cons, q2]
    · rcases List.mem_append.mp hd with q | q
      · exact q3 d q
      · rw [List.mem_singleton.mp q]
        refine ⟨?_, ?_⟩
        · show (PyData.strOk r && (PyData.canLayAll0 (sD (rulesOf ms)) && (true && (true && true)))) = true
          have hrr' : PyData.strOk r = true := hrr
          rw [hrr', l1]
          rfl
        · show max (PyData.depth (.str r)) (max (PyData.depthAll (sD (rulesOf ms)) + 1) (max 0 (max 0 0))) + 1 ≤ 5
          rw [l2]
          exact (by decide : max 0 (max (0 + 1) (max 0 (max 0 0))) + 1 ≤ 5)
section
variable {K : PySem.W.Frag} {H : Hp} {Q : VK} {F e : Addr} {ws : List V} {fr : List Fr}
theorem fl_eq (hF : H F = some (.lst ws.reverse)) (he : H e = some (.lst [])) (h : FlA H F ws fr) (hr : ∀ f ∈ fr, f.1 ∈ rulesL) (ok : FlOk fr) : ∃ ds : List PyData, Dp K H (.ref F) (.list ds) ∧ Dp K H (.ref e) (.list []) ∧ SeqAt.shaped (.list ds) = true ∧ SeqAt.shaped (.list []) = true ∧ PyData.eqvAll ds [] = fr.isEmpty := by
  obtain ⟨ds, q1, q2, q3⟩ := fl_data (K := K) h hr ok
  obtain ⟨l1, l2⟩ := lay_all q3
  refine ⟨ds, .lst (SqL.of hF) q1, .lst (SqL.of he) .nil, ?_, by decide, ?_⟩
  · unfold SeqAt.shaped
    rw [Bool.and_eq_true]
    exact ⟨l1, by rw [decide_eq_true_eq]; show PyData.depthAll ds + 1 ≤ 64; omega⟩
  · cases ds with
    | nil =>
      cases fr with
      | nil => rfl
      | cons f fr => cases q2
    | cons d ds =>
      cases fr with
      | nil => cases q2
      | cons f fr => rfl
theorem x_eqFr (hF : H F = some (.lst ws.reverse)) (he : H e = some (.lst [])) (h : FlA H F ws fr) (hr : ∀ f ∈ fr, f.1 ∈ rulesL) (ok : FlOk fr) (q : Q (.bl fr.isEmpty) H) : rEqU K (.ref F) (.ref e) H Q := by
  obtain ⟨ds, d1, d2, s1, s2, e⟩ := fl_eq (K := K) hF he h hr ok
  exact .inr ⟨_, _, d1, d2, s1, s2, by show Q (.bl (PyData.eqvAll ds [])) H; rw [e]; exact q⟩
theorem x_neFr (hF : H F = some (.lst ws.reverse)) (he : H e = some (.lst [])) (h : FlA H F ws fr) (hr : ∀ f ∈ fr, f.1 ∈ rulesL) (ok : FlOk fr) (q : Q (.bl (!fr.isEmpty)) H) : rNeU K (.ref F) (.ref e) H Q := by
  obtain ⟨ds, d1, d2, s1, s2, e⟩ := fl_eq (K := K) hF he h hr ok
  exact .inr ⟨_, _, d1, d2, s1, s2, by show Q (.bl (!PyData.eqvAll ds [])) H; rw [e]; exact q⟩
end
def sp__law_due : Sp := fun vs H Q E => ∃ (ll nl : Addr) (hd : Str) (rest names : List Str), vs = [.ref ll, .ref nl] ∧ H ll = some (.lst ((hd :: rest).map V.str)) ∧ H nl = some (.lst (names.map V.str)) ∧ (∀ l ∈ hd :: rest, l.length ≤ 60) ∧ rest.length ≤ 200 ∧
  (∀ n, res names hd rest = .inl n → ∀ p x H', H' p = some (.lst [.int (n : Nat), x]) → Ch [] H H' → Q (.ref p) H') ∧ (∀ t, res names hd rest = .inr t → ∀ H', Ch [] H H' → Q .non H')
section
variable {P : Program} {w : World} {K : PySem.W.Frag} {mg : Str → Option Value} {base : Heap}
theorem ok__law_due (T : Txt w K mg)  : FD P w K mg base CX0 5 (He.ga K "_law_due") ["lines", "known"] sp__law_due := by
  refine FD.mk0 T.f__law_due sc__law_due (fun vs H Q E h => ?_) (fun _ _ _ _ _ _ us hl => match us, hl with | [_, _], _ => rfl) (fun cdv A outer s H vs Q E hr h => ⟨_, (pss_cons (ps_if (pt_not (pt_val (pe_callD (ok__law_strike_line T) hr (by first | decide | omega) (by rfl) T.g__law_strike_line pass0 (pa_cons (pe_ix ix_seq (pv 0) pe_int (by intro _ _; rfl)) pa_nil)))) (pss_one (ps_ret (pe_lst (pa_cons pe_int (pa_cons pe_non pa_nil))))) pss_nil)
  (pss_cons (ps_set (i := 2) sc__law_due.nd rfl (.inl rfl) (pe_lst pa_nil))
  (pss_cons (ps_for PassesOwn.never rfl (pi_range2 (by rfl) T.n_range (pa_cons pe_int (pa_cons (pe_callB c_len (by rfl) T.n_len bb_len (pa_cons (pv 0) pa_nil)) pa_nil))) (pg_name (i := 3) sc__law_due.nd rfl (.inl rfl)) (pss_cons (ps_set (i := 4) sc__law_due.nd rfl (.inl rfl) (pe_bm PySem.F.plainAttrs_str PySem.F.slot_str_lstrip PySem.F.type_str_lstrip mt_lst (pe_ix ix_seq (pv 0) (pv 3) (by intro _ _; rfl)) (pa_cons pe_str pa_nil)))
  (pss_cons (ps_if (PW.pt (pw_and (pt_cmpR (u_eq (hu64 hr)) (pv 2) (pe_lst pa_nil) (nomark _)) (pw_and1 (pt_cmpR u_gt (pv 3) pe_int (nomark _))))) (pss_one (ps_ret (pe_lst (pa_cons (pe_op u_add (pv 3) pe_int) (pa_cons pe_non pa_nil))))) pss_nil)
  (pss_one (ps_if (pt_cmpR u_in (pv 4) (pe_lst (pa_cons pe_str (pa_cons pe_str (pa_cons pe_str (pa_cons pe_str pa_nil))))) (by rfl)) (pss_one (ps_expr (pe_bm PySem.F.plainAttrs_list PySem.F.slot_list_append PySem.F.type_list_append mt_append (pv 2) (pa_cons (pe_lst (pa_cons (pe_slice u_slice (pv 4) (po_some pe_int) po_none) (pa_cons (pe_lst pa_nil) (pa_cons pe_int (pa_cons pe_int pa_nil))))) pa_nil)))) (pss_one (ps_if (PW.pt (pw_and (pt_val (pe_bm PySem.F.plainAttrs_str PySem.F.slot_str_startswith PySem.F.type_str_startswith mt_sw (pv 4) (pa_cons pe_str pa_nil))) (pw_and (pt_cmpR (u_ne (hu64 hr)) (pv 2) (pe_lst pa_nil) (nomark _)) (pw_and1 (pt_val (pe_callD (ok__law_is_name T) hr (by first | decide | omega) (by rfl) T.g__law_is_name pass0 (pa_cons (pe_slice u_slice (pv 4) (po_some pe_int) po_none) pa_nil))))))) (pss_cons (ps_if (pt_cmpR u_notin (pe_slice u_slice (pv 4) (po_some pe_int) po_none) (pv 1) (by rfl)) (pss_one (ps_ret (pe_lst (pa_cons (pe_op u_add (pv 3) pe_int) (pa_cons pe_str pa_nil))))) pss_nil)
  (pss_one (ps_asg (pe_lst (pa_cons (pe_ix ix_seq (pe_ix ix_seq (pv 2) (pe_un un_neg pe_int) (by intro _ _; rfl)) pe_int (by intro _ _; rfl)) (pa_cons (pe_op u_add (pe_ix ix_seq (pe_ix ix_seq (pv 2) (pe_un un_neg pe_int) (by intro _ _; rfl)) pe_int (by intro _ _; rfl)) (pe_lst (pa_cons pe_str pa_nil))) (pa_cons (pe_op u_add (pe_ix ix_seq (pe_ix ix_seq (pv 2) (pe_un un_neg pe_int) (by intro _ _; rfl)) pe_int (by intro _ _; rfl)) pe_int) (pa_cons (pe_ix ix_seq (pe_ix ix_seq (pv 2) (pe_un un_neg pe_int) (by intro _ _; rfl)) pe_int (by intro _ _; rfl)) pa_nil))))) (pg_sub (pv 2) (pe_un un_neg pe_int) set_list)))) (pss_one (ps_if (PW.pt (pw_and (pt_cmpR (u_eq (hu64 hr)) (pv 4) pe_str (nomark _)) (pw_and1 (pt_cmpR (u_ne (hu64 hr)) (pv 2) (pe_lst pa_nil) (nomark _))))) (pss_cons (ps_set (i := 5) sc__law_due.nd rfl (.inl rfl) (pe_bm0 PySem.F.plainAttrs_list PySem.F.slot_list_pop PySem.F.type_list_pop mt_pop (pv 2)))
  (pss_cons (ps_if (pt_cmpR u_isnot (pe_callD (ok__law_refusal T) hr (by first | decide | omega) (by rfl) T.g__law_refusal pass0 (pa_cons (pv 5) pa_nil)) pe_non (nomark _)) (pss_one (ps_ret (pe_lst (pa_cons (pe_op u_add (pv 3) pe_int) (pa_cons (pe_callD (ok__law_refusal T) hr (by first | decide | omega) (by rfl) T.g__law_refusal pass0 (pa_cons (pv 5) pa_nil)) pa_nil))))) pss_nil)
  (pss_one (ps_if (pt_cmpR (u_ne (hu64 hr)) (pv 2) (pe_lst pa_nil) (nomark _)) (pss_cons (ps_set (i := 6) sc__law_due.nd rfl (.inl rfl) (pe_ix ix_seq (pv 2) (pe_un un_neg pe_int) (by intro _ _; rfl)))
  (pss_one (ps_asg (pe_lst (pa_cons (pe_ix ix_seq (pv 6) pe_int (by intro _ _; rfl)) (pa_cons (pe_op u_add (pe_ix ix_seq (pv 6) pe_int (by intro _ _; rfl)) (pe_lst (pa_cons (pe_ix ix_seq (pv 5) pe_int (by intro _ _; rfl)) pa_nil))) (pa_cons (pe_op u_add (pe_ix ix_seq (pv 6) pe_int (by intro _ _; rfl)) (pe_ix ix_seq (pv 5) pe_int (by intro _ _; rfl))) (pa_cons (pe_ifExp (pt_cmpR u_gt (pe_ix ix_seq (pv 6) pe_int (by intro _ _; rfl)) (pe_ix ix_seq (pv 5) pe_int (by intro _ _; rfl)) (nomark _)) (pe_ix ix_seq (pv 6) pe_int (by intro _ _; rfl)) (pe_op u_add (pe_ix ix_seq (pv 5) pe_int (by intro _ _; rfl)) pe_int)) pa_nil))))) (pg_sub (pv 2) (pe_un un_neg pe_int) set_list)))) pss_nil)))) (pss_one (ps_ret (pe_lst (pa_cons (pe_op u_add (pv 3) pe_int) (pa_cons pe_non pa_nil))))))))))))))
  (pss_cons (ps_if (PW.pt (pw_or (pt_cmpR (u_ne (hu64 hr)) (pv 2) (pe_lst pa_nil) (nomark _)) (pw_or1 (pt_cmpR (u_eq (hu64 hr)) (pe_callB c_len (by rfl) T.n_len bb_len (pa_cons (pv 0) pa_nil)) pe_int (nomark _))))) (pss_one (ps_ret (pe_lst (pa_cons (pe_op u_add (pe_callB c_len (by rfl) T.n_len bb_len (pa_cons (pv 0) pa_nil)) pe_int) (pa_cons pe_non pa_nil))))) pss_nil)
  (pss_one (ps_ret pe_non)))))), ?_⟩)
  · obtain ⟨ll, nl, hd, rest, names, rfl, _⟩ := h
    rfl
  · obtain ⟨ll, nl, hd, rest, names, rfl, hll, hnl, hls, hrl, kb, kg⟩ := h
    walk_at "st"
    walk_at "rd"
    refine ⟨hd, rfl, hls hd (List.mem_cons_self ..), fun b H1 hb c1 => ?_⟩
    walk_at "rd"
    refine ite_nb (fun hbt => ?_) (fun hbf => ?_)
    rotate_left 1
    · walk_at "rd"
      refine nL fun p H2 hp h2 c2 => ?_
      exact kb 1 (by unfold res; rw [if_neg (fun g => by rw [hb.mpr g] at hbf; cases hbf)]) p _ H2 h2 (c1.nilL c2)
    have hg : goodL hd := hb.mp hbt
    walk_at "rd"
    refine nL fun F H2 hF h2 c2 => ?_
    have hFH := c1.free0 hF
    have c12 := c1.nilL c2
    have hll2 := c12.get0 hll
    have hnl2 := c12.get0 hnl
    have nlF : ll ≠ F := ne_of_none hll hFH
    have nnF : nl ≠ F := ne_of_none hnl hFH
    walk_at "rd"
    have hnn : ((((hd :: rest).map V.str).length : Int) - 1).toNat = rest.length := by rw [List.length_map, List.length_cons]; omega
    have e2i : ∀ i : Nat, (1 : Int) + (i : Int) + 1 = ((2 + i : Nat) : Int) := fun i => by omega
    refine x_iR2a ⟨by decide, by decide, by rw [List.length_map, List.length_cons]; omega, by rw [List.length_map, List.length_cons]; omega⟩ ?_
    rw [hnn]
    refine goR (fun i σ H' => ∃ (fr : List Fr) (wh : Option Tr) (ws : List V) (o3 o4 o5 o6 : Option V), σ = [some (.ref ll), some (.ref nl), some (.ref F), o3, o4, o5, o6] ∧ FlA H' F ws fr ∧ H' F = some (.lst ws.reverse) ∧ Ch [F] H2 H' ∧ rn names [] none rest 2 = rn names fr wh (rest.drop i) (2 + i) ∧ FrOk i fr ∧ FlOk fr ∧ ((i = 0 ∧ fr = [] ∧ wh = none) ∨ (0 < i ∧ fr = [] ∧ ∃ t, wh = some t) ∨ (0 < i ∧ fr ≠ [] ∧ wh = none)))
      ⟨[], none, [], none, none, none, none, rfl, .nil, h2, (Ch.refl _).any, rfl, FrOk.nil, (fun f m => by cases m), .inl ⟨rfl, rfl, rfl⟩⟩ (fun i σ H' hi hI => ?_) (fun σ H' hI => ?_)
    · obtain ⟨fr, wh, ws, o3, o4, o5, o6, rfl, hA, hFF, hch, hrn, hfk, hfo, hJ⟩ := hI
      obtain ⟨l, hl'⟩ : ∃ l, rest[i]? = some l := ⟨_, List.getElem?_eq_getElem hi⟩
      have hlm : l ∈ hd :: rest := List.mem_cons_of_mem _ (List.mem_of_getElem? hl')
      have hll3 := hch.get1 hll2 nlF
      have hnl3 := hch.get1 hnl2 nnF
      have hdr : rest.drop i = l :: rest.drop (i + 1) := by
        obtain ⟨hi, e⟩ := List.getElem?_eq_some_iff.mp hl'
        rw [List.drop_eq_getElem_cons hi, e]
      have cH : Ch [] H H' := Ch.drop (S := []) (c12.nilL hch) hFH
      have hrl1 : ∀ f ∈ fr, f.1 ∈ rulesL := fun f hf => (hfk.1 f hf).1
      have hwl : ws.reverse.length ≤ 200 := by
        rw [List.length_reverse, hA.len]
        have := hfk.2.2
        omega
      walk_at "rd"
      refine x_ixL (SqL.of hll3) (k := i + 1) (by omega) (by rw [List.getElem?_map, List.getElem?_cons_succ, hl']; rfl) ?_
      walk_at "rd"
      refine x_lstrip (sz_of (by have := hls l hlm; omega)) ?_
      obtain ⟨L, hL⟩ : ∃ L, L = strp l := ⟨_, rfl⟩
      rw [show Txt.lstripChars l (Str.ofString " ") = L from hL.symm]
      have hLl : L.length ≤ 60 := by rw [hL]; exact Nat.le_trans (lstrip_len l sp1) (hls l hlm)
      have hrnL : rn names [] none rest 2 = rn names fr wh (l :: rest.drop (i + 1)) (2 + i) := by rw [hrn, hdr]
      have bad : stp names fr wh L = none → ∀ p x H'', H'' p = some (.lst [.int (1 + (i : Int) + 1), x]) → Ch [] H H'' → Q (.ref p) H'' := fun hn p x H'' hp c => kb (2 + i) (res_bad hg (by rw [hrnL, rn_bad' hL hn])) p x H'' (by rw [hp, e2i]) c
      have next_ : ∀ fr' wh', stp names fr wh L = some (fr', wh') → rn names [] none rest 2 = rn names fr' wh' (rest.drop (i + 1)) (2 + (i + 1)) := fun fr' wh' h => by rw [hrnL, rn_ok' hL h]; rfl
      refine x_name4 ?_
      refine x_seq ?_
      refine x_ifS ?_
      refine tt_join (fun b H3 => Ch [] H' H3 ∧ (b = true → ∃ t, wh = some t) ∧ (b = false → wh = none)) (fun QB' hQ => ?_) ?_
      · walk_at "rd"
        refine nL fun e1 H3 he1 h3 c3 => ?_
        have hA3 := hA.ch c3.any
        have hF3 := c3.get0 hFF
        refine x_eqFr hF3 h3 hA3 hrl1 hfo ?_
        rcases hJ with ⟨q0, q1, q2⟩ | ⟨q0, q1, q2⟩ | ⟨q0, q1, q2⟩
        · subst q1
          rw [show ([] : List Fr).isEmpty = true from rfl]
          walk_at "rd"
          rw [decide_eq_false (by omega)]
          exact hQ _ _ ⟨c3, (fun z => nomatch z), fun _ => q2⟩
        · subst q1
          rw [show ([] : List Fr).isEmpty = true from rfl]
          walk_at "rd"
          rw [decide_eq_true (by omega)]
          exact hQ _ _ ⟨c3, fun _ => q2, (fun z => nomatch z)⟩
        · rw [show fr.isEmpty = false from by cases fr with
            | nil => exact absurd rfl q1
            | cons _ _ => rfl]
          walk_at "rd"
          exact hQ _ _ ⟨c3, (fun z => nomatch z), fun _ => q2⟩
      rintro b' H3 ⟨c3, hb1, hb2⟩
      refine ite_b (fun hbt => ?_) (fun hbf => ?_)
      · walk_at "rd"
        refine nL fun p H4 hp h4 c4 => ?_
        obtain ⟨t, rfl⟩ := hb1 hbt
        exact bad rfl p _ H4 h4 ((cH.nilL c3).nilL c4)
      obtain rfl := hb2 hbf
      have hA3 := hA.ch c3.any
      have hF3 := c3.get0 hFF
      have hnl3' := c3.get0 hnl3
      have cH3 := cH.nilL c3
      have hch3 := hch.nilR c3
      walk_at "rd"
      refine nL fun e2 H4 he2 h4 c4 => ?_
      refine x_inL (SqL.of h4) rfl rfl ?_
      rw [show inV (V.str L) [V.str (Str.ofString "nursery first"), V.str (Str.ofString "nursery rank"), V.str (Str.ofString "nursery least"), V.str (Str.ofString "nursery all")] = decide (L ∈ nurL) from inV_str L nurL]
      have hA4 := hA3.ch c4.any
      have hF4 := c4.get0 hF3
      have hnl4 := c4.get0 hnl3'
      have cH4 := cH3.nilL c4
      have hch4 := hch3.nilR c4
      walk_at "rd"
      refine ite_by (fun hn => ?_) (fun hn => ?_)
      · have hkn : kn L = .nur (cutS L (some 8) none) := by unfold kn; rw [if_pos hn]
        have hr8 : cutS L (some 8) none ∈ rulesL := by
          have q := (kn_nur hn).symm.trans hkn
          injection q with q
          rw [← q]
          exact ((test_nur L).mpr hn).2
        walk_at "rd"
        refine x_slS (sz_of (by omega)) ?_
        walk_at "rd"
        refine nL fun b5 H5 hb5 h5 c5 => ?_
        walk_at "rd"
        refine nL fun a6 H6 ha6 h6 c6 => ?_
        have hF6 := c6.get0 (c5.get0 hF4)
        walk_at "rd"
        refine x_append hF6 (sz_lt (by omega)) fun H7 h7 c7 => ?_
        walk_at "rd"
        have naF : a6 ≠ F := Ne.symm (ne_of_none (c5.get0 hF4) ha6)
        have nbF : b5 ≠ F := Ne.symm (ne_of_none hF4 hb5)
        have c47 := (c5.nilL c6).nilL c7
        have hst := stp_n (known := names) (fr := fr) hkn
        refine ⟨(cutS L (some 8) none, []) :: fr, none, .ref a6 :: ws, _, _, _, _, rfl, .cons naF nbF (c7.get1 h6 naF) (c7.get1 (c6.get0 h5) nbF) rfl rfl rfl (hA4.ch c47), by rw [h7, List.reverse_cons], hch4.seq c47, next_ _ _ hst, hfk.push hr8, fun f hf => ?_, .inr (.inr ⟨by omega, by simp, rfl⟩)⟩
        rcases List.mem_cons.mp hf with z | z
        · rw [z]
          intro z hz
          cases hz
        · exact hfo f z
      walk_at "rd"
      refine ite_b (fun hB => ?_) (fun hB => ?_)
      · have hkb : kn L = .bod (cutS L (some 5) none) := by unfold kn; rw [if_neg hn]; exact if_pos hB
        have hLe : ¬ L = Str.ofString "end" := fun z => by rw [z] at hB; revert hB; decide +kernel
        walk_at "rd"
        refine nL fun e3 H5 he3 h5 c5 => ?_
        have hF5 := c5.get0 hF4
        refine x_neFr hF5 h5 (hA4.ch c5.any) hrl1 hfo ?_
        have cH5 := cH4.nilL c5
        have hch5 := hch4.nilR c5
        have hnl5 := c5.get0 hnl4
        have hA5 := hA4.ch c5.any
        clear hA hA3 hA4
        cases hA5 with
        | nil =>
          rw [show (!([] : List Fr).isEmpty) = false from rfl]
          walk_at "rd"
          refine nL fun p H6 hp h6 c6 => ?_
          exact bad (stp_nil fun r e => by rw [hkb] at e; cases e) p _ H6 h6 (cH5.nilL c6)
        | @cons a b zs ws r ms fr m v n1 n2 g1 g2 e1 e2 e3 g5 =>
          rw [show (!((r, ms) :: fr).isEmpty) = true from rfl]
          obtain ⟨z, hz⟩ : ∃ z, z = cutS L (some 5) none := ⟨_, rfl⟩
          have hzl : z.length ≤ 60 := by rw [hz]; exact Nat.le_trans (cutS_length L _ _) hLl
          rw [← hz] at hkb
          walk_at "rd"
          refine x_slS (sz_of (by omega)) ?_
          rw [← hz]
          walk_at "rd"
          refine ⟨z, rfl, sz_of (by omega), fun H6 c6 => ?_⟩
          have hF6 := c6.get0 hF5
          rw [List.reverse_cons] at hF6 hwl
          have cH6 := cH5.nilL c6
          have hch6 := hch5.nilR c6
          have hnl6 := c6.get0 hnl5
          have g16 := c6.get0 g1
          have g26 := c6.get0 g2
          walk_at "rd"
          refine ite_b (fun ho => ?_) (fun ho => ?_)
          · have ho' : okN z = true := ho
            walk_at "rd"
            refine x_slS (sz_of (by omega)) ?_
            rw [← hz]
            walk_at "rd"
            refine x_notInL (SqL.of hnl6) rfl (flat_str _) ?_
            rw [inV_str]
            walk_at "rd"
            refine ite_nby (fun hm => ?_) (fun hm => ?_)
            · have hst := stp_bodC (r := r) (ms := ms) (fr := fr) hkb ⟨ho', hm⟩
              have hzs : zs.length ≤ 200 := by
                rw [e1, List.length_map, List.length_map]
                have := (hfk.1 _ (List.mem_cons_self ..)).2.2.2
                have q : ms.length ≤ i := this
                omega
              walk_at "rd"
              refine x_ixLm (SqL.of hF6) ?_
              walk_at "rd"
              refine x_ixLm (SqL.of hF6) ?_
              walk_at "rd"
              refine nL fun e5 H7 he5 h7 c7 => ?_
              have g27 := c7.get0 g26
              refine x_addL g27 h7 (sz_of (by rw [List.length_singleton]; omega)) fun b8 H8 hb8 h8 c8 => ?_
              have hF8 := c8.get0 (c7.get0 hF6)
              have g18 := c8.get0 (c7.get0 g16)
              walk_at "rd"
              refine x_ixLm (SqL.of hF8) ?_
              walk_at "rd"
              refine x_ixLm (SqL.of hF8) ?_
              walk_at "rd"
              refine nL fun a9 H9 ha9 h9 c9 => ?_
              have hF9 := c9.get0 hF8
              walk_at "rd"
              refine x_setLm hF9 fun H10 h10 c10 => ?_
              have nbF : b8 ≠ F := Ne.symm (ne_of_none (c7.get0 hF6) hb8)
              have naF : a9 ≠ F := Ne.symm (ne_of_none hF8 ha9)
              have c610 := ((c7.nilL c8).nilL c9).nilL c10
              refine ⟨(r, ms ++ [.body z]) :: fr, none, .ref a9 :: ws, _, _, _, _, rfl, .cons naF nbF (c10.get1 h9 naF) (c10.get1 (c9.get0 h8) nbF) ?_ ?_ ?_ (g5.ch (c6.nilL c610)), by rw [h10, List.reverse_cons], hch6.seq c610, next_ _ _ hst, hfk.body, fun f hf => ?_, .inr (.inr ⟨by omega, by simp, rfl⟩)⟩
              · rw [e1, ← List.map_singleton, ← List.map_append]
                congr 1
                rw [rulesOf_app]
                rfl
              · rw [e2, bsL_app, List.length_append]
                rfl
              · rw [e3, htL_app]
                show _ = 1 + ((max (Tr.htL ms) (max 0 0) : Nat) : Int)
                rw [Nat.max_zero, Nat.max_zero]
              · rcases List.mem_cons.mp hf with q | q
                · rw [q]
                  intro y hy
                  have hy' : y ∈ rulesOf (ms ++ [.body z]) := hy
                  rw [rulesOf_app] at hy'
                  rcases List.mem_append.mp hy' with q2 | q2
                  · exact hfo _ (List.mem_cons_self ..) y q2
                  · have q3 : y = "body" := by simpa [ruleOf] using q2
                    rw [q3]
                    exact okT_body
                · exact hfo f (List.mem_cons_of_mem _ q)
            · walk_at "rd"
              refine nL fun p H7 hp h7 c7 => ?_
              exact bad (stp_bodN hkb fun q => hm q.2) p _ H7 h7 (cH6.nilL c7)
          · walk_at "rd"
            refine nL fun p H7 hp h7 c7 => ?_
            exact bad (stp_bodN hkb fun q => by
              have ho' : okN z = false := ho
              rw [q.1] at ho'
              cases ho') p _ H7 h7 (cH6.nilL c7)
      · by_cases hLe : L = "end"
        · have t3 : L = Str.ofString "end" := hLe
          have hkf : kn L = .fin := by rw [hLe]; exact kn_fin
          walk_at "rd"
          refine nL fun e3 H5 he3 h5 c5 => ?_
          have hF5 := c5.get0 hF4
          refine x_neFr hF5 h5 (hA4.ch c5.any) hrl1 hfo ?_
          have cH5 := cH4.nilL c5
          have hch5 := hch4.nilR c5
          have hA5 := hA4.ch c5.any
          clear hA hA3 hA4
          cases hA5 with
          | nil =>
            rw [show (!([] : List Fr).isEmpty) = false from rfl]
            walk_at "rd"
            refine nL fun p H6 hp h6 c6 => ?_
            exact bad (stp_nil fun r e => by rw [hkf] at e; cases e) p _ H6 h6 (cH5.nilL c6)
          | @cons a b zs ws r ms fr m v n1 n2 g1 g2 e1 e2 e3 g5 =>
            rw [show (!((r, ms) :: fr).isEmpty) = true from rfl]
            rw [List.reverse_cons] at hF5 hwl
            subst e1 e2 e3
            walk_at "rd"
            refine x_pop hF5 fun H6 h6 c6 => ?_
            have cH6 : Ch [] H H6 := Ch.drop (S := []) (cH5.nilL c6) hFH
            have hch6 := hch5.seq c6
            have g16 := c6.get1 g1 n1
            have g26 := c6.get1 g2 n2
            have g56 := g5.ch c6
            walk_at "rd"
            refine ⟨a, b, r, rulesOf ms, _, _, rfl, g16, g26, fun hR z => ?_, fun hR => ?_⟩
            · have hRf : refN ms := (refR_iff ms).mp hR
              walk_at "rd"
              refine ⟨a, b, r, rulesOf ms, _, _, rfl, g16, g26, fun _ z2 => ?_, fun h => absurd hR h⟩
              walk_at "rd"
              refine nL fun p H7 hp h7 c7 => ?_
              exact bad (stp_finN hkf hRf) p _ H7 h7 (cH6.nilL c7)
            · have hRf : ¬ refN ms := fun q => hR ((refR_iff ms).mpr q)
              refine ⟨rfl, _, rfl, ite_n rfl ?_⟩
              walk_at "rd"
              refine nL fun e4 H7 he4 h7 c7 => ?_
              have hF7 := c7.get0 h6
              have g57 := g56.ch c7.any
              have hfo2 : FlOk fr := fun f hf => hfo f (List.mem_cons_of_mem _ hf)
              refine x_neFr hF7 h7 g57 (fun f hf => hrl1 f (List.mem_cons_of_mem _ hf)) hfo2 ?_
              have cH7 := cH6.nilL c7
              have hch7 := hch6.nilR c7
              have g17 := c7.get0 g16
              have hws : ws.length = fr.length := g57.len
              clear g5 g56
              cases g57 with
              | nil =>
                rw [show (!([] : List Fr).isEmpty) = false from rfl]
                walk_at "rd"
                exact ⟨[], some (.nur r ms), [], _, _, _, _, rfl, .nil, hF7, hch7, next_ _ _ (stp_finW hkf hRf), FrOk.nil, (fun f m => by cases m), .inr (.inl ⟨by omega, rfl, _, rfl⟩)⟩
              | @cons a2 b2 zs2 ws q ns fr m2 v2 n3 n4 k1 k2 j1 j2 j3 k5 =>
                rw [show (!((q, ns) :: fr).isEmpty) = true from rfl]
                rw [List.reverse_cons] at hF7
                subst j1 j2 j3
                have hnl : (rulesOf ns).length ≤ 200 := by
                  rw [List.length_map]
                  have := (hfk.1 _ (List.mem_cons_of_mem _ (List.mem_cons_self ..))).2.2.2
                  have z : ns.length ≤ i := this
                  omega
                walk_at "rd"
                refine x_ixLm (SqL.of hF7) ?_
                walk_at "rd"
                refine nL fun e5 H8 he5 h8 c8 => ?_
                refine x_addL (c8.get0 k2) h8 (sz_of (by rw [List.length_map, List.length_singleton]; omega)) fun b9 H9 hb9 h9 c9 => ?_
                have k19 := c9.get0 (c8.get0 k1)
                have g19 := c9.get0 (c8.get0 g17)
                have hF9 := c9.get0 (c8.get0 hF7)
                walk_at "rd"
                refine ite_join (fun x H10 => x = .int (1 + ((max (Tr.htL ns) (1 + Tr.htL ms) : Nat) : Int)) ∧ H10 = H9) ?_ (fun hc Q' hQ => ?_) (fun hc Q' hQ => ?_)
                rotate_left 1
                · have hc' := of_decide_eq_true hc
                  walk_at "rd"
                  refine hQ _ _ ⟨?_, rfl⟩
                  congr 2
                  rw [Nat.max_eq_left (by omega)]
                · have hc' := of_decide_eq_false hc
                  walk_at "rd"
                  refine hQ _ _ ⟨?_, rfl⟩
                  rw [Nat.max_eq_right (by omega)]
                  congr 1
                  omega
                rintro _ _ ⟨rfl, rfl⟩
                walk_at "rd"
                refine nL fun a11 H11 ha11 h11 c11 => ?_
                have hF11 := c11.get0 hF9
                walk_at "rd"
                refine x_setLm hF11 fun H12 h12 c12' => ?_
                have nbF : b9 ≠ F := Ne.symm (ne_of_none (c8.get0 hF7) hb9)
                have naF : a11 ≠ F := Ne.symm (ne_of_none hF9 ha11)
                have c712 := ((c8.nilL c9).nilL c11).nilL c12'
                refine ⟨(q, ns ++ [.nur r ms]) :: fr, none, .ref a11 :: ws, _, _, _, _, rfl, .cons naF nbF (c12'.get1 h11 naF) (c12'.get1 (c11.get0 h9) nbF) ?_ ?_ ?_ (k5.ch c712), by rw [h12, List.reverse_cons], hch7.seq c712, next_ _ _ (stp_finC hkf hRf), hfk.close hRf, fun f hf => ?_, .inr (.inr ⟨by omega, by simp, rfl⟩)⟩
                · rw [rulesOf_app, List.map_append]
                  rfl
                · rw [bsL_app, List.length_append]
                  show _ = (((Tr.bsL ns).length + (Tr.bsL ms ++ []).length : Nat) : Int)
                  rw [List.append_nil]
                  omega
                · rw [htL_app]
                  show _ = 1 + ((max (Tr.htL ns) (max (1 + Tr.htL ms) 0) : Nat) : Int)
                  rw [Nat.max_zero]
                · rcases List.mem_cons.mp hf with z | z
                  · rw [z]
                    intro y hy
                    have hy' : y ∈ rulesOf (ns ++ [.nur r ms]) := hy
                    rw [rulesOf_app] at hy'
                    rcases List.mem_append.mp hy' with q2 | q2
                    · exact hfo2 _ (List.mem_cons_self ..) y q2
                    · have q3 : y = r := by simpa [ruleOf] using q2
                      rw [q3]
                      exact okT_rule (hrl1 _ (List.mem_cons_self ..))
                  · exact hfo2 f (List.mem_cons_of_mem _ z)
        · have t3 : ¬ L = Str.ofString "end" := hLe
          walk_at "rd"
          refine nL fun p H6 hp h6 c6 => ?_
          refine bad (stp_b ?_) p _ H6 h6 (cH4.nilL c6)
          unfold kn
          rw [if_neg hn, if_neg (by
            have hB' : Txt.startswith L "body " = false := hB
            rw [hB']
            exact Bool.false_ne_true), if_neg hLe]
    · obtain ⟨fr, wh, ws, o3, o4, o5, o6, rfl, hA, hFF, hch, hrn, hfk, hfo, hJ⟩ := hI
      rw [List.drop_length] at hrn
      have hrl1 : ∀ f ∈ fr, f.1 ∈ rulesL := fun f hf => (hfk.1 f hf).1
      have cH : Ch [] H H' := Ch.drop (S := []) (c12.nilL hch) hFH
      have hll3 := hch.get1 hll2 nlF
      have bad : wh = none → ∀ p x H'', H'' p = some (.lst [.int ((((hd :: rest).map V.str).length : Int) + 1), x]) → Ch [] H H'' → Q (.ref p) H'' := fun hw p x H'' hp c => kb (rest.length + 2) (res_un hg (by rw [hrn, hw]; rfl)) p x H'' (by rw [hp, List.length_map, List.length_cons]; congr 4 <;> omega) c
      walk_at "rd"
      refine nL fun e1 H3 he1 h3 c3 => ?_
      refine x_neFr (c3.get0 hFF) h3 (hA.ch c3.any) hrl1 hfo ?_
      have hll4 := c3.get0 hll3
      rcases hJ with ⟨q0, q1, q2⟩ | ⟨q0, q1, t, q2⟩ | ⟨q0, q1, q2⟩
      · subst q1
        rw [show (!([] : List Fr).isEmpty) = false from rfl]
        walk_at "rd"
        refine ite_d (by rw [List.length_map, List.length_cons]; omega) ?_
        walk_at "rd"
        refine nL fun p H4 hp h4 c4 => ?_
        exact bad q2 p _ H4 h4 ((cH.nilL c3).nilL c4)
      · subst q1
        rw [show (!([] : List Fr).isEmpty) = false from rfl]
        walk_at "rd"
        exact kg t (res_in hg (by rw [hrn, q2]; rfl)) H3 (cH.nilL c3)
      · rw [show (!fr.isEmpty) = true from by cases fr with
          | nil => exact absurd rfl q1
          | cons _ _ => rfl]
        walk_at "rd"
        refine nL fun p H4 hp h4 c4 => ?_
        exact bad q2 p _ H4 h4 ((cH.nilL c3).nilL c4)
end
theorem cut_lo (z : Str) (k : Nat) : (cutS z none (some (k : Int))).cps.toList = z.cps.toList.take k := by
  show ((z.cps.toList.drop 0).take (HT.sIx z.length z.length (some (k : Int)) - 0)) = _
  rw [List.drop_zero, Nat.sub_zero, HT.sIx_nat, str_len]
  by_cases h : k ≤ z.cps.toList.length
  · rw [Nat.min_eq_left h]
  · rw [Nat.min_eq_right (by omega), List.take_length, List.take_of_length_le (by omega)]
theorem cut_hi (z : Str) (k : Nat) : (cutS z (some (k : Int)) none).cps.toList = z.cps.toList.drop k := cut_from z k
/-- a list of at most n lines at a -/
def LL (H : Hp) (a : Addr) (m n : Nat) : Prop := ∃ ls : List Str, H a = some (.lst (ls.map V.str)) ∧ ls.length ≤ n ∧ ∀ z ∈ ls, LnOk m z
section
variable {K : PySem.W.Frag} {H H' : Hp} {Q : VK} {a b p : Addr} {m n k j : Nat} {i i2 : Int}
theorem LL.ch0 (h : LL H a m n) (c : Ch [] H H') : LL H' a m n := by
  obtain ⟨ls, h1, h2⟩ := h
  exact ⟨ls, c.get0 h1, h2⟩
theorem LL.ch1 (h : LL H a m n) (c : Ch [p] H H') (ne : a ≠ p) : LL H' a m n := by
  obtain ⟨ls, h1, h2⟩ := h
  exact ⟨ls, c.get1 h1 ne, h2⟩
theorem LL.ne (h : LL H a m n) (hp : H p = none) : a ≠ p := by
  obtain ⟨ls, h1, h2⟩ := h
  exact ne_of_none h1 hp
theorem LL.one {z : Str} (h : H a = some (.lst [.str z])) (hz : LnOk m z) : LL H a m 1 := ⟨[z], h, Nat.le_refl _, fun y hy => by rw [List.mem_singleton.mp hy]; exact hz⟩
theorem LL.two {z y : Str} (h : H a = some (.lst [.str z, .str y])) (hz : LnOk m z) (hy : LnOk m y) : LL H a m 2 := ⟨[z, y], h, Nat.le_refl _, fun x hx => by
  rcases List.mem_cons.mp hx with e | e
  · rw [e]; exact hz
  · rw [List.mem_singleton.mp e]; exact hy⟩
theorem LL.three {z y x : Str} (h : H a = some (.lst [.str z, .str y, .str x])) (hz : LnOk m z) (hy : LnOk m y) (hx : LnOk m x) : LL H a m 3 := ⟨[z, y, x], h, Nat.le_refl _, fun w hw => by
  rcases List.mem_cons.mp hw with e | e
  · rw [e]; exact hz
  rcases List.mem_cons.mp e with e | e
  · rw [e]; exact hy
  · rw [List.mem_singleton.mp e]; exact hx⟩
theorem LL.up {m' n' : Nat} (h : LL H a m n) (h1 : m ≤ m') (h2 : n ≤ n') : LL H a m' n' := by
  obtain ⟨ls, q1, q2, q3⟩ := h
  exact ⟨ls, q1, Nat.le_trans q2 h2, fun z hz => (q3 z hz).mono h1⟩
theorem x_addLL (ha : LL H a m n) (hb : LL H b m k) (hz : n + k ≤ 1000) (q : ∀ p H', H p = none → LL H' p m (n + k) → Ch [] H H' → Q (.ref p) H') : rAdd K (.ref a) (.ref b) H Q := by
  obtain ⟨ls, h1, h2, h3⟩ := ha
  obtain ⟨ks, g1, g2, g3⟩ := hb
  refine x_addL h1 g1 (sz_of (by rw [List.length_map, List.length_map]; omega)) fun p H' hp h' c => q p H' hp ⟨ls ++ ks, by rw [h', List.map_append], by rw [List.length_append]; omega, fun z hz => ?_⟩ c
  rcases List.mem_append.mp hz with e | e
  · exact h3 z e
  · exact g3 z e
theorem x_slLo (ha : LL H a m n) (e : i = (k : Int)) (q : ∀ p H', H p = none → LL H' p m k → Ch [] H H' → Q (.ref p) H') : rSlU K (.ref a) none (some i) H Q := by
  obtain ⟨ls, h1, h2, h3⟩ := ha
  subst e
  refine x_slL (SqL.of h1) fun p H' hp h' c => q p H' hp ⟨ls.take k, ?_, by rw [List.length_take]; omega, fun z hz => h3 z (List.mem_of_mem_take hz)⟩ c
  rw [h']
  unfold cutV
  rw [HT.sIx_nat, HT.sIx_none, List.drop_zero, Nat.sub_zero, List.map_take]
  by_cases hk : k ≤ (ls.map V.str).length
  · rw [Nat.min_eq_left hk]
  · rw [Nat.min_eq_right (by omega), List.take_length, List.take_of_length_le (by omega)]
theorem x_slHi (ha : LL H a m n) (e : i = (k : Int)) (q : ∀ p H', H p = none → LL H' p m (n - k) → Ch [] H H' → Q (.ref p) H') : rSlU K (.ref a) (some i) none H Q := by
  obtain ⟨ls, h1, h2, h3⟩ := ha
  subst e
  refine x_slL (SqL.of h1) fun p H' hp h' c => q p H' hp ⟨ls.drop k, ?_, by rw [List.length_drop]; omega, fun z hz => h3 z (List.mem_of_mem_drop hz)⟩ c
  rw [h', cutV_up', List.map_drop]
theorem x_slMi (ha : LL H a m n) (e : i = (k : Int)) (e2 : i2 = (j : Int)) (q : ∀ p H', H p = none → LL H' p m (j - k) → Ch [] H H' → Q (.ref p) H') : rSlU K (.ref a) (some i) (some i2) H Q := by
  obtain ⟨ls, h1, h2, h3⟩ := ha
  subst e e2
  refine x_slL (SqL.of h1) fun p H' hp h' c => q p H' hp ⟨(ls.drop (min k ls.length)).take (min j ls.length - min k ls.length), ?_, by rw [List.length_take, List.length_drop]; omega, fun z hz => h3 z (List.mem_of_mem_drop (List.mem_of_mem_take hz))⟩ c
  rw [h', cutV_mid, List.length_map, List.map_take, List.map_drop]
theorem flat_rep (k : Nat) (ls : List Str) : (List.replicate k (ls.map V.str)).flatten = ((List.replicate k ls).flatten).map V.str := by
  rw [List.map_flatten, List.map_replicate]
theorem len_rep (k : Nat) (ls : List Str) : ((List.replicate k ls).flatten).length = k * ls.length := by
  induction k with
  | zero => simp
  | succ k ih => rw [List.replicate_succ, List.flatten_cons, List.length_append, ih, Nat.succ_mul]; omega
theorem x_repLL (ha : LL H a m n) (e : i = (k : Int)) (hk : k ≤ 100) (hn : n ≤ 100) (q : ∀ p H', H p = none → LL H' p m (k * n) → Ch [] H H' → Q (.ref p) H') : rRep (.ref a) (.int i) H Q := by
  obtain ⟨ls, h1, h2, h3⟩ := ha
  subst e
  have hm : ls.length * k ≤ 100 * 100 := Nat.mul_le_mul (by omega) hk
  refine x_rep h1 (by omega) (by omega) (sz_of (by rw [List.length_map, Int.toNat_natCast]; omega)) fun p H' hp h' c => q p H' hp ⟨(List.replicate k ls).flatten, ?_, ?_, fun z hz => ?_⟩ c
  · rw [h', Int.toNat_natCast, flat_rep]
  · rw [len_rep]
    exact Nat.mul_le_mul (Nat.le_refl _) h2
  · obtain ⟨l, hl, hz⟩ := List.mem_flatten.mp hz
    rw [List.eq_of_mem_replicate hl] at hz
    exact h3 z hz
end
def sp__law_spoilt : Sp := fun vs H Q E => ∃ (p c l nl : Addr) (ls names : List Str) (m : Nat), vs = [.ref p, .ref l, .ref nl] ∧ Pl H p c ∧ H l = some (.lst (ls.map V.str)) ∧ ls ≠ [] ∧ ls.length ≤ 300 ∧ 17 ≤ m ∧ m ≤ 50 ∧ (∀ z ∈ ls, LnOk m z) ∧ H nl = some (.lst (names.map V.str)) ∧ names ≠ [] ∧ (∀ z ∈ names, IsName z) ∧
  ∀ (l2 : Addr) (ls2 : List Str) H', H' l2 = some (.lst (ls2.map V.str)) → ls2.length ≤ ls.length + 8 → (∀ z ∈ ls2, LnOk (m + 1) z) → Pl H' p c → Ch [p] H H' → Q (.ref l2) H'
section
variable {P : Program} {w : World} {K : PySem.W.Frag} {mg : Str → Option Value} {base : Heap}
theorem ok__law_spoilt (T : Txt w K mg)  : FD P w K mg base CX0 5 (He.ga K "_law_spoilt") ["pool", "lines", "names"] sp__law_spoilt := by
  refine FD.mk0 T.f__law_spoilt sc__law_spoilt (fun vs H Q E h => ?_) (fun _ _ _ _ _ _ us hl => match us, hl with | [_, _, _], _ => rfl) (fun cdv A outer s H vs Q E hr h => ⟨_, (pss_cons (ps_set (i := 3) sc__law_spoilt.nd rfl (.inl rfl) (pe_callD (ok__law_draw T) hr (by first | decide | omega) (by rfl) T.g__law_draw pass0 (pa_cons (pv 0) (pa_cons (pe_callB c_len (by rfl) T.n_len bb_len (pa_cons (pv 1) pa_nil)) pa_nil))))
  (pss_cons (ps_set (i := 4) sc__law_spoilt.nd rfl (.inl rfl) (pe_callD (ok__law_draw T) hr (by first | decide | omega) (by rfl) T.g__law_draw pass0 (pa_cons (pv 0) (pa_cons pe_int pa_nil))))
  (pss_cons (ps_set (i := 5) sc__law_spoilt.nd rfl (.inl rfl) (pe_ix ix_seq (pv 1) (pv 3) (by intro _ _; rfl)))
  (pss_cons (ps_set (i := 6) sc__law_spoilt.nd rfl (.inl rfl) (pe_callD (ok__law_draw T) hr (by first | decide | omega) (by rfl) T.g__law_draw pass0 (pa_cons (pv 0) (pa_cons (pe_op u_add (pe_callB c_len (by rfl) T.n_len bb_len (pa_cons (pv 5) pa_nil)) pe_int) pa_nil))))
  (pss_cons (ps_if (pt_cmpR (u_eq (hu64 hr)) (pv 4) pe_int (nomark _)) (pss_one (ps_ret (pe_op u_add (pe_slice u_slice (pv 1) po_none (po_some (pv 3))) (pe_slice u_slice (pv 1) (po_some (pe_op u_add (pv 3) pe_int)) po_none)))) pss_nil)
  (pss_cons (ps_if (pt_cmpR (u_eq (hu64 hr)) (pv 4) pe_int (nomark _)) (pss_one (ps_ret (pe_op u_add (pe_op u_add (pe_slice u_slice (pv 1) po_none (po_some (pv 3))) (pe_lst (pa_cons (pv 5) pa_nil))) (pe_slice u_slice (pv 1) (po_some (pv 3)) po_none)))) pss_nil)
  (pss_cons (ps_if (pt_cmpR (u_eq (hu64 hr)) (pv 4) pe_int (nomark _)) (pss_one (ps_ret (pe_op u_add (pe_op u_add (pe_op u_add (pe_slice u_slice (pv 1) po_none (po_some (pv 3))) (pe_slice u_slice (pv 1) (po_some (pe_op u_add (pv 3) pe_int)) (po_some (pe_op u_add (pv 3) pe_int)))) (pe_lst (pa_cons (pv 5) pa_nil))) (pe_slice u_slice (pv 1) (po_some (pe_op u_add (pv 3) pe_int)) po_none)))) pss_nil)
  (pss_cons (ps_if (pt_cmpR (u_eq (hu64 hr)) (pv 4) pe_int (nomark _)) (pss_one (ps_ret (pe_op u_add (pe_op u_add (pe_slice u_slice (pv 1) po_none (po_some (pv 3))) (pe_lst (pa_cons (pe_op u_add (pe_op u_add (pe_slice u_slice (pv 5) po_none (po_some (pv 6))) (pe_ix ix_seq (pe_lst (pa_cons pe_str (pa_cons pe_str (pa_cons pe_str (pa_cons pe_str pa_nil))))) (pe_callD (ok__law_draw T) hr (by first | decide | omega) (by rfl) T.g__law_draw pass0 (pa_cons (pv 0) (pa_cons pe_int pa_nil))) (by intro _ _; rfl))) (pe_slice u_slice (pv 5) (po_some (pv 6)) po_none)) pa_nil))) (pe_slice u_slice (pv 1) (po_some (pe_op u_add (pv 3) pe_int)) po_none)))) pss_nil)
  (pss_cons (ps_if (pt_cmpR u_lt (pv 4) pe_int (nomark _)) (pss_cons (ps_set (i := 7) sc__law_spoilt.nd rfl (.inl rfl) (pe_ix ix_seq (pe_lst (pa_cons (pe_lst (pa_cons (pe_op u_add pe_str (pe_callD (ok__law_name T) hr (by first | decide | omega) (by rfl) T.g__law_name pass0 (pa_cons (pv 0) pa_nil))) pa_nil)) (pa_cons (pe_lst (pa_cons pe_str pa_nil)) (pa_cons (pe_lst (pa_cons pe_str (pa_cons pe_str pa_nil))) (pa_cons (pe_lst (pa_cons pe_str (pa_cons (pe_op u_add pe_str (pe_ix ix_seq (pv 2) pe_int (by intro _ _; rfl))) (pa_cons pe_str pa_nil)))) pa_nil))))) (pe_op u_sub (pv 4) pe_int) (by intro _ _; rfl)))
  (pss_one (ps_ret (pe_op u_add (pe_op u_add (pe_slice u_slice (pv 1) po_none (po_some (pv 3))) (pv 7)) (pe_slice u_slice (pv 1) (po_some (pv 3)) po_none))))) pss_nil)
  (pss_cons (ps_if (pt_cmpR (u_eq (hu64 hr)) (pv 4) pe_int (nomark _)) (pss_one (ps_ret (pe_op u_add (pe_op u_add (pe_op u_add (pe_op u_add (pe_slice u_slice (pv 1) po_none (po_some (pv 3))) (pe_op u_mulL (pe_lst (pa_cons pe_str pa_nil)) pe_int)) (pe_lst (pa_cons (pe_op u_add pe_str (pe_ix ix_seq (pv 2) pe_int (by intro _ _; rfl))) pa_nil))) (pe_op u_mulL (pe_lst (pa_cons pe_str pa_nil)) pe_int)) (pe_slice u_slice (pv 1) (po_some (pv 3)) po_none)))) pss_nil)
  (pss_cons (ps_if (pt_cmpR (u_eq (hu64 hr)) (pv 4) pe_int (nomark _)) (pss_one (ps_ret (pe_op u_add (pe_op u_add (pe_op u_add (pe_op u_add (pe_slice u_slice (pv 1) po_none (po_some (pv 3))) (pe_lst (pa_cons pe_str pa_nil))) (pe_op u_mulL (pe_lst (pa_cons (pe_op u_add pe_str (pe_ix ix_seq (pv 2) pe_int (by intro _ _; rfl))) pa_nil)) (pe_op u_add pe_int (pe_callD (ok__law_draw T) hr (by first | decide | omega) (by rfl) T.g__law_draw pass0 (pa_cons (pv 0) (pa_cons pe_int pa_nil)))))) (pe_lst (pa_cons pe_str pa_nil))) (pe_slice u_slice (pv 1) (po_some (pv 3)) po_none)))) pss_nil)
  (pss_cons (ps_if (pt_cmpR (u_eq (hu64 hr)) (pv 4) pe_int (nomark _)) (pss_one (ps_ret (pe_slice u_slice (pv 1) po_none (po_some (pe_op u_add (pv 3) pe_int))))) pss_nil)
  (pss_cons (ps_if (pt_cmpR (u_eq (hu64 hr)) (pv 4) pe_int (nomark _)) (pss_one (ps_ret (pe_op u_add (pe_op u_add (pe_slice u_slice (pv 1) po_none (po_some (pv 3))) (pe_lst (pa_cons (pe_ix ix_seq (pe_lst (pa_cons pe_str (pa_cons pe_str (pa_cons pe_str (pa_cons pe_str (pa_cons pe_str (pa_cons pe_str pa_nil))))))) (pe_callD (ok__law_draw T) hr (by first | decide | omega) (by rfl) T.g__law_draw pass0 (pa_cons (pv 0) (pa_cons pe_int pa_nil))) (by intro _ _; rfl)) pa_nil))) (pe_slice u_slice (pv 1) (po_some (pv 3)) po_none)))) pss_nil)
  (pss_one (ps_ret (pv 1)))))))))))))))), ?_⟩)
  · obtain ⟨p, c, l, nl, ls, names, m, rfl, _⟩ := h
    rfl
  · obtain ⟨p, c, l, nl, ls, names, m, rfl, hp, hl, hne, hlen, hm17, hm50, hok, hnl, hnn, hnm, kk⟩ := h
    walk_at "st"
    walk_at "rd"
    have nls : ∀ {x : Addr} {ys : List Str}, H x = some (.lst (ys.map V.str)) → x ≠ p := fun {x ys} h z => by
      obtain ⟨⟨_, _, _, _, e, _⟩, _⟩ := hp
      rw [z, e] at h
      have q := Option.some.inj h
      injection q with q
      cases ys with
      | nil => cases q
      | cons y ys =>
        rw [List.map_cons] at q
        injection q with q1 q2
        cases q1
    have nlp := nls hl
    have nnp := nls hnl
    have hl0 : 0 < ls.length := List.length_pos_iff.mpr hne
    obtain ⟨n0, hn0⟩ : ∃ n0, names[0]? = some n0 := by
      cases names with
      | nil => exact absurd rfl hnn
      | cons a b => exact ⟨a, rfl⟩
    have hn0n := hnm n0 (List.mem_of_getElem? hn0)
    have okb : ∀ {z : Str}, IsName z → LnOk 17 (Str.ofString "body " ++ z) := fun {z} hz => LnOk.app (a := 5) (b := 12) ⟨by decide +kernel, by decide +kernel⟩ ⟨hz.length, (name_okT hz).2⟩
    have szb : ∀ {z : Str}, IsName z → (Str.ofString "body ").length + z.length ≤ sizeLine := fun {z} hz => sz_of (by have := hz.length; rw [show (Str.ofString "body ").length = 5 by decide +kernel]; omega)
    have hn0V : (names.map V.str)[0]? = some (V.str n0) := by rw [List.getElem?_map, hn0]; rfl
    have fin : ∀ (l2 : Addr) (k : Nat) H', LL H' l2 (m + 1) k → k ≤ ls.length + 8 → Pl H' p c → Ch [p] H H' → Q (.ref l2) H' := fun l2 k H' h hk hp' hc => by
      obtain ⟨ls2, q1, q2, q3⟩ := h
      exact kk l2 ls2 H' q1 (by omega) q3 hp' hc
    refine use_draw hp (by rw [List.length_map]; omega) (by rw [List.length_map]; omega) fun d H1 d0 d1 hp1 c1 => ?_
    obtain ⟨a, rfl⟩ : ∃ a : Nat, d = a := ⟨d.toNat, by omega⟩
    have ha : a < ls.length := by rw [List.length_map] at d1; omega
    walk_at "rd"
    refine use_draw hp1 (by decide) (by decide) fun ch H2 ch0 ch1 hp2 c2 => ?_
    have c02 := c1.seq c2
    obtain ⟨z, hz⟩ : ∃ z, ls[a]? = some z := ⟨_, List.getElem?_eq_getElem ha⟩
    have hzk := hok z (List.mem_of_getElem? hz)
    have hz1 : z.length ≤ m := hzk.1
    have hzs : z.length ≤ sizeLine := sz_of (by omega)
    walk_at "rd"
    refine x_ixL (SqL.of (c02.get1 hl nlp)) (k := a) rfl (by rw [List.getElem?_map, hz]; rfl) ?_
    walk_at "rd"
    refine use_draw hp2 (by omega) (by omega) fun cu H3 cu0 cu1 hp3 c3 => ?_
    obtain ⟨u, rfl⟩ : ∃ u : Nat, cu = u := ⟨cu.toNat, by omega⟩
    have c03 := c02.seq c3
    have hL0 : LL H l (m + 1) ls.length := ⟨ls, hl, Nat.le_refl _, fun z hz => (hok z hz).mono (by omega)⟩
    have hL : LL H3 l (m + 1) ls.length := hL0.ch1 c03 nlp
    have hN := c03.get1 hnl nnp
    walk_at "rd"
    refine ite_by (fun e0 => ?_) (fun e0 => ?_)
    · walk_at "rd"
      refine x_slLo hL rfl fun a1 H4 ha1 h4 c4 => ?_
      walk_at "rd"
      refine x_slHi (k := a + 1) (hL.ch0 c4) (by omega) fun a2 H5 ha2 h5 c5 => ?_
      refine x_addLL (h4.ch0 c5) h5 (by omega) fun a3 H6 ha3 h6 c6 => ?_
      exact fin a3 _ H6 h6 (by omega) (hp3.ch0 ((c4.nilL c5).nilL c6)) (c03.nilR ((c4.nilL c5).nilL c6))
    walk_at "rd"
    refine ite_by (fun e1 => ?_) (fun e1 => ?_)
    · walk_at "rd"
      refine x_slLo hL rfl fun a1 H4 ha1 h4 c4 => ?_
      walk_at "rd"
      refine nL fun a2 H5 ha2 h5 c5 => ?_
      have g5 := LL.one h5 (hzk.mono (Nat.le_succ m))
      refine x_addLL (h4.ch0 c5) g5 (by omega) fun a3 H6 ha3 h6 c6 => ?_
      walk_at "rd"
      refine x_slHi (k := a) (((hL.ch0 c4).ch0 c5).ch0 c6) rfl fun a4 H7 ha4 h7 c7 => ?_
      refine x_addLL (h6.ch0 c7) h7 (by omega) fun a5 H8 ha5 h8 c8 => ?_
      have cc := ((((c4.nilL c5).nilL c6).nilL c7).nilL c8)
      exact fin a5 _ H8 h8 (by omega) (hp3.ch0 cc) (c03.nilR cc)
    walk_at "rd"
    refine ite_by (fun e2 => ?_) (fun e2 => ?_)
    · walk_at "rd"
      refine x_slLo hL rfl fun a1 H4 ha1 h4 c4 => ?_
      walk_at "rd"
      refine x_slMi (k := a + 1) (j := a + 2) (hL.ch0 c4) (by omega) (by omega) fun a2 H5 ha2 h5 c5 => ?_
      refine x_addLL (h4.ch0 c5) h5 (by omega) fun a3 H6 ha3 h6 c6 => ?_
      walk_at "rd"
      refine nL fun a4 H7 ha4 h7 c7 => ?_
      refine x_addLL (h6.ch0 c7) (LL.one h7 (hzk.mono (Nat.le_succ m))) (by omega) fun a5 H8 ha5 h8 c8 => ?_
      walk_at "rd"
      refine x_slHi (k := a + 2) (((((hL.ch0 c4).ch0 c5).ch0 c6).ch0 c7).ch0 c8) (by omega) fun a6 H9 ha6 h9 c9 => ?_
      refine x_addLL (h8.ch0 c9) h9 (by omega) fun a7 H10 ha7 h10 c10 => ?_
      have cc := ((((((c4.nilL c5).nilL c6).nilL c7).nilL c8).nilL c9).nilL c10)
      exact fin a7 _ H10 h10 (by omega) (hp3.ch0 cc) (c03.nilR cc)
    walk_at "rd"
    refine ite_by (fun e3 => ?_) (fun e3 => ?_)
    · walk_at "rd"
      refine x_slLo hL rfl fun a1 H4 ha1 h4 c4 => ?_
      walk_at "rd"
      refine x_slS (sz_of (by omega)) ?_
      walk_at "rd"
      refine nL fun a2 H5 ha2 h5 c5 => ?_
      walk_at "rd"
      refine use_draw ((hp3.ch0 c4).ch0 c5) (by decide) (by decide) fun f H6 f0 f1 hp6 c6 => ?_
      have n1p : a1 ≠ p := fun z => by
        obtain ⟨⟨_, _, _, _, e, _⟩, _⟩ := hp3
        rw [z, e] at ha1
        cases ha1
      have n2p : a2 ≠ p := fun z => by
        obtain ⟨⟨_, _, _, _, e, _⟩, _⟩ := hp3.ch0 c4
        rw [z, e] at ha2
        cases ha2
      obtain ⟨s, hs1, hs2⟩ : ∃ s, LnOk 1 s ∧ [V.str (Str.ofString " "), V.str (Str.ofString "a"), V.str (Str.ofString "A"), V.str (Str.ofString "_")][f.toNat]? = some (V.str s) := by
        have : f = 0 ∨ f = 1 ∨ f = 2 ∨ f = 3 := by omega
        rcases this with rfl | rfl | rfl | rfl
        · exact ⟨Str.ofString " ", ⟨by decide +kernel, by decide +kernel⟩, rfl⟩
        · exact ⟨Str.ofString "a", ⟨by decide +kernel, by decide +kernel⟩, rfl⟩
        · exact ⟨Str.ofString "A", ⟨by decide +kernel, by decide +kernel⟩, rfl⟩
        · exact ⟨Str.ofString "_", ⟨by decide +kernel, by decide +kernel⟩, rfl⟩
      refine x_ixL (SqL.of (c6.get1 h5 n2p)) (k := f.toNat) (by omega) hs2 ?_
      have lo1 := cut_lo z u
      have hi1 := cut_hi z u
      have okc : LnOk (m + 1) ((cutS z none (some (u : Int)) ++ s) ++ cutS z (some (u : Int)) none) := by
        refine ⟨?_, fun x hx => ?_⟩
        · have q1 := hs1.1
          rw [str_len] at q1 hz1
          rw [str_len, app_list, app_list, lo1, hi1, List.length_append, List.length_append, List.length_take, List.length_drop]
          omega
        · rw [app_list, app_list, lo1, hi1] at hx
          rcases List.mem_append.mp hx with q | q
          · rcases List.mem_append.mp q with q | q
            · exact hzk.2 x (List.mem_of_mem_take q)
            · exact hs1.2 x q
          · exact hzk.2 x (List.mem_of_mem_drop q)
      have hs1' : s.length ≤ 1 := hs1.1
      have lc1 : (cutS z none (some (u : Int))).length ≤ z.length := cutS_length _ _ _
      have lc2 : (cutS z (some (u : Int)) none).length ≤ z.length := cutS_length _ _ _
      refine x_addS (sz_of (by omega)) ?_
      walk_at "rd"
      refine x_slS (sz_of (by omega)) ?_
      refine x_addS (sz_of (by rw [str_len, app_list, List.length_append, ← str_len, ← str_len]; omega)) ?_
      walk_at "rd"
      refine nL fun a3 H7 ha3 h7 c7 => ?_
      refine x_addLL (((h4.ch0 c5).ch1 c6 n1p).ch0 c7) (LL.one h7 okc) (by omega) fun a4 H8 ha4 h8 c8 => ?_
      have c38 : Ch [p] H3 H8 := (((c4.nilL c5).nilL c6).nilR c7).nilR c8
      walk_at "rd"
      refine x_slHi (k := a + 1) (hL.ch1 c38 nlp) (by omega) fun a5 H9 ha5 h9 c9 => ?_
      refine x_addLL (h8.ch0 c9) h9 (by omega) fun a6 H10 ha6 h10 c10 => ?_
      exact fin a6 _ H10 h10 (by omega) (hp6.ch0 (((c7.nilL c8).nilL c9).nilL c10)) ((c03.seq c38).nilR (c9.nilL c10))
    walk_at "rd"
    refine ite_by (fun e4 => ?_) (fun e4 => ?_)
    · walk_at "rd"
      refine use_name hp3 fun y H4 hy hp4 c4 => ?_
      refine x_addS (szb hy) ?_
      walk_at "rd"
      refine nL fun b1 H5 hb1 h5 c5 => ?_
      walk_at "rd"
      refine nL fun b2 H6 hb2 h6 c6 => ?_
      walk_at "rd"
      refine nL fun b3 H7 hb3 h7 c7 => ?_
      have hN7 := ((c5.nilL c6).nilL c7).get0 (c4.get1 hN nnp)
      walk_at "rd"
      refine x_ixL (SqL.of hN7) (k := 0) rfl hn0V ?_
      refine x_addS (szb hn0n) ?_
      walk_at "rd"
      refine nL fun b4 H8 hb4 h8 c8 => ?_
      walk_at "rd"
      refine nL fun b5 H9 hb5 h9 c9 => ?_
      obtain ⟨mo, k, hmo, hk, hmx⟩ : ∃ (mo : Addr) (k : Nat), LL H9 mo (m + 1) k ∧ k ≤ 3 ∧ [V.ref b1, V.ref b2, V.ref b3, V.ref b4][(ch - 4).toNat]? = some (V.ref mo) := by
        have : ch = 4 ∨ ch = 5 ∨ ch = 6 ∨ ch = 7 := by omega
        rcases this with rfl | rfl | rfl | rfl
        · exact ⟨b1, 1, (LL.one h5 ((okb hy).mono (by omega))).ch0 (((c6.nilL c7).nilL c8).nilL c9), by decide, rfl⟩
        · exact ⟨b2, 1, (LL.one h6 (LnOk.mono (m := 3) ⟨by decide +kernel, by decide +kernel⟩ (by omega))).ch0 ((c7.nilL c8).nilL c9), by decide, rfl⟩
        · exact ⟨b3, 2, (LL.two h7 (LnOk.mono (m := 12) ⟨by decide +kernel, by decide +kernel⟩ (by omega)) (LnOk.mono (m := 3) ⟨by decide +kernel, by decide +kernel⟩ (by omega))).ch0 (c8.nilL c9), by decide, rfl⟩
        · exact ⟨b4, 3, (LL.three h8 (LnOk.mono (m := 11) ⟨by decide +kernel, by decide +kernel⟩ (by omega)) ((okb hn0n).mono (by omega)) (LnOk.mono (m := 3) ⟨by decide +kernel, by decide +kernel⟩ (by omega))).ch0 c9, by decide, rfl⟩
      walk_at "rd"
      refine x_ixL (SqL.of h9) (k := (ch - 4).toNat) (by omega) hmx ?_
      walk_at "rd"
      have c49 : Ch [] H4 H9 := (((c5.nilL c6).nilL c7).nilL c8).nilL c9
      have hL9 := (hL.ch1 c4 nlp).ch0 c49
      refine x_slLo hL9 rfl fun a1 H10 ha1 h10 c10 => ?_
      walk_at "rd"
      refine x_addLL h10 (hmo.ch0 c10) (by omega) fun a2 H11 ha2 h11 c11 => ?_
      walk_at "rd"
      refine x_slHi (k := a) ((hL9.ch0 c10).ch0 c11) rfl fun a3 H12 ha3 h12 c12 => ?_
      refine x_addLL (h11.ch0 c12) h12 (by omega) fun a4 H13 ha4 h13 c13 => ?_
      have cc := (((c49.nilL c10).nilL c11).nilL c12).nilL c13
      exact fin a4 _ H13 h13 (by omega) (hp4.ch0 cc) ((c03.seq c4).nilR cc)
    walk_at "rd"
    refine ite_by (fun e8 => ?_) (fun e8 => ?_)
    · walk_at "rd"
      refine x_slLo hL rfl fun a1 H4 ha1 h4 c4 => ?_
      walk_at "rd"
      refine nL fun b1 H5 hb1 h5 c5 => ?_
      walk_at "rd"
      refine x_repLL (k := 3) (LL.one h5 (LnOk.mono (m := 13) ⟨by decide +kernel, by decide +kernel⟩ (by omega : 13 ≤ m + 1))) rfl (by decide) (by decide) fun b2 H6 hb2 h6 c6 => ?_
      refine x_addLL ((h4.ch0 c5).ch0 c6) h6 (by omega) fun a2 H7 ha2 h7 c7 => ?_
      have c37 := ((c4.nilL c5).nilL c6).nilL c7
      walk_at "rd"
      refine x_ixL (SqL.of (c37.get0 hN)) (k := 0) rfl hn0V ?_
      refine x_addS (szb hn0n) ?_
      walk_at "rd"
      refine nL fun b3 H8 hb3 h8 c8 => ?_
      refine x_addLL (h7.ch0 c8) (LL.one h8 ((okb hn0n).mono (by omega))) (by omega) fun a3 H9 ha3 h9 c9 => ?_
      walk_at "rd"
      refine nL fun b4 H10 hb4 h10 c10 => ?_
      walk_at "rd"
      refine x_repLL (k := 3) (LL.one h10 (LnOk.mono (m := 3) ⟨by decide +kernel, by decide +kernel⟩ (by omega : 3 ≤ m + 1))) rfl (by decide) (by decide) fun b5 H11 hb5 h11 c11 => ?_
      refine x_addLL ((h9.ch0 c10).ch0 c11) h11 (by omega) fun a4 H12 ha4 h12 c12 => ?_
      have c312 := ((((c37.nilL c8).nilL c9).nilL c10).nilL c11).nilL c12
      walk_at "rd"
      refine x_slHi (k := a) (hL.ch0 c312) rfl fun a5 H13 ha5 h13 c13 => ?_
      refine x_addLL (h12.ch0 c13) h13 (by omega) fun a6 H14 ha6 h14 c14 => ?_
      have cc := (c312.nilL c13).nilL c14
      exact fin a6 _ H14 h14 (by omega) (hp3.ch0 cc) (c03.nilR cc)
    walk_at "rd"
    refine ite_by (fun e9 => ?_) (fun e9 => ?_)
    · walk_at "rd"
      refine x_slLo hL rfl fun a1 H4 ha1 h4 c4 => ?_
      walk_at "rd"
      refine nL fun b1 H5 hb1 h5 c5 => ?_
      refine x_addLL (h4.ch0 c5) (LL.one h5 (LnOk.mono (m := 12) ⟨by decide +kernel, by decide +kernel⟩ (by omega))) (by omega) fun a2 H6 ha2 h6 c6 => ?_
      have c36 := (c4.nilL c5).nilL c6
      walk_at "rd"
      refine x_ixL (SqL.of (c36.get0 hN)) (k := 0) rfl hn0V ?_
      refine x_addS (szb hn0n) ?_
      walk_at "rd"
      refine nL fun b2 H7 hb2 h7 c7 => ?_
      walk_at "rd"
      have hp7 := (hp3.ch0 c36).ch0 c7
      refine use_draw hp7 (by decide) (by decide) fun f H8 f0 f1 hp8 c8 => ?_
      have np2 : a2 ≠ p := fun z => by
        obtain ⟨⟨_, _, _, _, e, _⟩, _⟩ := hp3.ch0 (c4.nilL c5)
        rw [z, e] at ha2
        cases ha2
      have np3 : b2 ≠ p := fun z => by
        obtain ⟨⟨_, _, _, _, e, _⟩, _⟩ := hp3.ch0 c36
        rw [z, e] at hb2
        cases hb2
      have g7 : LL H7 b2 (m + 1) 1 := LL.one h7 ((okb hn0n).mono (by omega))
      walk_at "rd"
      refine x_repLL (k := (3 + f).toNat) (g7.ch1 c8 np3) (by omega) (by omega) (by decide) fun b3 H9 hb3 h9 c9 => ?_
      refine x_addLL (((h6.ch0 c7).ch1 c8 np2).ch0 c9) (h9.up (Nat.le_refl _) (show (3 + f).toNat * 1 ≤ 5 by omega)) (by omega) fun a3 H10 ha3 h10 c10 => ?_
      walk_at "rd"
      refine nL fun b4 H11 hb4 h11 c11 => ?_
      refine x_addLL (h10.ch0 c11) (LL.one h11 (LnOk.mono (m := 3) ⟨by decide +kernel, by decide +kernel⟩ (by omega))) (by omega) fun a4 H12 ha4 h12 c12 => ?_
      have c812 := ((c9.nilL c10).nilL c11).nilL c12
      have c312 : Ch [p] H3 H12 := ((c36.nilL c7).nilL c8).nilR c812
      walk_at "rd"
      refine x_slHi (k := a) (hL.ch1 c312 nlp) rfl fun a5 H13 ha5 h13 c13 => ?_
      refine x_addLL (h12.ch0 c13) h13 (by omega) fun a6 H14 ha6 h14 c14 => ?_
      exact fin a6 _ H14 h14 (by omega) (hp8.ch0 ((c812.nilL c13).nilL c14)) ((c03.seq c312).nilR (c13.nilL c14))
    walk_at "rd"
    refine ite_by (fun e10 => ?_) (fun e10 => ?_)
    · walk_at "rd"
      refine x_slLo (k := a + 1) hL (by omega) fun a1 H4 ha1 h4 c4 => ?_
      exact fin a1 _ H4 h4 (by omega) (hp3.ch0 c4) (c03.nilR c4)
    walk_at "rd"
    refine ite_by (fun e11 => ?_) (fun e11 => ?_)
    · walk_at "rd"
      refine x_slLo hL rfl fun a1 H4 ha1 h4 c4 => ?_
      walk_at "rd"
      refine nL fun a2 H5 ha2 h5 c5 => ?_
      walk_at "rd"
      refine use_draw ((hp3.ch0 c4).ch0 c5) (by decide) (by decide) fun f H6 f0 f1 hp6 c6 => ?_
      have n1p : a1 ≠ p := fun z => by
        obtain ⟨⟨_, _, _, _, e, _⟩, _⟩ := hp3
        rw [z, e] at ha1
        cases ha1
      have n2p : a2 ≠ p := fun z => by
        obtain ⟨⟨_, _, _, _, e, _⟩, _⟩ := hp3.ch0 c4
        rw [z, e] at ha2
        cases ha2
      obtain ⟨s, hs1, hs2⟩ : ∃ s, LnOk 13 s ∧ [V.str (Str.ofString ""), V.str (Str.ofString "nursery"), V.str (Str.ofString "nursery every"), V.str (Str.ofString "body"), V.str (Str.ofString "end end"), V.str (Str.ofString "strike a")][f.toNat]? = some (V.str s) := by
        have : f = 0 ∨ f = 1 ∨ f = 2 ∨ f = 3 ∨ f = 4 ∨ f = 5 := by omega
        rcases this with rfl | rfl | rfl | rfl | rfl | rfl
        · exact ⟨Str.ofString "", ⟨by decide +kernel, by decide +kernel⟩, rfl⟩
        · exact ⟨Str.ofString "nursery", ⟨by decide +kernel, by decide +kernel⟩, rfl⟩
        · exact ⟨Str.ofString "nursery every", ⟨by decide +kernel, by decide +kernel⟩, rfl⟩
        · exact ⟨Str.ofString "body", ⟨by decide +kernel, by decide +kernel⟩, rfl⟩
        · exact ⟨Str.ofString "end end", ⟨by decide +kernel, by decide +kernel⟩, rfl⟩
        · exact ⟨Str.ofString "strike a", ⟨by decide +kernel, by decide +kernel⟩, rfl⟩
      refine x_ixL (SqL.of (c6.get1 h5 n2p)) (k := f.toNat) (by omega) hs2 ?_
      walk_at "rd"
      refine nL fun a3 H7 ha3 h7 c7 => ?_
      refine x_addLL (((h4.ch0 c5).ch1 c6 n1p).ch0 c7) (LL.one h7 (hs1.mono (by omega))) (by omega) fun a4 H8 ha4 h8 c8 => ?_
      have c38 : Ch [p] H3 H8 := (((c4.nilL c5).nilL c6).nilR c7).nilR c8
      walk_at "rd"
      refine x_slHi (k := a) (hL.ch1 c38 nlp) rfl fun a5 H9 ha5 h9 c9 => ?_
      refine x_addLL (h8.ch0 c9) h9 (by omega) fun a6 H10 ha6 h10 c10 => ?_
      exact fin a6 _ H10 h10 (by omega) (hp6.ch0 (((c7.nilL c8).nilL c9).nilL c10)) ((c03.seq c38).nilR (c9.nilL c10))
    walk_at "rd"
    exact fin l _ H3 hL (by omega) hp3 c03
end
theorem u_sliceE {X : Cx} {K : PySem.W.Frag} (hK : X.K = K) : SlR X (rSlU K) := by subst hK; exact u_slice
theorem x_xf {a : Addr} {cls : Value} {d : Option Addr} {C : Addr} {f : Str} {te : TE} {σ : L2.St} {H : Hp} {Q : VK} (h : te σ H fun x H1 => x = .ref a ∧ cls = .ref C ∧ ∃ (dd : Addr) (fs : List (Str × V)) (v : V), d = some dd ∧ H1 dd = some (.xd fs) ∧ fs.lookup f = some v ∧ Q v H1) : tXf a cls d C f te σ H Q := h
theorem KvOk.nil {K : PySem.W.Frag} {H : Hp} : KvOk K H [] [] := fun n => ⟨(fun h => nomatch h), fun _ => rfl⟩
section
variable {N H H' : Hp} {S : List Addr}
mutual
theorem ShV.monoL (c : Ch S H H') (n : ∀ x ∈ S, ∀ xs, H x ≠ some (.lst xs)) : ∀ (t : Sh) (v : V), ShV N H v t → ShV N H' v t
  | .num i, _, h => by cases h; exact .num
  | .nod r ms, _, h => by
    cases h with
    | nod n1 n2 h1 h2 h3 => exact .nod n1 n2 (c.st _ _ (fun m => n _ m _ h1) h1) (c.st _ _ (fun m => n _ m _ h2) h2) (ShA.monoL c n ms _ h3)
theorem ShA.monoL (c : Ch S H H') (n : ∀ x ∈ S, ∀ xs, H x ≠ some (.lst xs)) : ∀ (ts : List Sh) (vs : List V), ShA N H vs ts → ShA N H' vs ts
  | [], _, h => by cases h; exact .nil
  | t :: ts, _, h => by
    cases h with
    | cons h1 h2 => exact .cons (ShV.monoL c n t _ h1) (ShA.monoL c n ts _ h2)
end
theorem ShV.chL {v : V} {t : Sh} (h : ShV N H v t) (c : Ch S H H') (n : ∀ x ∈ S, ∀ xs, H x ≠ some (.lst xs)) : ShV N H' v t := ShV.monoL c n t v h
end
theorem x_st {ts : TS} {D : Ends} {σ σ' : L2.St} {H : Hp} (e : σ = σ') (h : ts D σ' H) : ts D σ H := by subst e; exact h
theorem sum_le {m : Nat} : ∀ ls : List Str, (∀ z ∈ ls, z.length ≤ m) → (ls.map (·.length)).sum ≤ ls.length * m
  | [], _ => Nat.zero_le _
  | z :: ls, h => by
    have := sum_le ls fun y hy => h y (List.mem_cons_of_mem _ hy)
    have h1 := h z (List.mem_cons_self ..)
    rw [List.map_cons, List.sum_cons, List.length_cons, Nat.succ_mul]
    omega
theorem joinL_le (S : List Nat) : ∀ ps : List (List Nat), (TL.joinL S ps).length ≤ (ps.map List.length).sum + ps.length * S.length
  | [] => Nat.zero_le _
  | [p] => by
    show p.length ≤ _
    simp
  | p :: q :: r => by
    show (p ++ (S ++ TL.joinL S (q :: r))).length ≤ _
    have := joinL_le S (q :: r)
    rw [List.length_append, List.length_append, List.map_cons, List.sum_cons, List.length_cons (a := p), Nat.succ_mul]
    omega
theorem join_le (y : Str) (ps : List Str) : (Txt.join y ps).length ≤ (ps.map (·.length)).sum + ps.length * y.length := by
  have h := joinL_le (tl y) (ps.map tl)
  rw [← tl_join, ← TL.join_eq, List.map_map, List.length_map, ← len_tl, ← len_tl] at h
  rw [show ps.map (fun z => z.length) = ps.map (List.length ∘ tl) from List.map_congr_left fun z _ => len_tl z]
  exact h
theorem bodyLs_app (a b : List Str) : bodyLs (a ++ b) = bodyLs a ++ bodyLs b := by
  unfold bodyLs
  rw [List.filter_append, List.map_append]
theorem ruleLs_app (a b : List Str) : ruleLs (a ++ b) = ruleLs a ++ ruleLs b := by
  unfold ruleLs
  rw [List.filter_append, List.map_append]
theorem bodyLs_len (a : List Str) : (bodyLs a).length ≤ a.length := by
  unfold bodyLs
  rw [List.length_map]
  exact List.length_filter_le _ _
theorem ruleLs_len (a : List Str) : (ruleLs a).length ≤ a.length := by
  unfold ruleLs
  rw [List.length_map]
  exact List.length_filter_le _ _
theorem BdA.get {K : PySem.W.Frag} {H : Hp} {vs : List V} {ns : List Str} (h : BdA K H vs ns) {i : Nat} {v : V} (e : vs[i]? = some v) : ∃ b n, v = .ref b ∧ ns[i]? = some n ∧ Bd K H b n := by
  induction h generalizing i with
  | nil => simp at e
  | cons h1 _ ih =>
    cases i with
    | zero => simp at e; exact ⟨_, _, e.symm, rfl, h1⟩
    | succ i => exact ih (by simpa using e)
theorem NuA.get {K : PySem.W.Frag} {H : Hp} {vs : List V} {rs : List Str} (h : NuA K H vs rs) {i : Nat} {v : V} (e : vs[i]? = some v) : ∃ (a dx s t p : Addr) (r : Str), v = .ref a ∧ rs[i]? = some r ∧ H a = some (.ins (He.ga K "Nursery") dx (nFs s r t p)) := by
  induction h generalizing i with
  | nil => simp at e
  | cons h1 _ ih =>
    cases i with
    | zero => simp at e; exact ⟨_, _, _, _, _, _, e.symm, rfl, h1⟩
    | succ i => exact ih (by simpa using e)
theorem Sm.strs {K : PySem.W.Frag} {H : Hp} {a b : Addr} {xs : List Str} (ha : H a = some (.lst (xs.map V.str))) (hb : H b = some (.lst (xs.map V.str))) (hl : xs.length ≤ 100000) : Sm K H 1 (.ref a) (.ref b) := by
  refine .inr ⟨a, b, _, _, rfl, rfl, .inr ⟨ha, hb⟩, rfl, by rw [List.length_map]; exact hl, fun i u v hu hv => ?_⟩
  rw [hu] at hv
  cases hv
  rw [List.getElem?_map] at hu
  cases e : xs[i]? with
  | none => rw [e] at hu; cases hu
  | some z => rw [e] at hu; cases hu; exact Sm.atm (.inr (.inr (.inr ⟨_, rfl⟩)))
def sp__law_pool (K : PySem.W.Frag) : Sp := fun vs H Q E => ∃ (a : Addr) (ns : List Int), vs = [.ref a] ∧ SqL K H a (ns.map V.int) ∧ ns.length ≤ 63 ∧ ∀ p c H', Pl H' p c → Ch [] H H' → Q (.ref p) H'
def sp_sameI : Sp := fun vs H Q E => ∃ i : Int, vs = [.int i, .int i] ∧ Q (.bl true) H
section
variable {P : Program} {w : World} {K : PySem.W.Frag} {mg : Str → Option Value} {base : Heap}
theorem ok__law_pool (T : Txt w K mg)  : FD P w K mg base CX0 1 (He.ga K "_law_pool") ["script"] (sp__law_pool K) := by
  refine FD.mk0 T.f__law_pool sc__law_pool (fun vs H Q E h => ?_) (fun _ _ _ _ _ _ us hl => match us, hl with | [_], _ => rfl) (fun cdv A outer s H vs Q E hr h => ⟨_, (pss_one (ps_ret (pe_lst (pa_cons (pe_callTy c_list (by rfl) T.n_list bb_list (pa_cons (pv 0) pa_nil)) (pa_cons pe_int (pa_cons pe_int (pa_cons pe_int (pa_cons pe_int pa_nil)))))))), ?_⟩)
  · obtain ⟨a, ns, rfl, _⟩ := h
    rfl
  · obtain ⟨a, ns, rfl, hq, hl, kk⟩ := h
    walk_at "st"
    walk_at "rd"
    refine x_listL hq fun c H1 hc hc1 c1 => ?_
    walk_at "rd"
    refine nL fun p H2 hp hp2 c2 => ?_
    exact kk p c H2 ⟨⟨0, 0, 0, 0, hp2, Int.le_refl 0⟩, ns, c2.get0 hc1, hl⟩ (c1.nilL c2)
theorem pin__law_same (T : Txt w K mg) : ∃ fd, FnP P w K mg base 3 (He.ga K "_law_same") fd ["actual", "expected"] sp_sameI ∧ Binds K fd ["actual", "expected"] [] := by
  refine fnP_of T.f__law_same sc__law_same (fun vs H Q E h => ?_) (fun _ _ _ _ _ _ us hl => match us, hl with | [_, _], _ => rfl) (fun cdv A outer s H vs Q E p hr h => ⟨_, (pss_cons (ps_if (pt_cmpR u_is (pv 1) pe_non (nomark _)) (pss_one (ps_ret (pe_cmpR u_is (pv 0) pe_non (nomark _)))) pss_nil)
  (pss_cons (ps_if (pt_val (pe_callB call_isi (by rfl) T.n_isinstance bb_isinstance (pa_cons (pv 1) (pa_cons (pe_bltn (v := .ty "bool") (by rfl) T.n_bool bb_bool rfl) pa_nil)))) (pss_one (ps_ret (pe_and (pe_callB call_isi (by rfl) T.n_isinstance bb_isinstance (pa_cons (pv 0) (pa_cons (pe_bltn (v := .ty "bool") (by rfl) T.n_bool bb_bool rfl) pa_nil))) (pe_one (pe_cmpR (u_eq (hu64H hr)) (pv 0) (pv 1) (nomark _)))))) pss_nil)
  (pss_cons (ps_if (pt_val (pe_callB call_isi (by rfl) T.n_isinstance bb_isinstance (pa_cons (pv 1) (pa_cons (pe_bltn (v := .ty "int") (by rfl) T.n_int bb_int rfl) pa_nil)))) (pss_one (ps_ret (pe_and (pe_callB call_isi (by rfl) T.n_isinstance bb_isinstance (pa_cons (pv 0) (pa_cons (pe_bltn (v := .ty "int") (by rfl) T.n_int bb_int rfl) pa_nil))) (pe_and (pe_not (pe_callB call_isi (by rfl) T.n_isinstance bb_isinstance (pa_cons (pv 0) (pa_cons (pe_bltn (v := .ty "bool") (by rfl) T.n_bool bb_bool rfl) pa_nil)))) (pe_one (pe_cmpR (u_eq (hu64H hr)) (pv 0) (pv 1) (nomark _))))))) pss_nil)
  pss_never))), ?_⟩)
  · obtain ⟨i, rfl, _⟩ := h
    rfl
  · obtain ⟨i, rfl, kk⟩ := h
    have e : decide (i = i) = true := decide_eq_true rfl
    walk_at "st"
    walk_at "rd"
    refine x_isInt (b := false) (by decide +kernel) ?_
    walk_at "rd"
    refine x_isInt (b := true) (by decide +kernel) ?_
    walk_at "rd"
    refine x_isInt (b := true) (by decide +kernel) ?_
    walk_at "rd"
    refine x_isInt (b := false) (by decide +kernel) ?_
    walk_at "rd"
    rw [e]
    exact kk
theorem ok_lawF (T : Txt w K mg) {fd : FuncData} (F : FunD K "law" "law" (defArgs s_law) (defBody s_law) (defScope s_law) [] [] (He.ga K "law") fd) : FnOk P w K mg base CX0 16 (He.ga K "law") fd ["script"] (sp_law K) := by
  obtain ⟨fdS, FS, BS⟩ := pin__law_same (P := P) (w := w) (base := base) T
  refine F.ok sc_law (fun vs H Q E h => ?_) fun cdv A outer s H vs Q E hr h => ?_
  · obtain ⟨a, ns, rfl, _⟩ := h
    rfl
  have key : ∃ t, PSs (cxOf CX0 P w K mg base N_law "law" (defScope s_law) (He.ga K "law") cdv A outer s H E).nox (defBody s_law) t ∧ t ⟨fun _ H' => Q .non H', Q, fun _ _ => False, fun _ _ => False⟩ (start N_law vs) H := by
    refine ⟨_, (pss_cons (ps_set (i := 1) sc_law.nd rfl (.inl rfl) (pe_callD (ok__law_pool T) hr (by first | decide | omega) (by rfl) T.g__law_pool pass0 (pa_cons (pv 0) pa_nil)))
  (pss_cons (ps_set (i := 2) sc_law.nd rfl (.inl rfl) (pe_lst (pa_cons pe_int (pa_cons pe_int pa_nil))))
  (pss_cons (ps_set (i := 3) sc_law.nd rfl (.inl rfl) (pe_callD (ok__law_shape T 2) hr (by first | decide | omega) (by rfl) T.g__law_shape pass0 (pa_cons (pv 1) (pa_cons pe_int (pa_cons (pv 2) pa_nil)))))
  (pss_cons (ps_set (i := 4) sc_law.nd rfl (.inl rfl) (pe_lst pa_nil))
  (pss_cons (ps_for PassesOwn.never rfl (pi_range1 (by rfl) T.n_range (pa_cons (pe_ix ix_seq (pv 2) pe_int (by intro _ _; rfl)) pa_nil)) (pg_name (i := 5) sc_law.nd rfl (.inl rfl)) (pss_one (ps_expr (pe_bm PySem.F.plainAttrs_list PySem.F.slot_list_append PySem.F.type_list_append mt_append (pv 4) (pa_cons (pe_callD (ok__law_fresh T) hr (by first | decide | omega) (by rfl) T.g__law_fresh pass0 (pa_cons (pv 1) (pa_cons (pv 4) pa_nil))) pa_nil)))))
  (pss_cons (ps_set (i := 6) sc_law.nd rfl (.inl rfl) (StX.pe_makeR T.mk_Desk (ok_Desk___init__ T).raw (hr.mono (by decide)) (by rfl) T.g_Desk pass0 (pa_cons (pe_makeR0 T.mk_Book (okB0 T) (hr.mono (by decide)) (by rfl) T.g_Book pass0) pa_nil)))
  (pss_cons (ps_for PassesOwn.never rfl (pi_list (pv 4)) (pg_name (i := 7) sc_law.nd rfl (.inl rfl)) (pss_one (ps_putO T.m_Desk___setitem__ T.ns_Desk (ok_Desk___setitem__ T).raw (hr.mono (by decide)) (E := E0) pass0 (pv 6) (pv 7) (StX.pe_makeR T.mk_Body (ok_Body___init__ T).raw (hr.mono (by decide)) (by rfl) T.g_Body pass0 (pa_cons (pe_makeR0 T.mk_Book (okB0 T) (hr.mono (by decide)) (by rfl) T.g_Book pass0) (pa_cons (pe_tup (pa_cons (pe_tup (pa_cons pe_str (pa_cons (pv 7) pa_nil))) pa_nil)) pa_nil))) (by rfl))))
  (pss_cons (ps_set (i := 8) sc_law.nd rfl (.inl rfl) (pe_op u_add (pe_lst (pa_cons pe_str pa_nil)) (pe_callD (ok__law_linesN T 3) hr (by first | decide | omega) (by rfl) T.g__law_lines pass0 (pa_cons (pv 3) (pa_cons (pv 4) pa_nil)))))
  (pss_cons (ps_for PassesOwn.never rfl (pi_range1 (by rfl) T.n_range (pa_cons (pe_op u_add pe_int (pe_callD (ok__law_draw T) hr (by first | decide | omega) (by rfl) T.g__law_draw pass0 (pa_cons (pv 1) (pa_cons pe_int pa_nil)))) pa_nil)) (pg_name (i := 9) sc_law.nd rfl (.inl rfl)) (pss_one (ps_if (pt_cmpR (u_ne (hu64 hr)) (pv 8) (pe_lst pa_nil) (nomark _)) (pss_one (ps_set (i := 8) sc_law.nd rfl (.inl rfl) (pe_callD (ok__law_spoilt T) hr (by first | decide | omega) (by rfl) T.g__law_spoilt pass0 (pa_cons (pv 1) (pa_cons (pv 8) (pa_cons (pv 4) pa_nil)))))) pss_nil)))
  (pss_cons (ps_if (pt_cmpR (u_eq (hu64 hr)) (pv 8) (pe_lst pa_nil) (nomark _)) (pss_one (ps_set (i := 8) sc_law.nd rfl (.inl rfl) (pe_lst (pa_cons pe_str pa_nil)))) pss_nil)
  (pss_cons (ps_set (i := 10) sc_law.nd rfl (.inl rfl) (pe_callD (ok__law_due T) hr (by first | decide | omega) (by rfl) T.g__law_due pass0 (pa_cons (pv 8) (pa_cons (pv 4) pa_nil))))
  (pss_cons (L2.ps_try_as (i := 12) rfl rfl sc_law.nd rfl rfl ⟨rfl, by decide, .inl T.g_BadLine⟩ takes0 (fun W pn xe tk _ => (pss_one (ps_set (i := 11) sc_law.nd rfl (.inl rfl) (pe_callT (ok_read_nursery T) (hr.mono (by decide)) (by rfl) T.g_read_nursery (fun σ => L2.passAt tk σ) (pa_cons (pv 6) (pa_cons (pe_bmE (K := K) (by rfl) PySem.F.plainAttrs_str PySem.F.slot_str_join PySem.F.type_str_join (mt_joinE (K := K) (by rfl)) pe_str (pa_cons (pv 8) pa_nil)) pa_nil))))))
  (fun a oe cls d pn hz hf => (pss_one (ps_ret (pe_and (pe_cmpR u_isnot (pv 10) pe_non (nomark _)) (pe_one (pe_callP (E := E0) FS (L2H.roomH_mark (hr.mono (by decide)) _) (List.mem_cons_self ..) (by rfl) T.g__law_same (ok__law_same (P := P) (w := w) (base := base) T).kp BS (pa_cons (pe_xf T.xf_BadLine T.nf_BadLine hz hf (pv 12)) (pa_cons (pe_ix (ix_seqE (K := K) (by rfl)) (pv 10) pe_int (by intro _ _; rfl)) pa_nil)))))))))
  (pss_cons (ps_setLc (i := 13) (own := [("line", 15)]) rfl sc_law.nd rfl rfl (sw_true rfl rfl rfl (by decide +kernel)) (pi_list (pv 8)) (blkOk_by (N := N_law) (sc := defScope s_law) (by decide +kernel)) (fun _ _ _ _ _ => (pg_name (i := 15) sc_law.nd rfl (.inl rfl))) (fun _ _ _ _ _ => (pts_one (pt_val (pe_bmE (K := K) (by rfl) PySem.F.plainAttrs_str PySem.F.slot_str_startswith PySem.F.type_str_startswith mt_sw (pe_bmE (K := K) (by rfl) PySem.F.plainAttrs_str PySem.F.slot_str_lstrip PySem.F.type_str_lstrip mt_lst (pv 15) (pa_cons pe_str pa_nil)) (pa_cons pe_str pa_nil))))) (fun _ _ _ _ _ => (pe_slice (u_sliceE (K := K) (by rfl)) (pe_bmE (K := K) (by rfl) PySem.F.plainAttrs_str PySem.F.slot_str_lstrip PySem.F.type_str_lstrip mt_lst (pv 15) (pa_cons pe_str pa_nil)) (po_some pe_int) po_none)))
  (pss_cons (ps_if (PW.pt (pw_or (pt_cmpR u_isnot (pv 10) pe_non (nomark _)) (pw_or1 (pt_not (pt_val (pe_callD (ok__law_same T) hr (by first | decide | omega) (by rfl) T.g__law_same pass0 (pa_cons (pe_lc (own := [("body", 17)]) rfl sc_law.nd (pi_list (pe_methD0 (pv 11) T.c_Nursery T.m_Nursery_bodies (ok_bodies T 4) (hr.mono (by decide)))) (blkOk_by (N := N_law) (sc := defScope s_law) (by decide +kernel)) (fun _ _ _ _ _ => (pg_name (i := 17) sc_law.nd rfl (.inl rfl))) (fun _ _ _ _ _ => pts_nil) (fun _ _ _ _ _ => (pe_ix (ix_seqE (K := K) (by rfl)) (pe_ix (ix_seqE (K := K) (by rfl)) (pe_fldE (K := K) (by rfl) (pv 17) (by rfl)) pe_int (by intro _ _; rfl)) pe_int (by intro _ _; rfl)))) (pa_cons (pv 13) pa_nil)))))))) (pss_one (ps_ret pe_bl)) pss_nil)
  (pss_cons (ps_setLc (i := 14) (own := [("line", 15)]) rfl sc_law.nd rfl rfl (sw_true rfl rfl rfl (by decide +kernel)) (pi_list (pv 8)) (blkOk_by (N := N_law) (sc := defScope s_law) (by decide +kernel)) (fun _ _ _ _ _ => (pg_name (i := 15) sc_law.nd rfl (.inl rfl))) (fun _ _ _ _ _ => (pts_one (pt_val (pe_bmE (K := K) (by rfl) PySem.F.plainAttrs_str PySem.F.slot_str_startswith PySem.F.type_str_startswith mt_sw (pe_bmE (K := K) (by rfl) PySem.F.plainAttrs_str PySem.F.slot_str_lstrip PySem.F.type_str_lstrip mt_lst (pv 15) (pa_cons pe_str pa_nil)) (pa_cons pe_str pa_nil))))) (fun _ _ _ _ _ => (pe_slice (u_sliceE (K := K) (by rfl)) (pe_bmE (K := K) (by rfl) PySem.F.plainAttrs_str PySem.F.slot_str_lstrip PySem.F.type_str_lstrip mt_lst (pv 15) (pa_cons pe_str pa_nil)) (po_some pe_int) po_none)))
  (pss_one (ps_ret (pe_callD (ok__law_same T) hr (by first | decide | omega) (by rfl) T.g__law_same pass0 (pa_cons (pe_lc (own := [("one", 16)]) rfl sc_law.nd (pi_list (pe_methD0 (pv 11) T.c_Nursery T.m_Nursery_inner (ok_inner T 4) (hr.mono (by decide)))) (blkOk_by (N := N_law) (sc := defScope s_law) (by decide +kernel)) (fun _ _ _ _ _ => (pg_name (i := 16) sc_law.nd rfl (.inl rfl))) (fun _ _ _ _ _ => pts_nil) (fun _ _ _ _ _ => (pe_fldE (K := K) (by rfl) (pv 16) (by rfl)))) (pa_cons (pv 14) pa_nil)))))))))))))))))))), ?_⟩
    obtain ⟨a, ns, rfl, hq, hl, kk⟩ := h
    walk_at "st"
    walk_at "rd"
    refine ⟨a, ns, rfl, hq, hl, fun p c H1 hp1 c1 => ?_⟩
    walk_at "rd"
    refine nL fun q H2 hq' h2 c2 => ?_
    have hp2 := hp1.ch0 c2
    have isP : ∀ {H0 : Hp}, Pl H0 p c → ∃ xs, H0 p = some (.lst xs) ∧ ∃ ns : List Int, H0 c = some (.lst (ns.map V.int)) := fun {H0} h => by
      obtain ⟨⟨_, _, _, _, e, _⟩, ns, e2, _⟩ := h
      exact ⟨_, e, ns, e2⟩
    have nqp : q ≠ p := fun z => by
      obtain ⟨xs, e, _⟩ := isP hp1
      rw [z, e] at hq'
      cases hq'
    have nqc : q ≠ c := fun z => by
      obtain ⟨_, _, ns, e⟩ := isP hp1
      rw [z, e] at hq'
      cases hq'
    walk_at "rd"
    refine ⟨p, c, q, 0, rfl, by decide, hp2, h2, by decide, nqp, nqc, fun x r ms A' H3 hV hok _ hA8 hA0 h3q hp3 c3 => ?_⟩
    have hA1 : 0 < A' := hA0 (by decide)
    walk_at "rd"
    refine nL fun nl H4 hnl0 h4 c4 => ?_
    have h4q := c4.get0 h3q
    have hp4 := hp3.ch0 c4
    have nnp : nl ≠ p := fun z => by
      obtain ⟨xs, e, _⟩ := isP hp3
      rw [z, e] at hnl0
      cases hnl0
    have nnc : nl ≠ c := fun z => by
      obtain ⟨_, _, ns, e⟩ := isP hp3
      rw [z, e] at hnl0
      cases hnl0
    walk_at "rd"
    rw [show ((A' : Int)).toNat = A' from Int.toNat_natCast A']
    refine goR (fun i σ H' => ∃ (ns : List Str) (o5 : Option V), σ = [some (.ref a), some (.ref p), some (.ref q), some (.ref x), some (.ref nl), o5, none, none, none, none, none, none, none, none, none, none, none, none] ∧ H' nl = some (.lst (ns.map V.str)) ∧ ns.length = i ∧ (∀ z ∈ ns, IsName z) ∧ Pl H' p c ∧ Ch [nl, p] H4 H')
      ⟨[], none, rfl, h4, rfl, (fun z hz => by cases hz), hp4, (Ch.refl _).any⟩ (fun i σ H' hi hI => ?_) (fun σ H' hI => ?_)
    · obtain ⟨ns, o5, rfl, k1, k2, k3, k4, k5⟩ := hI
      walk_at "rd"
      refine use_fresh k4 k1 nnp (by omega) fun z H5 hz hp5 c5 => ?_
      walk_at "rd"
      refine x_append (c5.get1 k1 nnp) (sz_lt (by rw [List.length_map]; omega)) fun H6 h6 c6 => ?_
      walk_at "rd"
      refine ⟨ns ++ [z], _, rfl, by rw [h6, List.map_append]; rfl, by rw [List.length_append, List.length_singleton, k2], fun y hy => ?_, hp5.ch c6 (by simpa using Ne.symm nnp) (by simpa using Ne.symm nnc), ?_⟩
      · rcases List.mem_append.mp hy with e | e
        · exact k3 y e
        · rw [List.mem_singleton.mp e]
          exact hz
      · exact (k5.seq (c5.mono fun y hy => by rw [List.mem_singleton.mp hy]; simp)).seq (c6.mono fun y hy => by rw [List.mem_singleton.mp hy]; simp)
    obtain ⟨ns, o5, rfl, hnl, hnlen, hnm, hp5, c45⟩ := hI
    have c35 : Ch [p] H3 H' := Ch.drop (c4.nilL c45) hnl0
    have hV5 : ShV H2 H' (.ref x) (.nod r ms) := hV.ch c35 fun y hy => by
      obtain ⟨xs, e, _⟩ := isP hp2
      rw [List.mem_singleton.mp hy, e]
      exact fun z => nomatch z
    walk_at "rd"
    refine nO fun b bdx H6 hb hbi c6 => ?_
    refine ⟨b, bdx, _, _, [], [], rfl, hbi, .inl ⟨_, rfl, T.e_Book0, rfl⟩, .inl ⟨_, rfl, T.e_Book1, rfl⟩, fun H7 d1 d2 hd1 hd2 hB c7 => ⟨rfl, ?_⟩⟩
    have c57 : Ch [] H' H7 := (c6.nilL c7).drop hb
    walk_at "rd"
    refine nO fun d ddx H8 hd hdi c8 => ?_
    have hB8 : Bk K H8 b [] [] := ⟨bdx, d1, d2, c8.get0 hB.1, c8.get0 hB.2.1, c8.get0 hB.2.2.1, hB.2.2.2⟩
    refine ⟨d, ddx, b, rfl, hdi, hB8, fun H9 bk e1 e2 db hDk c9 => ⟨rfl, ?_⟩⟩
    have c59 : Ch [] H' H9 := c57.nilL ((c8.nilL c9).drop hd)
    have hp9 := hp5.ch0 c59
    have hnl9 := c59.get0 hnl
    have hV9 := hV5.ch0 c59
    have hdb9 := hDk.2.2.1
    walk_at "rd"
    refine goL (ns.map V.str) (fun i σ H' => ∃ (kvs : List (Key × V)) (o7 : Option V), σ = [some (.ref a), some (.ref p), some (.ref q), some (.ref x), some (.ref nl), o5, some (.ref d), o7, none, none, none, none, none, none, none, none, none, none] ∧ Dk K H' d ddx bk e1 e2 db kvs ∧ KvOk K H' kvs (ns.take i) ∧ kvs.length ≤ i ∧ Ch [db] H9 H')
      ⟨[], none, rfl, hDk, KvOk.nil, Nat.zero_le _, (Ch.refl _).any⟩ (fun i σ H' hi hI => ?_) (fun i y σ H' hy hI => ?_) (fun σ H' hI => ?_)
    · obtain ⟨kvs, o7, rfl, k1, k2, k3, k4⟩ := hI
      exact SqL.of (k4.get1 hnl9 (ne_of hnl9 hdb9 (by simp)))
    · obtain ⟨kvs, o7, rfl, k1, k2, k3, k4⟩ := hI
      obtain ⟨n, hn, rfl⟩ : ∃ n, ns[i]? = some n ∧ y = V.str n := by
        rw [List.getElem?_map] at hy
        cases e : ns[i]? with
        | none => rw [e] at hy; cases hy
        | some n => rw [e] at hy; exact ⟨n, rfl, (Option.some.inj hy).symm⟩
      have hnn := hnm n (List.mem_of_getElem? hn)
      have hi9 : i < ns.length := (List.getElem?_eq_some_iff.mp hn).1
      walk_at "rd"
      refine nO fun b2 bdx2 H10 hb2 hbi2 c10 => ?_
      refine ⟨b2, bdx2, _, _, [], [], rfl, hbi2, .inl ⟨_, rfl, T.e_Book0, rfl⟩, .inl ⟨_, rfl, T.e_Book1, rfl⟩, fun H11 g1 g2 hg1 hg2 hB2 c11 => ⟨rfl, ?_⟩⟩
      have c911 : Ch [] H' H11 := (c10.nilL c11).drop hb2
      walk_at "rd"
      refine nT fun s H12 hs h12 c12 => ?_
      walk_at "rd"
      refine nT fun u H13 hu h13 c13 => ?_
      walk_at "rd"
      have c1113 := c12.nilL c13
      refine nO fun y2 ydx H14 hy2 hyi c14 => ?_
      have c1114 := c1113.nilL c14
      have hBk : Bk K H14 b2 [] [] := ⟨bdx2, g1, g2, c1114.get0 hB2.1, c1114.get0 hB2.2.1, c1114.get0 hB2.2.2.1, hB2.2.2.2⟩
      refine ⟨y2, ydx, b2, u, s, n, rfl, hyi, hBk, c14.sqT (SqT.of h13), (c14.sqT (c13.sqT (SqT.of h12)) : Lv K H14 s n), hnn, fun H15 hBd c15 => ⟨rfl, ?_⟩⟩
      have c915 : Ch [] H' H15 := (c911.nilL c1113).nilL ((c14.nilL c15).drop hy2)
      have k15 := k1.ch0 c915
      refine x_var rfl ?_
      refine x_var rfl ?_
      refine ⟨d, ddx, _, rfl, k15.1, ?_⟩
      refine ⟨d, ddx, bk, e1, e2, db, y2, kvs, n, n, rfl, k15, by omega, hnn, hBd, fun H16 hD16 c16 => ?_⟩
      have h15b := k15.2.2.1
      refine ⟨putK kvs (.inr n) (.ref y2), _, rfl, hD16, fun m => ?_, Nat.le_trans (length_putK kvs (.inr n) _) (by omega), (k4.nilR c915).seq c16⟩
      have hoff : ∀ {z : Addr} {m : Str}, Bd K H15 z m → Bd K H16 z m := fun {z m} hz => by
        obtain ⟨zx, zb, zt, zu, q1, _⟩ := id hz
        exact hz.ch c16 (by rw [List.mem_singleton]; exact ne_of q1 h15b (by simp))
      rw [valV_put]
      have htk : m ∈ ns.take (i + 1) ↔ m ∈ ns.take i ∨ m = n := by
        rw [List.take_add_one, hn]
        simp
      rw [htk]
      by_cases hmn : m = n
      · subst hmn
        exact ⟨fun _ => ⟨y2, if_pos rfl, hoff hBd.bd⟩, fun z => absurd (.inr rfl) z⟩
      · have hne : ¬ ((.inr m : Key) = .inr n) := fun z => hmn (by injection z)
        rw [if_neg hne]
        refine ⟨fun z => ?_, fun z => ?_⟩
        · rcases z with z | z
          · obtain ⟨b', q1, q2⟩ := (k2 m).1 z
            exact ⟨b', q1, hoff (q2.ch c915 (by simp))⟩
          · exact absurd z hmn
        · exact (k2 m).2 fun z2 => z (.inl z2)
    obtain ⟨kvs, o7, rfl, hD10, hkv10, hkl, c910⟩ := hI
    rw [List.length_map, List.take_length] at hkv10
    rw [List.length_map] at hkl
    have ldb : ∀ {z : Addr} {xs : List V}, H9 z = some (.lst xs) → z ∉ [db] := fun {z xs} e => by
      rw [List.mem_singleton]
      exact ne_of e hdb9 (by simp)
    have hnl10 := c910.st _ _ (ldb hnl9) hnl9
    have hp10 : Pl H' p c := by
      obtain ⟨xs, q1, ms, q2⟩ := isP hp9
      exact hp9.ch c910 (ldb q1) (ldb q2)
    have hV10 : ShV H2 H' (.ref x) (.nod r ms) := hV9.chL c910 fun z hz xs e => by
      rw [List.mem_singleton.mp hz, hdb9] at e
      cases e
    walk_at "rd"
    refine nL fun l1 H11 hl1 h11 c11 => ?_
    walk_at "rd"
    refine ⟨H2, x, nl, r, ms, A', ns, rfl, by decide, hV10.ch0 c11, hok, c11.get0 hnl10, hnm, by omega, fun l2 ls2 H12 hl2 h12 hls2 hok2 c12 => ?_⟩
    have hL26 : ls2.length ≤ 106 := hls2
    refine x_addL (c12.get0 h11) h12 (sz_of (by rw [List.length_map, List.length_singleton]; omega)) fun l3 H13 hl3 h13 c13 => ?_
    have c1013 : Ch [] H' H13 := (c11.nilL c12).nilL c13
    have h13' : H13 l3 = some (.lst ((Str.ofString "strike stop past go" :: ls2).map V.str)) := h13
    clear h13
    have hlo : ∀ z ∈ Str.ofString "strike stop past go" :: ls2, LnOk 23 z := fun z hz => by
      rcases List.mem_cons.mp hz with e | e
      · rw [e]
        exact LnOk.mono (m := 19) ⟨by decide +kernel, by decide +kernel⟩ (by decide)
      · exact (hok2 z e).mono (by decide)
    have hp13 := hp10.ch0 c1013
    have hnl13 := c1013.get0 hnl10
    have hns0 : ns ≠ [] := fun z => by
      rw [z] at hnlen
      rw [← hnlen] at hA1
      exact absurd hA1 (by simp)
    have okT_of : ∀ {m : Nat} {z : Str}, m ≤ 60 → LnOk m z → OkT z := fun {m z} hm h => ⟨Nat.le_trans h.1 hm, h.2⟩
    have okT0 : ∀ y ∈ ([] : List Str), OkT y := fun y hy => by cases hy
    walk_at "rd"
    refine use_draw hp13 (by decide) (by decide) fun tu H14 t0 t1 hp14 c14 => ?_
    have n3p : l3 ≠ p := fun z => by
      obtain ⟨xs, q1, _⟩ := isP ((hp10.ch0 c11).ch0 c12)
      rw [z, q1] at hl3
      cases hl3
    walk_at "rd"
    refine goR (fun i σ H' => ∃ (l : Addr) (lns : List Str) (o9 : Option V), σ = [some (.ref a), some (.ref p), some (.ref q), some (.ref x), some (.ref nl), o5, some (.ref d), o7, some (.ref l), o9, none, none, none, none, none, none, none, none] ∧ H' l = some (.lst (lns.map V.str)) ∧ lns.length ≤ 107 + 8 * i ∧ (∀ z ∈ lns, LnOk (23 + i) z) ∧ Pl H' p c ∧ Ch [p] H13 H')
      ⟨l3, Str.ofString "strike stop past go" :: ls2, none, rfl, c14.get1 h13' n3p, by rw [List.length_cons]; omega, hlo, hp14, c14⟩ (fun i σ H' hi hI => ?_) (fun σ H' hI => ?_)
    · obtain ⟨l, lns, o9, rfl, k1, k2, k3, k4, k5⟩ := hI
      have hi2 : i < 2 := by omega
      walk_at "rd"
      refine nL fun e0 H15 he0 h15 c15 => ?_
      refine x_neLS (SqL.of (c15.get0 k1)) (SqL.of h15) (xs := lns) (ys := []) (fun z hz => okT_of (by omega) (k3 z hz)) okT0 ?_
      walk_at "rd"
      refine ite_nby (fun hem => ?_) (fun hem => ?_)
      · walk_at "rd"
        exact ⟨l, lns, _, rfl, c15.get0 k1, by omega, fun z hz => (k3 z hz).mono (by omega), k4.ch0 c15, k5.nilR c15⟩
      · walk_at "rd"
        refine ⟨p, c, l, nl, lns, ns, 23 + i, rfl, k4.ch0 c15, c15.get0 k1, hem, by omega, by omega, by omega, k3, c15.get0 (k5.get1 hnl13 nnp), hns0, hnm, fun l5 ls5 H16 h16 hl5 hok5 hp16 c16 => ?_⟩
        walk_at "rd"
        exact ⟨l5, ls5, _, rfl, h16, by omega, hok5, hp16, (k5.nilR c15).seq c16⟩
    obtain ⟨l, lns, o9, rfl, hl14, hll14, hok14, hp15, c1315⟩ := hI
    have htu : (1 + tu).toNat ≤ 2 := by omega
    have hDx : ∀ {H0 : Hp}, Ch [p] H13 H0 → Dk K H0 d ddx bk e1 e2 db kvs := fun {H0} c0 => (hD10.ch0 c1013).ch c0 fun z hz o e => by
      obtain ⟨xs, q1, _⟩ := isP hp13
      rw [List.mem_singleton.mp hz, q1] at e
      cases e
      rfl
    have hKx : ∀ {H0 : Hp}, Ch [p] H13 H0 → KvOk K H0 kvs ns := fun {H0} c0 n => ⟨fun hn => by
      obtain ⟨b', q1, q2⟩ := ((hkv10.ch0 c1013) n).1 hn
      obtain ⟨zx, zb, zt, zu, z1, _⟩ := id q2
      obtain ⟨xs, q3, _⟩ := isP hp13
      exact ⟨b', q1, q2.ch c0 (by rw [List.mem_singleton]; exact ne_of z1 q3 (by simp))⟩, ((hkv10.ch0 c1013) n).2⟩
    refine x_seq ?_
    refine x_ifS ?_
    refine tt_join (fun bt H0 => (bt = true ↔ lns = []) ∧ Ch [] H' H0) (fun QB' hQ => ?_) ?_
    · walk_at "rd"
      refine nL fun e0 H15 he0 h15 c15 => ?_
      refine x_eqLS (SqL.of (c15.get0 hl14)) (SqL.of h15) (xs := lns) (ys := []) (fun z hz => okT_of (by omega) (hok14 z hz)) okT0 ?_
      walk_at "rd"
      exact hQ _ _ ⟨by rw [decide_eq_true_iff], c15⟩
    rintro bt H15 ⟨hbt, c15⟩
    refine ifs_join (fun σ' H0 => ∃ (l : Addr) (hd : Str) (rest : List Str), σ' = [some (.ref a), some (.ref p), some (.ref q), some (.ref x), some (.ref nl), o5, some (.ref d), o7, some (.ref l), o9, none, none, none, none, none, none, none, none] ∧ H0 l = some (.lst ((hd :: rest).map V.str)) ∧ rest.length ≤ 150 ∧ (∀ z ∈ hd :: rest, LnOk 30 z) ∧ Ch [p] H13 H0) ?_ (fun hc nx' hx => ?_) (fun hc nx' hx => ?_)
    rotate_left 1
    · walk_at "rd"
      refine nL fun l6 H16 hl6 h16 c16 => ?_
      walk_at "rd"
      exact hx _ _ ⟨l6, Str.ofString "", [], rfl, h16, by simp, (fun z hz => by rw [List.mem_singleton.mp hz]; exact ⟨by decide +kernel, by decide +kernel⟩), (c1315.nilR c15).nilR c16⟩
    · walk_at "rd"
      have hne : lns ≠ [] := fun z => by rw [hbt.mpr z] at hc; cases hc
      cases lns with
      | nil => exact absurd rfl hne
      | cons hd rest => exact hx _ _ ⟨l, hd, rest, rfl, c15.get0 hl14, by rw [List.length_cons] at hll14; omega, fun z hz => (hok14 z hz).mono (by omega), c1315.nilR c15⟩
    rintro _ H16 ⟨l, hd, rest, rfl, h16, hrl, hlk, c1316⟩
    walk_at "rd"
    have hspl : Txt.split (Txt.join (Str.ofString "\n") (hd :: rest)) (Str.ofString "\n") = hd :: rest := TL.split_join (s := 10) (S := []) (by decide +kernel) (by decide +kernel) (by simp) fun z hz m => by
      have := (hlk z hz).2 10 m
      omega
    have hjl : ((hd :: rest).map (·.length)).sum + (hd :: rest).length * (Str.ofString "\n").length ≤ 10000 := by
      rw [show (Str.ofString "\n").length = 1 by decide +kernel, Nat.mul_one]
      have := sum_le (m := 30) (hd :: rest) fun z hz => (hlk z hz).1
      rw [List.length_cons] at this ⊢
      omega
    have htl : (Txt.join (Str.ofString "\n") (hd :: rest)).length ≤ 90000 := Nat.le_trans (join_le _ _) (by omega)
    have hl60 : ∀ z ∈ hd :: rest, z.length ≤ 60 := fun z hz => by have := (hlk z hz).1; omega
    refine ⟨l, nl, hd, rest, ns, rfl, h16, c1316.get1 hnl13 nnp, hl60, by omega, fun n hn dp xv H17 hdp c17 => ?_, fun tt htt H17 c17 => ?_⟩
    · walk_at "rd"
      refine x_callS ?_
      walk_at "rd"
      refine x_join (SqL.of (c17.get0 h16)) (by omega) ?_
      walk_at "rd"
      refine ⟨d, ddx, bk, e1, e2, db, kvs, ns, _, hd, rest, rfl, hDx (c1316.nilR c17), hKx (c1316.nilR c17), hspl, htl, hl60, by omega, (fun t ht => by rw [hn] at ht; cases ht), fun m hm e H18 he c18 => ?_⟩
      rw [hn] at hm
      cases hm
      refine ⟨true, T.ex_BadLine_BadLine, fun _ ae hae => ?_, fun z => by cases z⟩
      have hdp18 := c18.get0 hdp
      refine x_st (σ' := [some (.ref a), some (.ref p), some (.ref q), some (.ref x), some (.ref nl), o5, some (.ref d), o7, some (.ref l), o9, some (.ref dp), none, some (.ref ae), none, none, none, none, none]) rfl ?_
      walk_at "rd"
      refine x_xf ?_
      walk_at "rd"
      refine ⟨rfl, rfl, e, _, .int (n : Nat), rfl, he, rfl, ?_⟩
      walk_at "rd"
      exact ⟨_, rfl, kk H18⟩
    · walk_at "rd"
      refine x_callS ?_
      walk_at "rd"
      refine x_join (SqL.of (c17.get0 h16)) (by omega) ?_
      walk_at "rd"
      refine ⟨d, ddx, bk, e1, e2, db, kvs, ns, _, hd, rest, rfl, hDx (c1316.nilR c17), hKx (c1316.nilR c17), hspl, htl, hl60, by omega, fun t ht s v H18 hT c18 => ?_, (fun m hm => by rw [htt] at hm; cases hm)⟩
      rw [htt] at ht
      cases ht
      obtain ⟨⟨r0, ms0, rfl, hRf⟩, hbs, hins⟩ := res_inr htt
      have hl18 := c18.get0 (c17.get0 h16)
      walk_at "rd"
      intro D1 hD1
      refine lcL ((hd :: rest).map V.str) hD1 (fun j acc H' => Ch [] H18 H' ∧ acc = (bodyLs ((hd :: rest).take j)).map V.str) (fun H' hh hc => ⟨hc, rfl⟩) (fun j acc H' hj hp => SqL.of (hp.1.get0 hl18)) (fun j y acc H' hy hp hA => ?_) (fun acc H' hp hA => ?_)
      · obtain ⟨cc, rfl⟩ := hp
        obtain ⟨z, hz, rfl⟩ : ∃ z, (hd :: rest)[j]? = some z ∧ y = V.str z := by
          rw [List.getElem?_map] at hy
          cases e : (hd :: rest)[j]? with
          | none => rw [e] at hy; cases hy
          | some z => rw [e] at hy; exact ⟨z, rfl, (Option.some.inj hy).symm⟩
        have hzl := hl60 z (List.mem_of_getElem? hz)
        have hzs : (strp z).length ≤ 60 := Nat.le_trans (lstrip_len z sp1) hzl
        have hsn : bodyLs ((hd :: rest).take (j + 1)) = bodyLs ((hd :: rest).take j) ++ (if isB (strp z) = true then [cutS (strp z) (some 5) none] else []) := by
          rw [List.take_add_one, hz, bodyLs_app]
          exact congrArg (fun w => bodyLs ((hd :: rest).take j) ++ w) ((bodyLs_cons z []).trans (List.append_nil _))
        walk_at "rd"
        refine x_lstrip (sz_of (by omega)) ?_
        walk_at "rd"
        refine ite_b (fun hs => ?_) (fun hs => ?_)
        · have hs' : isB (strp z) = true := hs
          walk_at "rd"
          refine x_lstrip (sz_of (by omega)) ?_
          walk_at "rd"
          refine x_slS (z := strp z) (sz_of (by omega)) ?_
          refine x_lcE hA (sz_lt (by rw [List.length_map]; have := bodyLs_len ((hd :: rest).take j); rw [List.length_take, List.length_cons] at this; omega)) fun H2 h2 c2 => ⟨(cc.trans c2).drop hD1 |>.mono (by simp), by rw [hsn, if_pos hs', List.map_append]; rfl⟩
        · have hs' : isB (strp z) = false := hs
          exact x_lcN hA ⟨cc, by rw [hsn, if_neg (by rw [hs']; exact Bool.false_ne_true), List.append_nil]⟩
      obtain ⟨cA, rfl⟩ := hp
      rw [List.length_map, List.take_length] at hA
      have hB := hA
      clear hA
      have hl19 := cA.get0 hl18
      have hT19 := hT.ch0 cA
      have hbl : (bodyLs (hd :: rest)).length ≤ 151 := by have := bodyLs_len (hd :: rest); rw [List.length_cons] at this; omega
      have hrl2 : (ruleLs (hd :: rest)).length ≤ 151 := by have := ruleLs_len (hd :: rest); rw [List.length_cons] at this; omega
      have hbs' : Tr.bsL ms0 = bodyLs (hd :: rest) := hbs
      have hins' : r0 :: Tr.insL ms0 = ruleLs (hd :: rest) := hins
      have hil : (Tr.insL ms0).length ≤ 151 := by
        have := congrArg List.length hins'
        rw [List.length_cons] at this
        omega
      have hht : 1 + Tr.htL ms0 ≤ 4 := by
        have : ¬ 3 < 1 + Tr.htL ms0 := fun z => hRf (.inr (.inr (.inr z)))
        omega
      walk_at "rd"
      refine x_meth0 ?_
      cases hT19 with
      | @nur na ndx nt np _ us _ g1 g2 g3 =>
      walk_at "rd"
      refine ⟨na, ndx, _, rfl, g1, rfl, ?_⟩
      refine ⟨na, ndx, s, nt, np, r0, us, ms0, rfl, g1, g2, g3, hht, by rw [hbs']; omega, fun lb H20 ws hlb h20 hBd c20 => ?_⟩
      walk_at "rd"
      intro D2 hD2
      have hwl := hBd.len
      refine lcL ws hD2 (fun j acc H' => Ch [] H20 H' ∧ acc = ((Tr.bsL ms0).take j).map V.str) (fun H' hh hc => ⟨hc, rfl⟩) (fun j acc H' hj hp => SqL.of (hp.1.get0 h20)) (fun j y acc H' hy hp hA => ?_) (fun acc H21 hp hA => ?_)
      · obtain ⟨cc, rfl⟩ := hp
        obtain ⟨zb, zn, rfl, hzn, hzb⟩ := hBd.get hy
        obtain ⟨zx, zk, zt, zs, z1, z2, z3⟩ := hzb
        have z2' := cc.sqT z2
        have z3' : SqT K H' zs [.str "leave", .str zn] := cc.sqT z3
        walk_at "rd"
        refine x_fldB (cc.get0 z1) T.c_Body T.na_Body_statements rfl ?_
        walk_at "rd"
        refine x_lcE hA (sz_lt (by rw [List.length_map, List.length_take]; rw [hbs'] at hwl ⊢; omega)) fun H2 h2 c2 => ⟨(cc.trans c2).drop hD2 |>.mono (by simp), by rw [List.take_add_one, hzn, List.map_append]; rfl⟩
      obtain ⟨cB, rfl⟩ := hp
      rw [hwl, List.take_length, hbs'] at hA
      have c1921 := c20.nilL cB
      have hB21 := c1921.get0 hB
      have hl21 := c1921.get0 hl19
      have g11 := c1921.get0 g1
      have g21 := c1921.sqT g2
      have g31 := g3.ch0 c1921
      walk_at "rd"
      refine use_same (n := 1) (Sm.strs hA hB21 (by omega)) (by decide) ?_
      clear hA
      walk_at "rd"
      intro D3 hD3
      refine lcL ((hd :: rest).map V.str) hD3 (fun j acc H' => Ch [] H21 H' ∧ acc = (ruleLs ((hd :: rest).take j)).map V.str) (fun H' hh hc => ⟨hc, rfl⟩) (fun j acc H' hj hp => SqL.of (hp.1.get0 hl21)) (fun j y acc H' hy hp hA => ?_) (fun acc H22 hp hA => ?_)
      · obtain ⟨cc, rfl⟩ := hp
        obtain ⟨z, hz, rfl⟩ : ∃ z, (hd :: rest)[j]? = some z ∧ y = V.str z := by
          rw [List.getElem?_map] at hy
          cases e : (hd :: rest)[j]? with
          | none => rw [e] at hy; cases hy
          | some z => rw [e] at hy; exact ⟨z, rfl, (Option.some.inj hy).symm⟩
        have hzl := hl60 z (List.mem_of_getElem? hz)
        have hzs : (strp z).length ≤ 60 := Nat.le_trans (lstrip_len z sp1) hzl
        have hsn : ruleLs ((hd :: rest).take (j + 1)) = ruleLs ((hd :: rest).take j) ++ (if isR (strp z) = true then [cutS (strp z) (some 8) none] else []) := by
          rw [List.take_add_one, hz, ruleLs_app]
          exact congrArg (fun w => ruleLs ((hd :: rest).take j) ++ w) ((ruleLs_cons z []).trans (List.append_nil _))
        walk_at "rd"
        refine x_lstrip (sz_of (by omega)) ?_
        walk_at "rd"
        refine ite_b (fun hs => ?_) (fun hs => ?_)
        · have hs' : isR (strp z) = true := hs
          walk_at "rd"
          refine x_lstrip (sz_of (by omega)) ?_
          walk_at "rd"
          refine x_slS (z := strp z) (sz_of (by omega)) ?_
          refine x_lcE hA (sz_lt (by rw [List.length_map]; have := ruleLs_len ((hd :: rest).take j); rw [List.length_take, List.length_cons] at this; omega)) fun H2 h2 c2 => ⟨(cc.trans c2).drop hD3 |>.mono (by simp), by rw [hsn, if_pos hs', List.map_append]; rfl⟩
        · have hs' : isR (strp z) = false := hs
          exact x_lcN hA ⟨cc, by rw [hsn, if_neg (by rw [hs']; exact Bool.false_ne_true), List.append_nil]⟩
      obtain ⟨cD, rfl⟩ := hp
      rw [List.length_map, List.take_length] at hA
      walk_at "rd"
      refine x_meth0 ?_
      walk_at "rd"
      refine ⟨na, ndx, _, rfl, cD.get0 g11, rfl, ?_⟩
      refine ⟨na, ndx, s, nt, np, r0, us, ms0, rfl, cD.get0 g11, cD.sqT g21, g31.ch0 cD, hht, by omega, fun li H23 vs hli h23 hNu c23 => ?_⟩
      have hD23 := c23.get0 hA
      walk_at "rd"
      intro D4 hD4
      have hvl := hNu.len
      refine lcL vs hD4 (fun j acc H' => Ch [] H23 H' ∧ acc = ((r0 :: Tr.insL ms0).take j).map V.str) (fun H' hh hc => ⟨hc, rfl⟩) (fun j acc H' hj hp => SqL.of (hp.1.get0 h23)) (fun j y acc H' hy hp hA2 => ?_) (fun acc H' hp hA2 => ?_)
      · obtain ⟨cc, rfl⟩ := hp
        obtain ⟨za, zx, zs, zt, zp, zr, rfl, hzn, z1⟩ := hNu.get hy
        walk_at "rd"
        refine x_fldB (cc.get0 z1) T.c_Nursery T.na_Nursery_rule rfl ?_
        refine x_lcE hA2 (sz_lt (by rw [List.length_map, List.length_take, List.length_cons]; omega)) fun H2 h2 c2 => ⟨(cc.trans c2).drop hD4 |>.mono (by simp), by rw [List.take_add_one, hzn, List.map_append]; rfl⟩
      obtain ⟨cE, rfl⟩ := hp
      rw [hvl, List.take_length, hins'] at hA2
      walk_at "rd"
      exact use_same (n := 1) (Sm.strs hA2 (cE.get0 hD23) (by omega)) (by decide) (kk _)
  obtain ⟨t, h1, h2⟩ := key
  exact ⟨t, h1.nox, h2⟩
end
end U
set_option Elab.async false
set_option linter.all false
set_option maxRecDepth 100000
set_option maxHeartbeats 0
namespace U
open PySem PySem.Spec PyProof.Rows L2
theorem facts : Facts := by
  intro P w K h mg f X G hfa c
  have T := txt_of X G c
  obtain ⟨fd, F⟩ := T.f_law
  have e := hfa.symm.trans T.g_law
  cases e
  have b := FunD.bindsA (ps := ["script"]) F fun _ _ _ _ _ _ us hl => match us, hl with | [_], _ => rfl
  exact ⟨fd, fun s v => b s [v] rfl, fun base _ _ => ok_lawF T F⟩
end U
open PySem PySem.W PySem.Calls PyProof.Rows
theorem PySem.Challenge.cw_struckbodies_k91_whole_wrong_nursery_lin_holds : PySem.Challenge.rw_struckbodies_k91_whole_wrong_nursery_lin.Holds := by
  exact U.end_of U.facts
