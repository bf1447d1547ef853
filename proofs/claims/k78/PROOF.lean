import PyProof.Rows.All
import Wide.All
import OpenK.AllK
import Wide.FinOn
import HandS.ForMost
import HandS.ForExc
import HandS.More
import HandS.IsInst
import HandS.Defaults
import HandS.Style
import HandS.Flow
import HandS.TupAny
import HandS.Wide
import HandS.Evl
import HandS.Codes
import KE.KOpsOwn
import KE.KOwnIter
import KE.KStar
import PyProof.InstNe
import PyProof.CollectWalk
import HandS.Property
import HandS.OwnEq
import HandS.OwnIter
import HandS.IterNext
import HandS.Star
import HandS.MakeKwOnly
import PyProof.EnumMake
import PyProof.Draws
import PyProof.TupleIter
import HandS.Iter
import KE.KFromBytes
import HandS.Dict
import HandS.ExcInit
import HandS.ExcField
import HandS.Finally
import HandS.HeadHook1
import HandS.HeadHook2
import HandS.ClsMeth
import KE.KEqDict
import HandS.DictComp
import HandS.HeadHook3
import HandS.HeadHook4
import KE.KStateDown
import HandS.Head0
import HandS.Head1
import HandS.Head2
import HandS.HeadEnd
import PyProof.AutoSeq1
import PySem.Challenge.RW_struckbodies_k78_whole_unwound_in_parts
set_option Elab.async false
set_option linter.all false
set_option maxRecDepth 100000
set_option maxHeartbeats 4000000
namespace U
open PySem PySem.Spec PyProof.Rows L2

/-! ### what changes -/
/-- all tracked objects outside S stand; tuples and locked things stand -/
structure Ch (S : List Addr) (H H' : Hp) : Prop where
  st : ∀ b o, b ∉ S → H b = some o → H' b = some o
  tp : ∀ b xs, H b = some (.tup xs) → H' b = some (.tup xs)
  fz : ∀ b o u, H b = some (.frz o u) → H' b = some (.frz o u)
theorem Ch.refl (H : Hp) : Ch [] H H := ⟨fun _ _ _ h => h, fun _ _ h => h, fun _ _ _ h => h⟩
theorem Ch.trans {S S' : List Addr} {H H1 H2 : Hp} (a : Ch S H H1) (b : Ch S' H1 H2) : Ch (S ++ S') H H2 :=
  ⟨fun c o hc h => b.st c o (fun z => hc (List.mem_append_right _ z)) (a.st c o (fun z => hc (List.mem_append_left _ z)) h), fun c xs h => b.tp c xs (a.tp c xs h), fun c o u h => b.fz c o u (a.fz c o u h)⟩
theorem Ch.mono {S S' : List Addr} {H H' : Hp} (a : Ch S H H') (h : ∀ b ∈ S, b ∈ S') : Ch S' H H' := ⟨fun c o hc e => a.st c o (fun z => hc (h c z)) e, a.tp, a.fz⟩
theorem Ch.seq {S : List Addr} {H H1 H2 : Hp} (a : Ch S H H1) (b : Ch S H1 H2) : Ch S H H2 := (a.trans b).mono fun c h => (List.mem_append.mp h).elim id id
theorem Ch.nilL {S : List Addr} {H H1 H2 : Hp} (a : Ch [] H H1) (b : Ch S H1 H2) : Ch S H H2 := a.trans b
theorem Ch.nilR {S : List Addr} {H H1 H2 : Hp} (a : Ch S H H1) (b : Ch [] H1 H2) : Ch S H H2 := by
  have q := a.trans b
  rwa [List.append_nil] at q
/-- what was not tracked at first does not count -/
theorem Ch.drop {S : List Addr} {p : Addr} {H H' : Hp} (a : Ch (p :: S) H H') (n : H p = none) : Ch S H H' :=
  ⟨fun c o hc e => a.st c o (fun z => by
    rcases List.mem_cons.mp z with z | z
    · rw [z, n] at e
      cases e
    · exact hc z) e, a.tp, a.fz⟩
theorem Ch.new {H : Hp} {p : Addr} {o : HO} (h : H p = none) : Ch [] H (upd H p o) :=
  ⟨fun c u _ e => by rw [upd_ne (ne_of_none e h)]; exact e, fun c xs e => by rw [upd_ne (ne_of_none e h)]; exact e, fun c x u e => by rw [upd_ne (ne_of_none e h)]; exact e⟩
/-- what may be changed -/
def MutO : HO → Bool
  | .tup _ => false
  | .frz _ _ => false
  | _ => true
theorem Ch.mut {H : Hp} {p : Addr} {o u : HO} (h : H p = some u) (m : MutO u = true) : Ch [p] H (upd H p o) :=
  ⟨fun c x hc e => by rw [upd_ne (fun z => hc (by simp [z]))]; exact e, fun c xs e => by
    rw [upd_ne (fun z => by rw [z, h] at e; cases e; cases m)]
    exact e, fun c x y e => by
    rw [upd_ne (fun z => by rw [z, h] at e; cases e; cases m)]
    exact e⟩
theorem Ch.get {S : List Addr} {H H' : Hp} {a : Addr} {o : HO} (c : Ch S H H') (h : H a = some o) (n : a ∉ S) : H' a = some o := c.st a o n h
theorem Ch.get0 {H H' : Hp} {a : Addr} {o : HO} (c : Ch [] H H') (h : H a = some o) : H' a = some o := c.st a o (by simp) h
theorem Ch.get1 {p : Addr} {H H' : Hp} {a : Addr} {o : HO} (c : Ch [p] H H') (h : H a = some o) (n : a ≠ p) : H' a = some o := c.st a o (by simpa using n) h
theorem Ch.free {S : List Addr} {H H' : Hp} {a : Addr} (c : Ch S H H') (h : H' a = none) (n : a ∉ S) : H a = none := by
  cases e : H a with
  | none => rfl
  | some o =>
    rw [c.st a o n e] at h
    cases h
theorem Ch.free0 {H H' : Hp} {a : Addr} (c : Ch [] H H') (h : H' a = none) : H a = none := c.free h (by simp)
theorem Ch.sqT {S : List Addr} {K : PySem.W.Frag} {H H' : Hp} {a : Addr} {xs : List V} (c : Ch S H H') (h : SqT K H a xs) : SqT K H' a xs := by
  rcases h with (h | ⟨o, h⟩) | h
  · exact .inl (.inl (c.tp _ _ h))
  · exact .inl (.inr ⟨o, c.fz _ _ _ h⟩)
  · exact .inr h
theorem Ch.sqL {S : List Addr} {K : PySem.W.Frag} {H H' : Hp} {a : Addr} {xs : List V} (c : Ch S H H') (h : SqL K H a xs) (n : a ∉ S) : SqL K H' a xs := by
  rcases h with (h | ⟨o, h⟩) | h
  · exact .inl (.inl (c.st _ _ n h))
  · exact .inl (.inr ⟨o, c.fz _ _ _ h⟩)
  · exact .inr h

/-! ### data without lists: never changes -/
mutual
inductive Dt (K : PySem.W.Frag) (H : Hp) : V → PyData → Prop
  | non : Dt K H .non .none
  | bl (b : Bool) : Dt K H (.bl b) (.bool b)
  | int (i : Int) : Dt K H (.int i) (.int i)
  | str (x : Str) : Dt K H (.str x) (.str x)
  | tup {a : Addr} {xs : List V} {ds : List PyData} : SqT K H a xs → DtA K H xs ds → Dt K H (.ref a) (.tuple ds)
inductive DtA (K : PySem.W.Frag) (H : Hp) : List V → List PyData → Prop
  | nil : DtA K H [] []
  | cons {v : V} {vs : List V} {d : PyData} {ds : List PyData} : Dt K H v d → DtA K H vs ds → DtA K H (v :: vs) (d :: ds)
end
section
variable {K : PySem.W.Frag} {H H' : Hp} {S : List Addr}
mutual
theorem Dt.mono (c : Ch S H H') : ∀ (d : PyData) (v : V), Dt K H v d → Dt K H' v d
  | .none, _, h => by cases h; exact .non
  | .bool _, _, h => by cases h; exact .bl _
  | .int _, _, h => by cases h; exact .int _
  | .str _, _, h => by cases h; exact .str _
  | .tuple ds, _, h => by
    cases h with
    | tup hs ha => exact .tup (c.sqT hs) (DtA.mono c ds _ ha)
  | .list _, _, h => by cases h
  | .dict _, _, h => by cases h
theorem DtA.mono (c : Ch S H H') : ∀ (ds : List PyData) (vs : List V), DtA K H vs ds → DtA K H' vs ds
  | [], _, h => by cases h; exact .nil
  | d :: ds, _, h => by
    cases h with
    | cons h1 h2 => exact .cons (Dt.mono c d _ h1) (DtA.mono c ds _ h2)
end
theorem Dt.ch {d : PyData} {v : V} (h : Dt K H v d) (c : Ch S H H') : Dt K H' v d := Dt.mono c d v h
theorem DtA.ch {ds : List PyData} {vs : List V} (h : DtA K H vs ds) (c : Ch S H H') : DtA K H' vs ds := DtA.mono c ds vs h
mutual
theorem Dt.dp : ∀ (d : PyData) (v : V), Dt K H v d → Dp K H v d
  | .none, _, h => by cases h; exact .non
  | .bool _, _, h => by cases h; exact .bl _
  | .int _, _, h => by cases h; exact .int _
  | .str _, _, h => by cases h; exact .str _
  | .tuple ds, _, h => by
    cases h with
    | tup hs ha => exact .tup hs (DtA.dp ds _ ha)
  | .list _, _, h => by cases h
  | .dict _, _, h => by cases h
theorem DtA.dp : ∀ (ds : List PyData) (vs : List V), DtA K H vs ds → DpAll K H vs ds
  | [], _, h => by cases h; exact .nil
  | d :: ds, _, h => by
    cases h with
    | cons h1 h2 => exact .cons (Dt.dp d _ h1) (DtA.dp ds _ h2)
end
theorem DtA.length {ds : List PyData} {vs : List V} (h : DtA K H vs ds) : vs.length = ds.length := by
  induction ds generalizing vs with
  | nil => cases h; rfl
  | cons d ds ih =>
    cases h with
    | cons h1 h2 => rw [List.length_cons, List.length_cons, ih h2]
theorem DtA.get {ds : List PyData} {vs : List V} (h : DtA K H vs ds) {i : Nat} {v : V} (e : vs[i]? = some v) : ∃ d, ds[i]? = some d ∧ Dt K H v d := by
  induction ds generalizing vs i with
  | nil => cases h; simp at e
  | cons d ds ih =>
    cases h with
    | cons h1 h2 =>
      cases i with
      | zero => simp at e; subst e; exact ⟨d, rfl, h1⟩
      | succ i =>
        obtain ⟨d', e', h'⟩ := ih h2 (i := i) (by simpa using e)
        exact ⟨d', by simpa using e', h'⟩
theorem DtA.append {ds es : List PyData} {vs us : List V} (h : DtA K H vs ds) (g : DtA K H us es) : DtA K H (vs ++ us) (ds ++ es) := by
  induction ds generalizing vs with
  | nil => cases h; exact g
  | cons d ds ih =>
    cases h with
    | cons h1 h2 => exact .cons h1 (ih h2)
theorem DtA.snoc {ds : List PyData} {vs : List V} {v : V} {d : PyData} (h : DtA K H vs ds) (g : Dt K H v d) : DtA K H (vs ++ [v]) (ds ++ [d]) := h.append (.cons g .nil)
theorem DtA.take {ds : List PyData} {vs : List V} (h : DtA K H vs ds) (n : Nat) : DtA K H (vs.take n) (ds.take n) := by
  induction ds generalizing vs n with
  | nil => cases h; simp; exact .nil
  | cons d ds ih =>
    cases h with
    | cons h1 h2 =>
      cases n with
      | zero => exact .nil
      | succ n => exact .cons h1 (ih h2 n)
theorem DtA.drop {ds : List PyData} {vs : List V} (h : DtA K H vs ds) (n : Nat) : DtA K H (vs.drop n) (ds.drop n) := by
  induction ds generalizing vs n with
  | nil => cases h; simp; exact .nil
  | cons d ds ih =>
    cases h with
    | cons h1 h2 =>
      cases n with
      | zero => exact .cons h1 h2
      | succ n => exact ih h2 n
end

/-! ### defs with their bindings -/
structure FD (P : Program) (w : World) (K : PySem.W.Frag) (mg : Str → Option Value) (base : Heap) (CX : CXT) (k : Nat) (f : Addr) (ps : List Str) (sp : Sp) : Prop where
  ex : ∃ fd, FnOk P w K mg base CX k f fd ps sp ∧ Binds K fd ps []
  kp : PySem.W.keepIn K (.ref f) = true
theorem FD.imp {P : Program} {w : World} {K : PySem.W.Frag} {mg : Str → Option Value} {base : Heap} {CX : CXT} {k : Nat} {f : Addr} {ps : List Str} {sp sp' : Sp} (F : FD P w K mg base CX k f ps sp) (h : ∀ vs H Q E, sp' vs H Q E → sp vs H Q E) : FD P w K mg base CX k f ps sp' := by
  obtain ⟨fd, a, b⟩ := F.ex
  exact ⟨⟨fd, a.imp h, b⟩, F.kp⟩
theorem FD.mono {P : Program} {w : World} {K : PySem.W.Frag} {mg : Str → Option Value} {base : Heap} {CX : CXT} {j k : Nat} {f : Addr} {ps : List Str} {sp : Sp} (F : FD P w K mg base CX j f ps sp) (h : j ≤ k) : FD P w K mg base CX k f ps sp := by
  obtain ⟨fd, a, b⟩ := F.ex
  exact ⟨⟨fd, a.mono h, b⟩, F.kp⟩
section
variable {P : Program} {w : World} {K : PySem.W.Frag} {mg : Str → Option Value} {base : Heap} {x qual : Str} {params : Arguments} {body : List Stmt} {scope : Scope} {f : Addr}
/-- a def without defaults that lets nothing out -/
theorem FD.mk0 {N ps : List Str} {k : Nat} {sp : Sp} (F : ∃ fd, FunD K x qual params body scope [] [] f fd) (S : FnScope N ps scope) (len : ∀ vs H Q E, sp vs H Q E → vs.length = ps.length)
    (hb : ∀ (kV doc pm : Value) (an : Option Addr) (cdv ct : Value) (us : List Value), us.length = ps.length → bindArgs (PySem.W.fnOf x qual params body scope .none kV doc pm an cdv ct) ⟨us, []⟩ = pure (ps.zip us))
    (hbody : ∀ (cdv : Value) (A : Around) (outer : List Env) (s : Shared) (H : Hp) (vs : List V) (Q : VK) (E : XK), Room k (A.deeper (envOfC qual scope s.heap.objs.size f cdv)) → sp vs H Q E →
      ∃ t, PSs (cxOf CX0 P w K mg base N qual scope f cdv A outer s H E).nox body t ∧ t ⟨fun _ H' => Q .non H', Q, fun _ _ => False, fun _ _ => False⟩ (start N vs) H) : FD P w K mg base CX0 (k + 1) f ps sp := by
  obtain ⟨fd, F⟩ := F
  refine ⟨⟨fd, F.ok S len fun cdv A outer s H vs Q E hr hsp => ?_, F.bindsN hb⟩, F.kp⟩
  obtain ⟨t, h, q⟩ := hbody cdv A outer s H vs Q E hr hsp
  exact ⟨t, h.nox, q⟩
/-- .. that may raise -/
theorem FD.mkX {N ps : List Str} {k : Nat} {sp : Sp} (F : ∃ fd, FunD K x qual params body scope [] [] f fd) (S : FnScope N ps scope) (len : ∀ vs H Q E, sp vs H Q E → vs.length = ps.length)
    (hb : ∀ (kV doc pm : Value) (an : Option Addr) (cdv ct : Value) (us : List Value), us.length = ps.length → bindArgs (PySem.W.fnOf x qual params body scope .none kV doc pm an cdv ct) ⟨us, []⟩ = pure (ps.zip us))
    (hbody : ∀ (cdv : Value) (A : Around) (outer : List Env) (s : Shared) (H : Hp) (vs : List V) (Q : VK) (E : XK), Room k (A.deeper (envOfC qual scope s.heap.objs.size f cdv)) → sp vs H Q E →
      ∃ t, PSs (cxOf (L2.CX P w) P w K mg base N qual scope f cdv A outer s H E) body t ∧ t ⟨fun _ H' => Q .non H', Q, fun _ _ => False, fun _ _ => False⟩ (start N vs) H) : FD P w K mg base (L2.CX P w) (k + 1) f ps sp := by
  obtain ⟨fd, F⟩ := F
  exact ⟨⟨fd, F.ok S len fun cdv A outer s H vs Q E hr hsp => hbody cdv A outer s H vs Q E hr hsp, F.bindsN hb⟩, F.kp⟩
end
section
variable {X : Cx} {CX : CXT} {j k : Nat} {f C : Addr} {ps : List Str} {sp : Sp} {E : XK} {x m : Str} {p pos apos : Pos} {e o : Expr} {es : List Expr} {t : TA} {ta : TE}
theorem pe_callD (F : FD X.prog X.w X.K X.mg X.base CX k f ps sp) (hr : Room j X.A) (hk : k ≤ j) (hg : Gl X x) (hm : X.mg x = some (.ref f)) (hx : Passes CX X E) (ha : PA X (e :: es) t) (hdb : (x == ("__debug__" : Str)) = false := by decide)
    (he : starEach (e :: es) X.env = (false, eval e X.env) :: starEach es X.env := by rfl) (hpl : (backTo pos (starEach es X.env)).any (·.1) = false := by rfl) : PE X (.Call (.Name x p) (e :: es) [] pos) (tCall sp [] E t) := by
  refine ⟨fun pins s σ H Q I h => ?_⟩
  obtain ⟨fd, F1, b⟩ := F.ex
  exact (pe_call F1 (hr.mono hk) hg hm F.kp b .nil hx ha hdb he hpl).run pins s σ H Q I h
theorem pe_callD0 (F : FD X.prog X.w X.K X.mg X.base CX k f ps sp) (hr : Room j X.A) (hk : k ≤ j) (hg : Gl X x) (hm : X.mg x = some (.ref f)) (hx : Passes CX X E) (hdb : (x == ("__debug__" : Str)) = false := by decide) : PE X (.Call (.Name x p) [] [] pos) (tCall sp [] E tNil) := by
  refine ⟨fun pins s σ H Q I h => ?_⟩
  obtain ⟨fd, F1, b⟩ := F.ex
  exact (pe_call0 F1 (hr.mono hk) hg hm F.kp b .nil hx hdb).run pins s σ H Q I h
end
end U

set_option Elab.async false
set_option linter.all false
set_option maxRecDepth 100000
set_option maxHeartbeats 4000000
namespace U
open PySem PySem.Spec PyProof.Rows L2
/-! ### universal operators -/
section
variable {X : Cx}
def rAddI : R2 := rI0 fun i j => .int (i + j)
def rAddS : R2 := fun x y H Q => ∃ i j, x = .str i ∧ y = .str j ∧ i.length + j.length ≤ sizeLine ∧ Q (.str (i ++ j)) H
def rAdd (K : PySem.W.Frag) : R2 := fun x y H Q => rAddI x y H Q ∨ (rAddS x y H Q ∨ (rCat x y H Q ∨ rCatA K x y H Q))
theorem u_add : OpR X (binaryOp .Add) (rAdd X.K) := OpR.or op_add (OpR.or op_add_str (OpR.or op_cat op_catA))
def rEqU (K : PySem.W.Frag) : R2 := fun x y H Q => rEq x y H Q ∨ rEqD K x y H Q
def rNeU (K : PySem.W.Frag) : R2 := fun x y H Q => rNe x y H Q ∨ rNeD K x y H Q
theorem u_eq (hu : X.A.units + 64 < cLine) : OpR X (compareOp .Eq) (rEqU X.K) := OpR.or op_eq (op_eqD hu)
theorem u_ne (hu : X.A.units + 64 < cLine) : OpR X (compareOp .NotEq) (rNeU X.K) := OpR.or op_ne (op_neD hu)
def rLtI : R2 := rI0 fun i j => .bl (decide (i < j))
def rLeI : R2 := rI0 fun i j => .bl (decide (i ≤ j))
def rGtI : R2 := rI0 fun i j => .bl (decide (j < i))
def rGeI : R2 := rI0 fun i j => .bl (decide (j ≤ i))
theorem u_lt : OpR X (compareOp .Lt) rLtI := op_lt
theorem u_le : OpR X (compareOp .LtE) rLeI := op_le
theorem u_gt : OpR X (compareOp .Gt) rGtI := op_gt
theorem u_ge : OpR X (compareOp .GtE) rGeI := op_ge
def rLtS : R2 := fun x y H Q => ∃ i j, x = .str i ∧ y = .str j ∧ Q (.bl (decide (i.cps.toList < j.cps.toList))) H
theorem u_ltS : OpR X (compareOp .Lt) rLtS := op_lt_str
def rSubI : R2 := rI0 fun i j => .int (i - j)
theorem u_sub : OpR X (binaryOp .Sub) rSubI := op_sub
def rMulI : R2 := rI CMul fun i j => .int (i * j)
theorem u_mul : OpR X (binaryOp .Mult) rMulI := op_mul
def rModI : R2 := rI (fun _ j => 0 < j) fun i j => .int (i % j)
theorem u_mod : OpR X (binaryOp .Mod) rModI := op_mod
def rDivI : R2 := rI CDiv fun i j => .int (i / j)
theorem u_div : OpR X (binaryOp .FloorDiv) rDivI := op_fdiv
def rPowI : R2 := rI CPow fun i j => .int (i ^ j.toNat)
theorem u_pow : OpR X (binaryOp .Pow) rPowI := op_pow
def rIsNo : R2 := fun x y H Q => y = .non ∧ Q (.bl (decide (x = .non))) H
def rNotNo : R2 := fun x y H Q => y = .non ∧ Q (.bl (!decide (x = .non))) H
theorem u_is : OpR X (compareOp .Is) rIsNo := op_isN
theorem u_isnot : OpR X (compareOp .IsNot) rNotNo := op_notN
def rInSg : R2 := fun x y H Q => ∃ (c : Nat) (z : Str), x = .str ⟨#[c]⟩ ∧ y = .str z ∧ Q (.bl (decide (c ∈ z.cps.toList))) H
def rNotInSg : R2 := fun x y H Q => ∃ (c : Nat) (z : Str), x = .str ⟨#[c]⟩ ∧ y = .str z ∧ Q (.bl (!decide (c ∈ z.cps.toList))) H
def rInU (K : PySem.W.Frag) : R2 := fun x y H Q => rInSg x y H Q ∨ rIn K false x y H Q
def rNotInU (K : PySem.W.Frag) : R2 := fun x y H Q => rNotInSg x y H Q ∨ rIn K true x y H Q
theorem u_in : OpR X (compareOp .In) (rInU X.K) := OpR.or op_in_sign op_in_seq
theorem u_notin : OpR X (compareOp .NotIn) (rNotInU X.K) := OpR.or op_notIn_sign op_notIn_seq
def rLenC (K : PySem.W.Frag) : List V → Hp → VK → Prop := fun xs H Q => ∃ x n, xs = [x] ∧ LenV K x H n ∧ Q (.int n) H
theorem c_len : CallR X (.builtin "len") (rLenC X.K) := call_len
def rIntC : List V → Hp → VK → Prop := fun xs H Q => (∃ i, xs = [.int i] ∧ Q (.int i) H) ∨ ∃ k, xs = [.bl k] ∧ Q (.int (if k then 1 else 0)) H
theorem c_int : CallR X (.type "int") rIntC := call_int1
def rListC (K : PySem.W.Frag) : List V → Hp → VK → Prop := fun xs H Q => ∃ p ys, xs = [.ref p] ∧ (SqL K H p ys ∨ SqT K H p ys) ∧ ∀ l, H l = none → Q (.ref l) (upd H l (.lst ys))
theorem c_list : CallR X (.type "list") (rListC X.K) := call_list_of
def rTupC (K : PySem.W.Frag) : List V → Hp → VK → Prop := fun xs H Q => ∃ p ys, xs = [.ref p] ∧ ((SqL K H p ys ∧ ∀ l, H l = none → Q (.ref l) (upd H l (.tup ys))) ∨ (SqT K H p ys ∧ Q (.ref p) H))
theorem c_tuple : CallR X (.type "tuple") (rTupC X.K) := call_tuple_of
end
theorem sz_of {n : Nat} (h : n ≤ 100000) : n ≤ sizeLine := Nat.le_trans h (by decide)
theorem sz_lt {n : Nat} (h : n < 100000) : n < sizeLine := Nat.lt_of_lt_of_le h (by decide)

/-! ### steps of a reading -/
/-- a new tuple, a new list -/
def NwT (H1 : Hp) (xs : List V) (R : Addr → Hp → Prop) : Prop := xs.length ≤ sizeLine ∧ ∀ p H', H1 p = none → H' = upd H1 p (.tup xs) → R p H'
def NwL (H1 : Hp) (xs : List V) (R : Addr → Hp → Prop) : Prop := xs.length ≤ sizeLine ∧ ∀ p H', H1 p = none → H' = upd H1 p (.lst xs) → R p H'
section
variable {K : PySem.W.Frag} {σ σ' : L2.St} {H : Hp} {Q : VK} {v x y : V} {i j : Int} {n : Nat} {ta tb tc te : TE} {t u : TT} {t1 t2 ts : TS} {tA : TA} {r : R2} {nx bk ct : L2.St → Hp → Prop} {rt : VK} {a b c : Prop} {QB : Bool → Hp → Prop} {QL : List V → Hp → Prop} {g : TG}
theorem x_var (h : σ[n]? = some (some v)) (q : Q v H) : tVar n σ H Q := ⟨v, h, q⟩
theorem x_c (q : Q v H) : tC v σ H Q := q
theorem x_op (h : ta σ H fun x H1 => tb σ H1 fun y H2 => r x y H2 Q) : tOp r ta tb σ H Q := h
theorem x_un {r : V → Hp → VK → Prop} (h : ta σ H fun x H1 => r x H1 Q) : tUn r ta σ H Q := h
theorem x_test (h : te σ H fun x H1 => ∃ k, x = .bl k ∧ QB k H1) : tTest te σ H QB := h
theorem x_B (h : te σ H fun x H1 => ∃ k, x = .bl k ∧ QB k H1) : tB te σ H QB := h
theorem x_bl {k : Bool} (q : QB k H) : ∃ k', V.bl k = V.bl k' ∧ QB k' H := ⟨k, rfl, q⟩
theorem x_ifS (h : t σ H fun b H1 => if b = true then t1 ⟨nx, rt, bk, ct⟩ σ H1 else t2 ⟨nx, rt, bk, ct⟩ σ H1) : tIfS t t1 t2 ⟨nx, rt, bk, ct⟩ σ H := h
theorem x_if (h : t σ H fun b H1 => if b = true then ta σ H1 Q else tb σ H1 Q) : tIf t ta tb σ H Q := h
theorem x_and (h : t σ H fun c H1 => if c = true then u σ H1 QB else QB false H1) : tAnd t u σ H QB := h
theorem x_or (h : t σ H fun c H1 => if c = true then QB true H1 else u σ H1 QB) : tOr t u σ H QB := h
theorem x_not (h : t σ H fun c H1 => QB (!c) H1) : tNot t σ H QB := h
theorem x_andV (h : ta σ H fun x H1 => ∃ c, x = .bl c ∧ if c = true then tb σ H1 Q else Q (.bl false) H1) : tAndV ta tb σ H Q := h
theorem x_orV (h : ta σ H fun x H1 => ∃ c, x = .bl c ∧ if c = true then Q (.bl true) H1 else tb σ H1 Q) : tOrV ta tb σ H Q := h
theorem x_notV (h : ta σ H fun x H1 => ∃ c, x = .bl c ∧ Q (.bl (!c)) H1) : tNotV ta σ H Q := h
theorem x_blV {k : Bool} {PB : Bool → Prop} (q : PB k) : ∃ k', V.bl k = V.bl k' ∧ PB k' := ⟨k, rfl, q⟩
theorem x_chain {r r' : R2} (h : ta σ H fun x H1 => tb σ H1 fun y H2 => r x y H2 fun z H3 => ∃ k, z = .bl k ∧ (if k = true then tc σ H3 fun w' H4 => r' y w' H4 Q else Q (.bl false) H3)) : tChain r r' ta tb tc σ H Q := h
-- known and open tests
theorem ite_T (h : a) : if true = true then a else b := by rw [if_pos rfl]; exact h
theorem ite_F (h : b) : if false = true then a else b := by rw [if_neg Bool.false_ne_true]; exact h
theorem ite_d [Decidable c] (hc : c) (h : a) : if decide c = true then a else b := by rw [decide_eq_true hc]; exact ite_T h
theorem ite_dn [Decidable c] (hc : ¬ c) (h : b) : if decide c = true then a else b := by rw [decide_eq_false hc]; exact ite_F h
theorem ite_n [Decidable c] (hc : c) (h : b) : if (!decide c) = true then a else b := by rw [decide_eq_true hc]; exact ite_F h
theorem ite_nn [Decidable c] (hc : ¬ c) (h : a) : if (!decide c) = true then a else b := by rw [decide_eq_false hc]; exact ite_T h
theorem ite_by [Decidable c] (h1 : c → a) (h2 : ¬ c → b) : if decide c = true then a else b := by
  by_cases h : c
  · exact ite_d h (h1 h)
  · exact ite_dn h (h2 h)
theorem ite_nby [Decidable c] (h1 : c → b) (h2 : ¬ c → a) : if (!decide c) = true then a else b := by
  by_cases h : c
  · exact ite_n h (h1 h)
  · exact ite_nn h (h2 h)
theorem ite_b {k : Bool} (h1 : k = true → a) (h2 : k = false → b) : if k = true then a else b := by
  cases k with
  | true => exact ite_T (h1 rfl)
  | false => exact ite_F (h2 rfl)
theorem ite_nb {k : Bool} (h1 : k = true → b) (h2 : k = false → a) : if (!k) = true then a else b := by
  cases k with
  | true => exact ite_F (h1 rfl)
  | false => exact ite_T (h2 rfl)
-- statements
theorem x_seq (h : t1 ⟨t2 ⟨nx, rt, bk, ct⟩, rt, bk, ct⟩ σ H) : tSeq t1 t2 ⟨nx, rt, bk, ct⟩ σ H := h
theorem x_next (h : nx σ H) : tNext ⟨nx, rt, bk, ct⟩ σ H := h
theorem x_brk (h : bk σ H) : tBreak ⟨nx, rt, bk, ct⟩ σ H := h
theorem x_cont (h : ct σ H) : tCont ⟨nx, rt, bk, ct⟩ σ H := h
theorem x_drop (h : te σ H fun _ H1 => nx σ H1) : tDrop te ⟨nx, rt, bk, ct⟩ σ H := h
theorem x_ret (h : te σ H rt) : tRet te ⟨nx, rt, bk, ct⟩ σ H := h
theorem x_retN (h : rt .non H) : tRetN ⟨nx, rt, bk, ct⟩ σ H := h
theorem x_asg (h : te σ H fun x H1 => g x σ H1 nx) : tAsg te g ⟨nx, rt, bk, ct⟩ σ H := h
theorem x_name {Qs : L2.St → Hp → Prop} (e : σ.set n (some x) = σ') (q : Qs σ' H) : gName n x σ H Qs := by subst e; exact q
theorem x_aug {ip : TIp} (h : σ[n]? = some (some v)) (q : te σ H fun y H1 => ip v y H1 fun z H2 => nx (σ.set n (some z)) H2) : tAug n te ip ⟨nx, rt, bk, ct⟩ σ H := ⟨v, h, q⟩
-- arguments, displays
theorem x_nil (q : QL [] H) : tNil σ H QL := q
theorem x_cons (h : te σ H fun x H1 => tA σ H1 fun xs H2 => QL (x :: xs) H2) : tCons te tA σ H QL := h
theorem x_tup (h : tA σ H fun xs H1 => NwT H1 xs fun p H' => Q (.ref p) H') : tTup tA σ H Q := by
  have e : (fun (xs : List V) (H1 : Hp) => NwT H1 xs fun p H' => Q (.ref p) H') = fun xs H1 => xs.length ≤ sizeLine ∧ ∀ p, H1 p = none → Q (.ref p) (upd H1 p (.tup xs)) := by
    funext xs H1
    exact propext ⟨fun z => ⟨z.1, fun p hp => z.2 p _ hp rfl⟩, fun z => ⟨z.1, fun p H' hp e => by rw [e]; exact z.2 p hp⟩⟩
  rw [e] at h
  exact h
theorem x_lst (h : tA σ H fun xs H1 => NwL H1 xs fun p H' => Q (.ref p) H') : tLst tA σ H Q := by
  have e : (fun (xs : List V) (H1 : Hp) => NwL H1 xs fun p H' => Q (.ref p) H') = fun xs H1 => xs.length ≤ sizeLine ∧ ∀ p, H1 p = none → Q (.ref p) (upd H1 p (.lst xs)) := by
    funext xs H1
    exact propext ⟨fun z => ⟨z.1, fun p hp => z.2 p _ hp rfl⟩, fun z => ⟨z.1, fun p H' hp e => by rw [e]; exact z.2 p hp⟩⟩
  rw [e] at h
  exact h
theorem x_newT {xs : List V} (hl : xs.length ≤ sizeLine) (q : ∀ p H', H p = none → H' p = some (.tup xs) → Ch [] H H' → Q (.ref p) H') : xs.length ≤ sizeLine ∧ ∀ p, H p = none → Q (.ref p) (upd H p (.tup xs)) :=
  ⟨hl, fun p hp => q p _ hp upd_same (Ch.new hp)⟩
theorem x_newL {xs : List V} (hl : xs.length ≤ sizeLine) (q : ∀ p H', H p = none → H' p = some (.lst xs) → Ch [] H H' → Q (.ref p) H') : xs.length ≤ sizeLine ∧ ∀ p, H p = none → Q (.ref p) (upd H p (.lst xs)) :=
  ⟨hl, fun p hp => q p _ hp upd_same (Ch.new hp)⟩
theorem x_call {sp : Sp} {E : XK} (h : tA σ H fun vs H1 => sp (vs ++ []) H1 Q E) : tCall sp [] E tA σ H Q := h
theorem x_CB {r : List V → Hp → VK → Prop} (h : tA σ H fun vs H1 => r vs H1 Q) : tCB r tA σ H Q := h
theorem x_sp {sp : Sp} {E : XK} {vs ws : List V} (e : vs ++ [] = ws) (h : sp ws H Q E) : sp (vs ++ []) H Q E := by subst e; exact h
-- operators by values
theorem x_addI (q : Q (.int (i + j)) H) : rAdd K (.int i) (.int j) H Q := .inl ⟨i, j, rfl, rfl, q⟩
theorem x_addS {z w : Str} (h : z.length + w.length ≤ sizeLine) (q : Q (.str (z ++ w)) H) : rAdd K (.str z) (.str w) H Q := .inr (.inl ⟨z, w, rfl, rfl, h, q⟩)
theorem x_addL {l m : Addr} {xs ys : List V} (hl : H l = some (.lst xs)) (hm : H m = some (.lst ys)) (hz : xs.length + ys.length ≤ sizeLine) (q : ∀ p H', H p = none → H' p = some (.lst (xs ++ ys)) → Ch [] H H' → Q (.ref p) H') : rAdd K (.ref l) (.ref m) H Q :=
  .inr (.inr (.inl ⟨l, m, xs, ys, rfl, rfl, hl, hm, hz, fun p hp => q p _ hp upd_same (Ch.new hp)⟩))
theorem x_addT {l m : Addr} {xs ys : List V} (hl : SqT K H l xs) (hm : SqT K H m ys) (hz : xs.length + ys.length ≤ sizeLine) (q : ∀ p H', SqT K H' p (xs ++ ys) → Ch [] H H' → Q (.ref p) H') : rAdd K (.ref l) (.ref m) H Q := by
  refine .inr (.inr (.inr ⟨l, m, xs, ys, rfl, rfl, hl, hm, hz, fun e => ?_, fun _ e => ?_, fun _ _ p hp => ?_⟩))
  · subst e
    exact q m H hm (Ch.refl H)
  · subst e
    exact q l H (by rw [List.append_nil]; exact hl) (Ch.refl H)
  · exact q p _ (SqT.of upd_same) (Ch.new hp)
theorem x_sub (q : Q (.int (i - j)) H) : rSubI (.int i) (.int j) H Q := ⟨i, j, rfl, rfl, q⟩
theorem x_mul (h : (-(2 ^ 64) < i ∧ i < 2 ^ 64) ∨ (-(2 ^ 64) < j ∧ j < 2 ^ 64)) (q : Q (.int (i * j)) H) : rMulI (.int i) (.int j) H Q := ⟨i, j, rfl, rfl, h, q⟩
theorem x_mod (h : 0 < j) (q : Q (.int (i % j)) H) : rModI (.int i) (.int j) H Q := ⟨i, j, rfl, rfl, h, q⟩
theorem x_div (h : 0 < j ∧ j < 1073741824) (q : Q (.int (i / j)) H) : rDivI (.int i) (.int j) H Q := ⟨i, j, rfl, rfl, h, q⟩
theorem x_pow (h : 0 ≤ j ∧ j ≤ 1000000 ∧ i.natAbs < 2 ^ 64) (q : Q (.int (i ^ j.toNat)) H) : rPowI (.int i) (.int j) H Q := ⟨i, j, rfl, rfl, h, q⟩
theorem x_lt (q : Q (.bl (decide (i < j))) H) : rLtI (.int i) (.int j) H Q := ⟨i, j, rfl, rfl, q⟩
theorem x_le (q : Q (.bl (decide (i ≤ j))) H) : rLeI (.int i) (.int j) H Q := ⟨i, j, rfl, rfl, q⟩
theorem x_gt (q : Q (.bl (decide (j < i))) H) : rGtI (.int i) (.int j) H Q := ⟨i, j, rfl, rfl, q⟩
theorem x_ge (q : Q (.bl (decide (j ≤ i))) H) : rGeI (.int i) (.int j) H Q := ⟨i, j, rfl, rfl, q⟩
theorem x_ltS {z w : Str} (q : Q (.bl (decide (z.cps.toList < w.cps.toList))) H) : rLtS (.str z) (.str w) H Q := ⟨z, w, rfl, rfl, q⟩
theorem deq_int : decide (V.int i = V.int j) = decide (i = j) := by
  rw [Bool.eq_iff_iff]; simp
theorem deq_str {z w : Str} : decide (V.str z = V.str w) = decide (z = w) := by
  rw [Bool.eq_iff_iff]; simp
theorem deq_bl {z w : Bool} : decide (V.bl z = V.bl w) = decide (z = w) := by
  rw [Bool.eq_iff_iff]; simp
theorem x_eqI (q : Q (.bl (decide (i = j))) H) : rEqU K (.int i) (.int j) H Q := .inl ⟨rfl, by rw [deq_int]; exact q⟩
theorem x_eqS {z w : Str} (q : Q (.bl (decide (z = w))) H) : rEqU K (.str z) (.str w) H Q := .inl ⟨rfl, by rw [deq_str]; exact q⟩
theorem x_eqB {z w : Bool} (q : Q (.bl (decide (z = w))) H) : rEqU K (.bl z) (.bl w) H Q := .inl ⟨rfl, by rw [deq_bl]; exact q⟩
theorem x_neI (q : Q (.bl (!decide (i = j))) H) : rNeU K (.int i) (.int j) H Q := .inl ⟨rfl, by rw [deq_int]; exact q⟩
theorem x_neS {z w : Str} (q : Q (.bl (!decide (z = w))) H) : rNeU K (.str z) (.str w) H Q := .inl ⟨rfl, by rw [deq_str]; exact q⟩
theorem x_isN (q : Q (.bl (decide (x = .non))) H) : rIsNo x .non H Q := ⟨rfl, q⟩
theorem x_notN (q : Q (.bl (!decide (x = .non))) H) : rNotNo x .non H Q := ⟨rfl, q⟩
theorem x_inSg {c : Nat} {z : Str} (q : Q (.bl (decide (c ∈ z.cps.toList))) H) : rInU K (.str ⟨#[c]⟩) (.str z) H Q := .inl ⟨c, z, rfl, rfl, q⟩
theorem x_notInSg {c : Nat} {z : Str} (q : Q (.bl (!decide (c ∈ z.cps.toList))) H) : rNotInU K (.str ⟨#[c]⟩) (.str z) H Q := .inl ⟨c, z, rfl, rfl, q⟩
theorem x_inL {p : Addr} {xs : List V} (h : SqL K H p xs) (hx : flatV x = true) (ha : xs.all flatV = true) (q : Q (.bl (inV x xs)) H) : rInU K x (.ref p) H Q := .inr ⟨p, xs, rfl, .inl h, hx, ha, q⟩
theorem x_inT {p : Addr} {xs : List V} (h : SqT K H p xs) (hx : flatV x = true) (ha : xs.all flatV = true) (q : Q (.bl (inV x xs)) H) : rInU K x (.ref p) H Q := .inr ⟨p, xs, rfl, .inr h, hx, ha, q⟩
theorem x_notInL {p : Addr} {xs : List V} (h : SqL K H p xs) (hx : flatV x = true) (ha : xs.all flatV = true) (q : Q (.bl (!inV x xs)) H) : rNotInU K x (.ref p) H Q := .inr ⟨p, xs, rfl, .inl h, hx, ha, q⟩
theorem x_notInT {p : Addr} {xs : List V} (h : SqT K H p xs) (hx : flatV x = true) (ha : xs.all flatV = true) (q : Q (.bl (!inV x xs)) H) : rNotInU K x (.ref p) H Q := .inr ⟨p, xs, rfl, .inr h, hx, ha, q⟩
-- subscripts
theorem x_ixL {p : Addr} {xs : List V} {k : Nat} (h : SqL K H p xs) (e : i = (k : Int)) (ha : xs[k]? = some v) (q : Q v H) : rIx K (.ref p) (.int i) H Q := .inl ⟨p, xs, i, v, rfl, rfl, h, by subst e; exact atI_nat ha, q⟩
theorem x_ixT {p : Addr} {xs : List V} {k : Nat} (h : SqT K H p xs) (e : i = (k : Int)) (ha : xs[k]? = some v) (q : Q v H) : rIx K (.ref p) (.int i) H Q := .inr (.inl ⟨p, xs, i, v, rfl, rfl, h, by subst e; exact atI_nat ha, q⟩)
theorem x_ixS {z : Str} {k c : Nat} (hz : z.length ≤ sizeLine) (e : i = (k : Int)) (ha : z.cps.toList[k]? = some c) (q : Q (.str ⟨#[c]⟩) H) : rIx K (.str z) (.int i) H Q := .inr (.inr ⟨z, i, c, rfl, rfl, hz, by subst e; exact atI_nat ha, q⟩)
-- built-ins
theorem x_lenL {p : Addr} {xs : List V} (h : SqL K H p xs) (q : Q (.int (xs.length : Int)) H) : rLenC K [.ref p] H Q := ⟨_, _, rfl, .inl ⟨xs, h, rfl⟩, q⟩
theorem x_lenT {p : Addr} {xs : List V} (h : SqT K H p xs) (q : Q (.int (xs.length : Int)) H) : rLenC K [.ref p] H Q := ⟨_, _, rfl, .inr ⟨xs, h, rfl⟩, q⟩
theorem x_lenS {z : Str} (h : z.length ≤ sizeLine) (q : Q (.int (z.length : Int)) H) : rLenC K [.str z] H Q := ⟨.str z, z.length, rfl, ⟨h, rfl⟩, q⟩
theorem x_int (q : Q (.int i) H) : rIntC [.int i] H Q := .inl ⟨i, rfl, q⟩
theorem x_listL {p : Addr} {xs : List V} (h : SqL K H p xs) (q : ∀ l H', H l = none → H' l = some (.lst xs) → Ch [] H H' → Q (.ref l) H') : rListC K [.ref p] H Q := ⟨p, xs, rfl, .inl h, fun l hl => q l _ hl upd_same (Ch.new hl)⟩
theorem x_listT {p : Addr} {xs : List V} (h : SqT K H p xs) (q : ∀ l H', H l = none → H' l = some (.lst xs) → Ch [] H H' → Q (.ref l) H') : rListC K [.ref p] H Q := ⟨p, xs, rfl, .inr h, fun l hl => q l _ hl upd_same (Ch.new hl)⟩
theorem x_tupL {p : Addr} {xs : List V} (h : SqL K H p xs) (q : ∀ l H', H l = none → H' l = some (.tup xs) → Ch [] H H' → Q (.ref l) H') : rTupC K [.ref p] H Q := ⟨p, xs, rfl, .inl ⟨h, fun l hl => q l _ hl upd_same (Ch.new hl)⟩⟩
theorem x_tupT {p : Addr} {xs : List V} (h : SqT K H p xs) (q : Q (.ref p) H) : rTupC K [.ref p] H Q := ⟨p, xs, rfl, .inr ⟨h, q⟩⟩
-- list methods
theorem x_append {l : Addr} {xs : List V} (hl : H l = some (.lst xs)) (hz : xs.length < sizeLine) (q : ∀ H', H' l = some (.lst (xs ++ [v])) → Ch [l] H H' → Q .non H') : rAppend (.ref l) [v] H Q :=
  ⟨l, xs, v, rfl, rfl, hl, hz, q _ upd_same (Ch.mut hl rfl)⟩
-- o[i] = e on a list
theorem x_setL {l : Addr} {xs : List V} {k : Nat} {QH : Hp → Prop} (hl : H l = some (.lst xs)) (e : i = (k : Int)) (hk : k < xs.length) (q : ∀ H', H' l = some (.lst (xs.set k v)) → Ch [l] H H' → QH H') : rSetL (.ref l) (.int i) v H QH :=
  ⟨l, xs, i, k, rfl, rfl, hl, by subst e; exact Evl.ixN_nat hk, q _ upd_same (Ch.mut hl rfl)⟩
theorem x_gsub {to ti : TE} {tS : TSet} {Qs : L2.St → Hp → Prop} (h : to σ H fun o H1 => ti σ H1 fun i H2 => tS o i v H2 fun H3 => Qs σ H3) : gSub to ti tS v σ H Qs := h
end
end U

set_option Elab.async false
set_option linter.all false
set_option maxRecDepth 100000
set_option maxHeartbeats 4000000
namespace U
open PySem PySem.Spec PyProof.Rows L2
theorem bb_len : bootBuiltins "len" = some (.builtin "len") := by decide +kernel
theorem bb_isinstance : bootBuiltins "isinstance" = some (.builtin "isinstance") := by decide +kernel
theorem bb_sorted : bootBuiltins "sorted" = some (.builtin "sorted") := by decide +kernel
theorem bb_iter : bootBuiltins "iter" = some (.builtin "iter") := by decide +kernel
theorem bb_sum : bootBuiltins "sum" = some (.builtin "sum") := by decide +kernel
theorem bb_max : bootBuiltins "max" = some (.builtin "max") := by decide +kernel
theorem bb_min : bootBuiltins "min" = some (.builtin "min") := by decide +kernel
theorem bb_int : bootBuiltins "int" = some (.type "int") := by decide +kernel
theorem bb_str : bootBuiltins "str" = some (.type "str") := by decide +kernel
theorem bb_bool : bootBuiltins "bool" = some (.type "bool") := by decide +kernel
theorem bb_list : bootBuiltins "list" = some (.type "list") := by decide +kernel
theorem bb_tuple : bootBuiltins "tuple" = some (.type "tuple") := by decide +kernel
theorem bb_dict : bootBuiltins "dict" = some (.type "dict") := by decide +kernel
theorem bb_set : bootBuiltins "set" = some (.type "set") := by decide +kernel
theorem hu64 {A : Around} {k : Nat} (hr : Room k A) : A.units + 64 < cLine := hr.units
section
variable {X : Cx}
def rSlU (K : PySem.W.Frag) : V → Option Int → Option Int → Hp → VK → Prop := fun x lo hi H Q => rSlL K x lo hi H Q ∨ (rSlS x lo hi H Q ∨ rSlA K x lo hi H Q)
theorem u_slice : SlR X (rSlU X.K) := SlR.or sl_list (SlR.or sl_str sl_tupA)
end
section
variable {K : PySem.W.Frag} {σ σ' : L2.St} {H : Hp} {Q : VK} {v x y : V} {i j : Int} {n : Nat} {te : TE} {lo hi : Option Int} {tl th : TO} {QO : Option Int → Hp → Prop} {N : List Str} {vs : List V} {ts : TS} {D : Ends}
theorem x_start (e : start N vs = σ) (h : ts D σ H) : ts D (start N vs) H := by subst e; exact h
theorem x_sl {r : V → Option Int → Option Int → Hp → VK → Prop} (h : te σ H fun x H1 => tl σ H1 fun lo H2 => th σ H2 fun hi H3 => r x lo hi H3 Q) : tSl r te tl th σ H Q := h
theorem x_po0 (h : QO none H) : tNoPart σ H QO := h
theorem x_po1 (h : te σ H fun x H1 => ∃ i, x = .int i ∧ QO (some i) H1) : tPart te σ H QO := h
theorem x_exI {P : Int → Prop} (h : P i) : ∃ k, V.int i = V.int k ∧ P k := ⟨i, rfl, h⟩
theorem x_slL {p : Addr} {xs : List V} (h : SqL K H p xs) (q : ∀ l H', H l = none → H' l = some (.lst (cutV xs lo hi)) → Ch [] H H' → Q (.ref l) H') : rSlU K (.ref p) lo hi H Q := .inl ⟨p, xs, rfl, h, fun l hl => q l _ hl upd_same (Ch.new hl)⟩
theorem x_slS {z : Str} (h : z.length ≤ sizeLine) (q : Q (.str (cutS z lo hi)) H) : rSlU K (.str z) lo hi H Q := .inr (.inl ⟨z, rfl, h, q⟩)
theorem x_slT {p : Addr} {xs : List V} (h : SqT K H p xs) (q : ∀ l H', SqT K H' l (cutV xs lo hi) → Ch [] H H' → Q (.ref l) H') : rSlU K (.ref p) lo hi H Q := by
  refine .inr (.inr ⟨p, xs, rfl, h, fun e => ?_, fun _ l hl => q l _ (SqT.of upd_same) (Ch.new hl)⟩)
  refine q p H ?_ (Ch.refl H)
  have e2 : cutV xs lo hi = xs := by
    unfold cutV
    rw [e.1, e.2]
    simp
  rw [e2]
  exact h
theorem x_BM {T : String} {r : V → List V → Hp → VK → Prop} {tA : TA} (h : te σ H fun x H1 => tyV K T x H1 ∧ tA σ H1 fun xs H2 => r x xs H2 Q) : tBM K T r te tA σ H Q := h
theorem x_BM0 {T : String} {r : V → List V → Hp → VK → Prop} (h : te σ H fun x H1 => tyV K T x H1 ∧ r x [] H1 Q) : tBM0 K T r te σ H Q := h
theorem x_tyL {a : Addr} {xs : List V} {P : Prop} (h : SqL K H a xs) (q : P) : tyV K "list" (.ref a) H ∧ P := ⟨.inl ⟨rfl, _, h⟩, q⟩
theorem x_tyL' {a : Addr} {xs : List V} {P : Prop} (h : H a = some (.lst xs)) (q : P) : tyV K "list" (.ref a) H ∧ P := ⟨.inl ⟨rfl, _, SqL.of h⟩, q⟩
-- isinstance with a built-in type
theorem x_isi {x : V} {t : Value} {T : String} {b : Bool} (h : TyX K H x t) (e : PySem.W.kitOne K t (.type T) = some b) (q : Q (.bl b) H) : rIsi K [x, .ty T] H Q := ⟨x, .ty T, t, _, b, rfl, .ty T, h, e, q⟩
end
section
variable {x : V} {H : Hp} {Qs : L2.St → Hp → Prop} {t : L2.St} {te : TE} {ip : TIp} {v : V} {nx bk ct : L2.St → Hp → Prop} {rt : VK} {a0 a1 a2 a3 a4 a5 a6 a7 a8 a9 a10 a11 a12 a13 a14 a15 a16 a17 a18 a19 a20 a21 a22 a23 : Option V}
theorem x_name0 (q : Qs (some x :: t) H) : gName 0 x (a0 :: t) H Qs := q
theorem x_aug0 (q : te (some v :: t) H fun y H1 => ip v y H1 fun z H2 => nx (some z :: t) H2) : tAug 0 te ip ⟨nx, rt, bk, ct⟩ (some v :: t) H := ⟨v, rfl, q⟩
theorem x_name1 (q : Qs (a0 :: some x :: t) H) : gName 1 x (a0 :: a1 :: t) H Qs := q
theorem x_aug1 (q : te (a0 :: some v :: t) H fun y H1 => ip v y H1 fun z H2 => nx (a0 :: some z :: t) H2) : tAug 1 te ip ⟨nx, rt, bk, ct⟩ (a0 :: some v :: t) H := ⟨v, rfl, q⟩
theorem x_name2 (q : Qs (a0 :: a1 :: some x :: t) H) : gName 2 x (a0 :: a1 :: a2 :: t) H Qs := q
theorem x_aug2 (q : te (a0 :: a1 :: some v :: t) H fun y H1 => ip v y H1 fun z H2 => nx (a0 :: a1 :: some z :: t) H2) : tAug 2 te ip ⟨nx, rt, bk, ct⟩ (a0 :: a1 :: some v :: t) H := ⟨v, rfl, q⟩
theorem x_name3 (q : Qs (a0 :: a1 :: a2 :: some x :: t) H) : gName 3 x (a0 :: a1 :: a2 :: a3 :: t) H Qs := q
theorem x_aug3 (q : te (a0 :: a1 :: a2 :: some v :: t) H fun y H1 => ip v y H1 fun z H2 => nx (a0 :: a1 :: a2 :: some z :: t) H2) : tAug 3 te ip ⟨nx, rt, bk, ct⟩ (a0 :: a1 :: a2 :: some v :: t) H := ⟨v, rfl, q⟩
theorem x_name4 (q : Qs (a0 :: a1 :: a2 :: a3 :: some x :: t) H) : gName 4 x (a0 :: a1 :: a2 :: a3 :: a4 :: t) H Qs := q
theorem x_aug4 (q : te (a0 :: a1 :: a2 :: a3 :: some v :: t) H fun y H1 => ip v y H1 fun z H2 => nx (a0 :: a1 :: a2 :: a3 :: some z :: t) H2) : tAug 4 te ip ⟨nx, rt, bk, ct⟩ (a0 :: a1 :: a2 :: a3 :: some v :: t) H := ⟨v, rfl, q⟩
theorem x_name5 (q : Qs (a0 :: a1 :: a2 :: a3 :: a4 :: some x :: t) H) : gName 5 x (a0 :: a1 :: a2 :: a3 :: a4 :: a5 :: t) H Qs := q
theorem x_aug5 (q : te (a0 :: a1 :: a2 :: a3 :: a4 :: some v :: t) H fun y H1 => ip v y H1 fun z H2 => nx (a0 :: a1 :: a2 :: a3 :: a4 :: some z :: t) H2) : tAug 5 te ip ⟨nx, rt, bk, ct⟩ (a0 :: a1 :: a2 :: a3 :: a4 :: some v :: t) H := ⟨v, rfl, q⟩
theorem x_name6 (q : Qs (a0 :: a1 :: a2 :: a3 :: a4 :: a5 :: some x :: t) H) : gName 6 x (a0 :: a1 :: a2 :: a3 :: a4 :: a5 :: a6 :: t) H Qs := q
theorem x_aug6 (q : te (a0 :: a1 :: a2 :: a3 :: a4 :: a5 :: some v :: t) H fun y H1 => ip v y H1 fun z H2 => nx (a0 :: a1 :: a2 :: a3 :: a4 :: a5 :: some z :: t) H2) : tAug 6 te ip ⟨nx, rt, bk, ct⟩ (a0 :: a1 :: a2 :: a3 :: a4 :: a5 :: some v :: t) H := ⟨v, rfl, q⟩
theorem x_name7 (q : Qs (a0 :: a1 :: a2 :: a3 :: a4 :: a5 :: a6 :: some x :: t) H) : gName 7 x (a0 :: a1 :: a2 :: a3 :: a4 :: a5 :: a6 :: a7 :: t) H Qs := q
theorem x_aug7 (q : te (a0 :: a1 :: a2 :: a3 :: a4 :: a5 :: a6 :: some v :: t) H fun y H1 => ip v y H1 fun z H2 => nx (a0 :: a1 :: a2 :: a3 :: a4 :: a5 :: a6 :: some z :: t) H2) : tAug 7 te ip ⟨nx, rt, bk, ct⟩ (a0 :: a1 :: a2 :: a3 :: a4 :: a5 :: a6 :: some v :: t) H := ⟨v, rfl, q⟩
theorem x_name8 (q : Qs (a0 :: a1 :: a2 :: a3 :: a4 :: a5 :: a6 :: a7 :: some x :: t) H) : gName 8 x (a0 :: a1 :: a2 :: a3 :: a4 :: a5 :: a6 :: a7 :: a8 :: t) H Qs := q
theorem x_aug8 (q : te (a0 :: a1 :: a2 :: a3 :: a4 :: a5 :: a6 :: a7 :: some v :: t) H fun y H1 => ip v y H1 fun z H2 => nx (a0 :: a1 :: a2 :: a3 :: a4 :: a5 :: a6 :: a7 :: some z :: t) H2) : tAug 8 te ip ⟨nx, rt, bk, ct⟩ (a0 :: a1 :: a2 :: a3 :: a4 :: a5 :: a6 :: a7 :: some v :: t) H := ⟨v, rfl, q⟩
theorem x_name9 (q : Qs (a0 :: a1 :: a2 :: a3 :: a4 :: a5 :: a6 :: a7 :: a8 :: some x :: t) H) : gName 9 x (a0 :: a1 :: a2 :: a3 :: a4 :: a5 :: a6 :: a7 :: a8 :: a9 :: t) H Qs := q
theorem x_aug9 (q : te (a0 :: a1 :: a2 :: a3 :: a4 :: a5 :: a6 :: a7 :: a8 :: some v :: t) H fun y H1 => ip v y H1 fun z H2 => nx (a0 :: a1 :: a2 :: a3 :: a4 :: a5 :: a6 :: a7 :: a8 :: some z :: t) H2) : tAug 9 te ip ⟨nx, rt, bk, ct⟩ (a0 :: a1 :: a2 :: a3 :: a4 :: a5 :: a6 :: a7 :: a8 :: some v :: t) H := ⟨v, rfl, q⟩
theorem x_name10 (q : Qs (a0 :: a1 :: a2 :: a3 :: a4 :: a5 :: a6 :: a7 :: a8 :: a9 :: some x :: t) H) : gName 10 x (a0 :: a1 :: a2 :: a3 :: a4 :: a5 :: a6 :: a7 :: a8 :: a9 :: a10 :: t) H Qs := q
theorem x_aug10 (q : te (a0 :: a1 :: a2 :: a3 :: a4 :: a5 :: a6 :: a7 :: a8 :: a9 :: some v :: t) H fun y H1 => ip v y H1 fun z H2 => nx (a0 :: a1 :: a2 :: a3 :: a4 :: a5 :: a6 :: a7 :: a8 :: a9 :: some z :: t) H2) : tAug 10 te ip ⟨nx, rt, bk, ct⟩ (a0 :: a1 :: a2 :: a3 :: a4 :: a5 :: a6 :: a7 :: a8 :: a9 :: some v :: t) H := ⟨v, rfl, q⟩
theorem x_name11 (q : Qs (a0 :: a1 :: a2 :: a3 :: a4 :: a5 :: a6 :: a7 :: a8 :: a9 :: a10 :: some x :: t) H) : gName 11 x (a0 :: a1 :: a2 :: a3 :: a4 :: a5 :: a6 :: a7 :: a8 :: a9 :: a10 :: a11 :: t) H Qs := q
theorem x_aug11 (q : te (a0 :: a1 :: a2 :: a3 :: a4 :: a5 :: a6 :: a7 :: a8 :: a9 :: a10 :: some v :: t) H fun y H1 => ip v y H1 fun z H2 => nx (a0 :: a1 :: a2 :: a3 :: a4 :: a5 :: a6 :: a7 :: a8 :: a9 :: a10 :: some z :: t) H2) : tAug 11 te ip ⟨nx, rt, bk, ct⟩ (a0 :: a1 :: a2 :: a3 :: a4 :: a5 :: a6 :: a7 :: a8 :: a9 :: a10 :: some v :: t) H := ⟨v, rfl, q⟩
theorem x_name12 (q : Qs (a0 :: a1 :: a2 :: a3 :: a4 :: a5 :: a6 :: a7 :: a8 :: a9 :: a10 :: a11 :: some x :: t) H) : gName 12 x (a0 :: a1 :: a2 :: a3 :: a4 :: a5 :: a6 :: a7 :: a8 :: a9 :: a10 :: a11 :: a12 :: t) H Qs := q
theorem x_aug12 (q : te (a0 :: a1 :: a2 :: a3 :: a4 :: a5 :: a6 :: a7 :: a8 :: a9 :: a10 :: a11 :: some v :: t) H fun y H1 => ip v y H1 fun z H2 => nx (a0 :: a1 :: a2 :: a3 :: a4 :: a5 :: a6 :: a7 :: a8 :: a9 :: a10 :: a11 :: some z :: t) H2) : tAug 12 te ip ⟨nx, rt, bk, ct⟩ (a0 :: a1 :: a2 :: a3 :: a4 :: a5 :: a6 :: a7 :: a8 :: a9 :: a10 :: a11 :: some v :: t) H := ⟨v, rfl, q⟩
theorem x_name13 (q : Qs (a0 :: a1 :: a2 :: a3 :: a4 :: a5 :: a6 :: a7 :: a8 :: a9 :: a10 :: a11 :: a12 :: some x :: t) H) : gName 13 x (a0 :: a1 :: a2 :: a3 :: a4 :: a5 :: a6 :: a7 :: a8 :: a9 :: a10 :: a11 :: a12 :: a13 :: t) H Qs := q
theorem x_aug13 (q : te (a0 :: a1 :: a2 :: a3 :: a4 :: a5 :: a6 :: a7 :: a8 :: a9 :: a10 :: a11 :: a12 :: some v :: t) H fun y H1 => ip v y H1 fun z H2 => nx (a0 :: a1 :: a2 :: a3 :: a4 :: a5 :: a6 :: a7 :: a8 :: a9 :: a10 :: a11 :: a12 :: some z :: t) H2) : tAug 13 te ip ⟨nx, rt, bk, ct⟩ (a0 :: a1 :: a2 :: a3 :: a4 :: a5 :: a6 :: a7 :: a8 :: a9 :: a10 :: a11 :: a12 :: some v :: t) H := ⟨v, rfl, q⟩
theorem x_name14 (q : Qs (a0 :: a1 :: a2 :: a3 :: a4 :: a5 :: a6 :: a7 :: a8 :: a9 :: a10 :: a11 :: a12 :: a13 :: some x :: t) H) : gName 14 x (a0 :: a1 :: a2 :: a3 :: a4 :: a5 :: a6 :: a7 :: a8 :: a9 :: a10 :: a11 :: a12 :: a13 :: a14 :: t) H Qs := q
theorem x_aug14 (q : te (a0 :: a1 :: a2 :: a3 :: a4 :: a5 :: a6 :: a7 :: a8 :: a9 :: a10 :: a11 :: a12 :: a13 :: some v :: t) H fun y H1 => ip v y H1 fun z H2 => nx (a0 :: a1 :: a2 :: a3 :: a4 :: a5 :: a6 :: a7 :: a8 :: a9 :: a10 :: a11 :: a12 :: a13 :: some z :: t) H2) : tAug 14 te ip ⟨nx, rt, bk, ct⟩ (a0 :: a1 :: a2 :: a3 :: a4 :: a5 :: a6 :: a7 :: a8 :: a9 :: a10 :: a11 :: a12 :: a13 :: some v :: t) H := ⟨v, rfl, q⟩
theorem x_name15 (q : Qs (a0 :: a1 :: a2 :: a3 :: a4 :: a5 :: a6 :: a7 :: a8 :: a9 :: a10 :: a11 :: a12 :: a13 :: a14 :: some x :: t) H) : gName 15 x (a0 :: a1 :: a2 :: a3 :: a4 :: a5 :: a6 :: a7 :: a8 :: a9 :: a10 :: a11 :: a12 :: a13 :: a14 :: a15 :: t) H Qs := q
theorem x_aug15 (q : te (a0 :: a1 :: a2 :: a3 :: a4 :: a5 :: a6 :: a7 :: a8 :: a9 :: a10 :: a11 :: a12 :: a13 :: a14 :: some v :: t) H fun y H1 => ip v y H1 fun z H2 => nx (a0 :: a1 :: a2 :: a3 :: a4 :: a5 :: a6 :: a7 :: a8 :: a9 :: a10 :: a11 :: a12 :: a13 :: a14 :: some z :: t) H2) : tAug 15 te ip ⟨nx, rt, bk, ct⟩ (a0 :: a1 :: a2 :: a3 :: a4 :: a5 :: a6 :: a7 :: a8 :: a9 :: a10 :: a11 :: a12 :: a13 :: a14 :: some v :: t) H := ⟨v, rfl, q⟩
theorem x_name16 (q : Qs (a0 :: a1 :: a2 :: a3 :: a4 :: a5 :: a6 :: a7 :: a8 :: a9 :: a10 :: a11 :: a12 :: a13 :: a14 :: a15 :: some x :: t) H) : gName 16 x (a0 :: a1 :: a2 :: a3 :: a4 :: a5 :: a6 :: a7 :: a8 :: a9 :: a10 :: a11 :: a12 :: a13 :: a14 :: a15 :: a16 :: t) H Qs := q
theorem x_aug16 (q : te (a0 :: a1 :: a2 :: a3 :: a4 :: a5 :: a6 :: a7 :: a8 :: a9 :: a10 :: a11 :: a12 :: a13 :: a14 :: a15 :: some v :: t) H fun y H1 => ip v y H1 fun z H2 => nx (a0 :: a1 :: a2 :: a3 :: a4 :: a5 :: a6 :: a7 :: a8 :: a9 :: a10 :: a11 :: a12 :: a13 :: a14 :: a15 :: some z :: t) H2) : tAug 16 te ip ⟨nx, rt, bk, ct⟩ (a0 :: a1 :: a2 :: a3 :: a4 :: a5 :: a6 :: a7 :: a8 :: a9 :: a10 :: a11 :: a12 :: a13 :: a14 :: a15 :: some v :: t) H := ⟨v, rfl, q⟩
theorem x_name17 (q : Qs (a0 :: a1 :: a2 :: a3 :: a4 :: a5 :: a6 :: a7 :: a8 :: a9 :: a10 :: a11 :: a12 :: a13 :: a14 :: a15 :: a16 :: some x :: t) H) : gName 17 x (a0 :: a1 :: a2 :: a3 :: a4 :: a5 :: a6 :: a7 :: a8 :: a9 :: a10 :: a11 :: a12 :: a13 :: a14 :: a15 :: a16 :: a17 :: t) H Qs := q
theorem x_aug17 (q : te (a0 :: a1 :: a2 :: a3 :: a4 :: a5 :: a6 :: a7 :: a8 :: a9 :: a10 :: a11 :: a12 :: a13 :: a14 :: a15 :: a16 :: some v :: t) H fun y H1 => ip v y H1 fun z H2 => nx (a0 :: a1 :: a2 :: a3 :: a4 :: a5 :: a6 :: a7 :: a8 :: a9 :: a10 :: a11 :: a12 :: a13 :: a14 :: a15 :: a16 :: some z :: t) H2) : tAug 17 te ip ⟨nx, rt, bk, ct⟩ (a0 :: a1 :: a2 :: a3 :: a4 :: a5 :: a6 :: a7 :: a8 :: a9 :: a10 :: a11 :: a12 :: a13 :: a14 :: a15 :: a16 :: some v :: t) H := ⟨v, rfl, q⟩
theorem x_name18 (q : Qs (a0 :: a1 :: a2 :: a3 :: a4 :: a5 :: a6 :: a7 :: a8 :: a9 :: a10 :: a11 :: a12 :: a13 :: a14 :: a15 :: a16 :: a17 :: some x :: t) H) : gName 18 x (a0 :: a1 :: a2 :: a3 :: a4 :: a5 :: a6 :: a7 :: a8 :: a9 :: a10 :: a11 :: a12 :: a13 :: a14 :: a15 :: a16 :: a17 :: a18 :: t) H Qs := q
theorem x_aug18 (q : te (a0 :: a1 :: a2 :: a3 :: a4 :: a5 :: a6 :: a7 :: a8 :: a9 :: a10 :: a11 :: a12 :: a13 :: a14 :: a15 :: a16 :: a17 :: some v :: t) H fun y H1 => ip v y H1 fun z H2 => nx (a0 :: a1 :: a2 :: a3 :: a4 :: a5 :: a6 :: a7 :: a8 :: a9 :: a10 :: a11 :: a12 :: a13 :: a14 :: a15 :: a16 :: a17 :: some z :: t) H2) : tAug 18 te ip ⟨nx, rt, bk, ct⟩ (a0 :: a1 :: a2 :: a3 :: a4 :: a5 :: a6 :: a7 :: a8 :: a9 :: a10 :: a11 :: a12 :: a13 :: a14 :: a15 :: a16 :: a17 :: some v :: t) H := ⟨v, rfl, q⟩
theorem x_name19 (q : Qs (a0 :: a1 :: a2 :: a3 :: a4 :: a5 :: a6 :: a7 :: a8 :: a9 :: a10 :: a11 :: a12 :: a13 :: a14 :: a15 :: a16 :: a17 :: a18 :: some x :: t) H) : gName 19 x (a0 :: a1 :: a2 :: a3 :: a4 :: a5 :: a6 :: a7 :: a8 :: a9 :: a10 :: a11 :: a12 :: a13 :: a14 :: a15 :: a16 :: a17 :: a18 :: a19 :: t) H Qs := q
theorem x_aug19 (q : te (a0 :: a1 :: a2 :: a3 :: a4 :: a5 :: a6 :: a7 :: a8 :: a9 :: a10 :: a11 :: a12 :: a13 :: a14 :: a15 :: a16 :: a17 :: a18 :: some v :: t) H fun y H1 => ip v y H1 fun z H2 => nx (a0 :: a1 :: a2 :: a3 :: a4 :: a5 :: a6 :: a7 :: a8 :: a9 :: a10 :: a11 :: a12 :: a13 :: a14 :: a15 :: a16 :: a17 :: a18 :: some z :: t) H2) : tAug 19 te ip ⟨nx, rt, bk, ct⟩ (a0 :: a1 :: a2 :: a3 :: a4 :: a5 :: a6 :: a7 :: a8 :: a9 :: a10 :: a11 :: a12 :: a13 :: a14 :: a15 :: a16 :: a17 :: a18 :: some v :: t) H := ⟨v, rfl, q⟩
theorem x_name20 (q : Qs (a0 :: a1 :: a2 :: a3 :: a4 :: a5 :: a6 :: a7 :: a8 :: a9 :: a10 :: a11 :: a12 :: a13 :: a14 :: a15 :: a16 :: a17 :: a18 :: a19 :: some x :: t) H) : gName 20 x (a0 :: a1 :: a2 :: a3 :: a4 :: a5 :: a6 :: a7 :: a8 :: a9 :: a10 :: a11 :: a12 :: a13 :: a14 :: a15 :: a16 :: a17 :: a18 :: a19 :: a20 :: t) H Qs := q
theorem x_aug20 (q : te (a0 :: a1 :: a2 :: a3 :: a4 :: a5 :: a6 :: a7 :: a8 :: a9 :: a10 :: a11 :: a12 :: a13 :: a14 :: a15 :: a16 :: a17 :: a18 :: a19 :: some v :: t) H fun y H1 => ip v y H1 fun z H2 => nx (a0 :: a1 :: a2 :: a3 :: a4 :: a5 :: a6 :: a7 :: a8 :: a9 :: a10 :: a11 :: a12 :: a13 :: a14 :: a15 :: a16 :: a17 :: a18 :: a19 :: some z :: t) H2) : tAug 20 te ip ⟨nx, rt, bk, ct⟩ (a0 :: a1 :: a2 :: a3 :: a4 :: a5 :: a6 :: a7 :: a8 :: a9 :: a10 :: a11 :: a12 :: a13 :: a14 :: a15 :: a16 :: a17 :: a18 :: a19 :: some v :: t) H := ⟨v, rfl, q⟩
theorem x_name21 (q : Qs (a0 :: a1 :: a2 :: a3 :: a4 :: a5 :: a6 :: a7 :: a8 :: a9 :: a10 :: a11 :: a12 :: a13 :: a14 :: a15 :: a16 :: a17 :: a18 :: a19 :: a20 :: some x :: t) H) : gName 21 x (a0 :: a1 :: a2 :: a3 :: a4 :: a5 :: a6 :: a7 :: a8 :: a9 :: a10 :: a11 :: a12 :: a13 :: a14 :: a15 :: a16 :: a17 :: a18 :: a19 :: a20 :: a21 :: t) H Qs := q
theorem x_aug21 (q : te (a0 :: a1 :: a2 :: a3 :: a4 :: a5 :: a6 :: a7 :: a8 :: a9 :: a10 :: a11 :: a12 :: a13 :: a14 :: a15 :: a16 :: a17 :: a18 :: a19 :: a20 :: some v :: t) H fun y H1 => ip v y H1 fun z H2 => nx (a0 :: a1 :: a2 :: a3 :: a4 :: a5 :: a6 :: a7 :: a8 :: a9 :: a10 :: a11 :: a12 :: a13 :: a14 :: a15 :: a16 :: a17 :: a18 :: a19 :: a20 :: some z :: t) H2) : tAug 21 te ip ⟨nx, rt, bk, ct⟩ (a0 :: a1 :: a2 :: a3 :: a4 :: a5 :: a6 :: a7 :: a8 :: a9 :: a10 :: a11 :: a12 :: a13 :: a14 :: a15 :: a16 :: a17 :: a18 :: a19 :: a20 :: some v :: t) H := ⟨v, rfl, q⟩
end
theorem pe_gc {X : Cx} {x : Str} {v : V} {pos : Pos} (hg : Gl X x) (h : ∃ u, X.mg x = some u ∧ RelV v u) (hd : (x == ("__debug__" : Str)) = false := by decide) : PE X (.Name x pos) (tC v) := by
  obtain ⟨u, e, r⟩ := h
  exact pe_glob hg e r hd
/-! ### loops -/
/-- the loop over J from here on -/
def ForG (J : It) (g : TG) (tb : TS) (D : Ends) (σ : L2.St) (H : Hp) : Prop := ∃ W : Nat → Nat → L2.St → Hp → Prop, (∃ m, W 0 m σ H) ∧ ∀ i m σ H, W i m σ H →
  (J.stop i H ∧ D.nx σ H) ∨ (J.go i H ∧ ∃ N : L2.St → Hp → Prop, (∀ σ' H', N σ' H' → ∃ m', m' < m ∧ W (i + 1) m' σ' H') ∧ ∀ x H', J.yld i H x H' → g x σ H' fun σ2 H2 => tb { D with nx := N, ct := N, bk := D.nx } σ2 H2)
section
variable {K : PySem.W.Frag} {σ : L2.St} {H : Hp} {wi : TI} {g : TG} {tb : TS} {D : Ends} {nx bk ct : L2.St → Hp → Prop} {rt : VK} {ta : TA} {te : TE} {a : Addr} {xs : List V} {R : It → Hp → Prop}
theorem x_for (h : wi σ H fun J H1 => ForG J g tb D σ H1) : tFor wi g tb D σ H := h
theorem x_iR1 (h : ta σ H fun vs H1 => ∃ j : Int, vs = [.int j] ∧ -(2 ^ 62) ≤ j ∧ j < 2 ^ 62 ∧ R (Itr 0 j.toNat) H1) : iRng1 ta σ H R := h
theorem x_iR2 (h : ta σ H fun vs H1 => ∃ i j : Int, vs = [.int i, .int j] ∧ (-(2 ^ 62) ≤ i ∧ i < 2 ^ 62 ∧ -(2 ^ 62) ≤ j ∧ j < 2 ^ 62) ∧ R (Itr i (j - i).toNat) H1) : iRng2 ta σ H R := h
theorem x_iL (h : te σ H fun x H1 => ∃ a, x = .ref a ∧ (∃ xs, SqL K H1 a xs) ∧ R (Itl K a) H1) : iList K te σ H R := h
theorem x_iT (h : te σ H fun x H1 => ∃ a, x = .ref a ∧ (∃ xs, SqT K H1 a xs) ∧ R (Itt K a) H1) : iTup K te σ H R := h
theorem x_iS (h : te σ H fun v H1 => ∃ x, v = .str x ∧ R (Its x) H1) : iStr te σ H R := h
theorem goR {lo : Int} {n : Nat} (Pv : Nat → L2.St → Hp → Prop) (h0 : Pv 0 σ H) (hs : ∀ (i : Nat) σ H, i < n → Pv i σ H → g (.int (lo + i)) σ H fun σ2 H2 => tb ⟨Pv (i + 1), rt, nx, Pv (i + 1)⟩ σ2 H2) (hd : ∀ σ H, Pv n σ H → nx σ H) :
    ForG (Itr lo n) g tb ⟨nx, rt, bk, ct⟩ σ H := for_range (D := ⟨nx, rt, bk, ct⟩) Pv h0 hs hd
theorem goL (xs : List V) (Pv : Nat → L2.St → Hp → Prop) (h0 : Pv 0 σ H) (hl : ∀ i σ H, i ≤ xs.length → Pv i σ H → SqL K H a xs) (hs : ∀ (i : Nat) x σ H, xs[i]? = some x → Pv i σ H → g x σ H fun σ2 H2 => tb ⟨Pv (i + 1), rt, nx, Pv (i + 1)⟩ σ2 H2) (hd : ∀ σ H, Pv xs.length σ H → nx σ H) :
    ForG (Itl K a) g tb ⟨nx, rt, bk, ct⟩ σ H := for_list (D := ⟨nx, rt, bk, ct⟩) Pv h0 hl hs hd
theorem goT (xs : List V) (Pv : Nat → L2.St → Hp → Prop) (h0 : Pv 0 σ H) (hl : ∀ i σ H, i ≤ xs.length → Pv i σ H → SqT K H a xs) (hs : ∀ (i : Nat) x σ H, xs[i]? = some x → Pv i σ H → g x σ H fun σ2 H2 => tb ⟨Pv (i + 1), rt, nx, Pv (i + 1)⟩ σ2 H2) (hd : ∀ σ H, Pv xs.length σ H → nx σ H) :
    ForG (Itt K a) g tb ⟨nx, rt, bk, ct⟩ σ H := for_tup (D := ⟨nx, rt, bk, ct⟩) Pv h0 hl hs hd
theorem goS (z : Str) (Pv : Nat → L2.St → Hp → Prop) (h0 : Pv 0 σ H) (hs : ∀ (i : Nat) c σ H, z.cps.toList[i]? = some c → Pv i σ H → g (.str ⟨#[c]⟩) σ H fun σ2 H2 => tb ⟨Pv (i + 1), rt, nx, Pv (i + 1)⟩ σ2 H2) (hd : ∀ σ H, Pv z.cps.toList.length σ H → nx σ H) :
    ForG (Its z) g tb ⟨nx, rt, bk, ct⟩ σ H := by
  refine ⟨fun i m σ H => m = z.cps.toList.length - i ∧ i ≤ z.cps.toList.length ∧ Pv i σ H, ⟨z.cps.toList.length, by simp, Nat.zero_le _, h0⟩, ?_⟩
  rintro i m σ H ⟨rfl, hi, p⟩
  by_cases hlt : i < z.cps.toList.length
  · refine .inr ⟨by show i < z.cps.size; simpa using hlt, Pv (i + 1), fun σ' H' p' => ⟨z.cps.toList.length - (i + 1), by omega, rfl, hlt, p'⟩, fun x H' y => ?_⟩
    obtain ⟨e, c, hc, ex⟩ := y
    subst e
    subst ex
    exact hs i c σ _ (by simpa using hc) p
  · have e : i = z.cps.toList.length := by omega
    subst e
    exact .inl ⟨by show z.cps.size ≤ _; simp, hd σ H p⟩
def WhE (tb : TS) (rt : VK) (nx : L2.St → Hp → Prop) (W : Nat → L2.St → Hp → Prop) (m : Nat) (σ : L2.St) (H : Hp) : Prop := ∃ N : L2.St → Hp → Prop, (∀ σ' H', N σ' H' → ∃ m', m' < m ∧ W m' σ' H') ∧ tb ⟨N, rt, nx, N⟩ σ H
theorem x_whE {W : Nat → L2.St → Hp → Prop} {m : Nat} (h : tb ⟨fun σ' H' => ∃ m', m' < m ∧ W m' σ' H', rt, nx, fun σ' H' => ∃ m', m' < m ∧ W m' σ' H'⟩ σ H) : WhE tb rt nx W m σ H := ⟨_, fun _ _ z => z, h⟩
theorem x_while {c : TT} (W : Nat → L2.St → Hp → Prop) (m0 : Nat) (h0 : W m0 σ H) (hs : ∀ m σ H, W m σ H → c σ H fun b H1 => if b = true then WhE tb rt nx W m σ H1 else nx σ H1) : tWhile c tb ⟨nx, rt, bk, ct⟩ σ H := ⟨W, ⟨m0, h0⟩, hs⟩
end
/-! ### comprehensions -/
def LcG (J : It) (g : TG) (tt : TT) (te : TE) (vs : List Nat) (σ : L2.St) (D : Addr) (H1 : Hp) (Q : VK) : Prop := ∃ W : Nat → Nat → Hp → Prop, (∃ m, W 0 m (upd H1 D (.lst []))) ∧ ∀ i m H, W i m H →
  (J.stop i H ∧ Q (.ref D) H) ∨ (J.go i H ∧ ∃ Nx : Hp → Prop, (∀ H', Nx H' → ∃ m', m' < m ∧ W (i + 1) m' H') ∧ ∀ x H', J.yld i H x H' → g x (wipe σ vs) H' fun σ2 H2 => wipe σ2 vs = wipe σ vs ∧ tt σ2 H2 fun b H3 =>
    if b = true then te σ2 H3 fun y H4 => ∃ acc, H4 D = some (.lst acc) ∧ acc.length < sizeLine ∧ Nx (upd H4 D (.lst (acc ++ [y]))) else Nx H3)
section
variable {K : PySem.W.Frag} {σ : L2.St} {H H1 : Hp} {wi : TI} {g : TG} {tt : TT} {te : TE} {vs : List Nat} {Q : VK} {D a : Addr} {QB : Bool → Hp → Prop} {j : Nat}
theorem x_lc (h : wi σ H fun J H1 => ∀ D, H1 D = none → LcG J g tt te vs σ D H1 Q) : tLc wi g tt te vs σ H Q := h
theorem x_yes (h : QB true H) : tYes σ H QB := h
theorem wipe1 (σ : L2.St) (x : Option V) : wipe ((wipe σ [j]).set j x) [j] = wipe σ [j] := by
  show ((σ.set j none).set j x).set j none = σ.set j none
  rw [List.set_set, List.set_set]
theorem wipe1' (σ : L2.St) (x : Option V) : (wipe σ [j]).set j x = σ.set j x := by
  show (σ.set j none).set j x = σ.set j x
  rw [List.set_set]
/-- the element y is handed on: it goes to the list at D -/
def LcE (D : Addr) (Pv : Nat → List V → Hp → Prop) (i : Nat) (y : V) (H4 : Hp) : Prop := ∃ acc, H4 D = some (.lst acc) ∧ acc.length < sizeLine ∧ ∃ acc', upd H4 D (.lst (acc ++ [y])) D = some (.lst acc') ∧ Pv (i + 1) acc' (upd H4 D (.lst (acc ++ [y])))
/-- it is left out -/
def LcN (D : Addr) (Pv : Nat → List V → Hp → Prop) (i : Nat) (H3 : Hp) : Prop := ∃ acc, H3 D = some (.lst acc) ∧ Pv (i + 1) acc H3
theorem x_lcE {Pv : Nat → List V → Hp → Prop} {i : Nat} {y : V} {acc : List V} (h : H D = some (.lst acc)) (hz : acc.length < sizeLine) (q : ∀ H5, H5 D = some (.lst (acc ++ [y])) → Ch [D] H H5 → Pv (i + 1) (acc ++ [y]) H5) : LcE D Pv i y H :=
  ⟨acc, h, hz, _, upd_same, q _ upd_same (Ch.mut h rfl)⟩
theorem x_lcN {Pv : Nat → List V → Hp → Prop} {i : Nat} {acc : List V} (h : H D = some (.lst acc)) (q : Pv (i + 1) acc H) : LcN D Pv i H := ⟨acc, h, q⟩
theorem lcR {lo : Int} {n : Nat} (hD : H1 D = none) (Pv : Nat → List V → Hp → Prop) (h0 : ∀ H', H' D = some (.lst []) → Ch [] H1 H' → Pv 0 [] H')
    (hs : ∀ (i : Nat) acc H, i < n → Pv i acc H → H D = some (.lst acc) → gName j (.int (lo + i)) σ H fun σ2 H2 => tt σ2 H2 fun b H3 => if b = true then te σ2 H3 fun y H4 => LcE D Pv i y H4 else LcN D Pv i H3)
    (hd : ∀ acc H, Pv n acc H → H D = some (.lst acc) → Q (.ref D) H) : LcG (Itr lo n) (gName j) tt te [j] σ D H1 Q := by
  refine lc_range (lo := lo) (n := n) (fun i H => ∃ acc, H D = some (.lst acc) ∧ Pv i acc H) ⟨[], upd_same, h0 _ upd_same (Ch.new hD)⟩ (fun i H hi p => ?_) fun H p => ?_
  · obtain ⟨acc, hA, p⟩ := p
    have q := hs i acc H hi p hA
    show wipe ((wipe σ [j]).set j _) [j] = wipe σ [j] ∧ tt ((wipe σ [j]).set j _) H _
    refine ⟨wipe1 σ _, ?_⟩
    rw [wipe1']
    exact q
  · obtain ⟨acc, hA, p⟩ := p
    exact hd acc H p hA
theorem lcL (xs : List V) (hD : H1 D = none) (Pv : Nat → List V → Hp → Prop) (h0 : ∀ H', H' D = some (.lst []) → Ch [] H1 H' → Pv 0 [] H') (hl : ∀ i acc H, i ≤ xs.length → Pv i acc H → SqL K H a xs)
    (hs : ∀ (i : Nat) x acc H, xs[i]? = some x → Pv i acc H → H D = some (.lst acc) → gName j x σ H fun σ2 H2 => tt σ2 H2 fun b H3 => if b = true then te σ2 H3 fun y H4 => LcE D Pv i y H4 else LcN D Pv i H3)
    (hd : ∀ acc H, Pv xs.length acc H → H D = some (.lst acc) → Q (.ref D) H) : LcG (Itl K a) (gName j) tt te [j] σ D H1 Q := by
  refine lc_list (K := K) (a := a) (xs := xs) (fun i H => ∃ acc, H D = some (.lst acc) ∧ Pv i acc H) ⟨[], upd_same, h0 _ upd_same (Ch.new hD)⟩ (fun i H hi p => ?_) (fun i x H hi p => ?_) fun H p => ?_
  · obtain ⟨acc, hA, p⟩ := p
    exact hl i acc H hi p
  · obtain ⟨acc, hA, p⟩ := p
    have q := hs i x acc H hi p hA
    show wipe ((wipe σ [j]).set j _) [j] = wipe σ [j] ∧ tt ((wipe σ [j]).set j _) H _
    refine ⟨wipe1 σ _, ?_⟩
    rw [wipe1']
    exact q
  · obtain ⟨acc, hA, p⟩ := p
    exact hd acc H p hA
/-- a tuple walked, one name or several -/
theorem lcTG (xs : List V) (hD : H1 D = none) (Pv : Nat → List V → Hp → Prop) (h0 : ∀ H', H' D = some (.lst []) → Ch [] H1 H' → Pv 0 [] H') (hl : ∀ i acc H, i ≤ xs.length → Pv i acc H → SqT K H a xs)
    (hs : ∀ (i : Nat) x acc H, xs[i]? = some x → Pv i acc H → H D = some (.lst acc) → g x (wipe σ vs) H fun σ2 H2 => wipe σ2 vs = wipe σ vs ∧ tt σ2 H2 fun b H3 => if b = true then te σ2 H3 fun y H4 => LcE D Pv i y H4 else LcN D Pv i H3)
    (hd : ∀ acc H, Pv xs.length acc H → H D = some (.lst acc) → Q (.ref D) H) : LcG (Itt K a) g tt te vs σ D H1 Q := by
  refine lc_tup (K := K) (a := a) (xs := xs) (fun i H => ∃ acc, H D = some (.lst acc) ∧ Pv i acc H) ⟨[], upd_same, h0 _ upd_same (Ch.new hD)⟩ (fun i H hi p => ?_) (fun i x H hi p => ?_) fun H p => ?_
  · obtain ⟨acc, hA, p⟩ := p
    exact hl i acc H hi p
  · obtain ⟨acc, hA, p⟩ := p
    exact hs i x acc H hi p hA
  · obtain ⟨acc, hA, p⟩ := p
    exact hd acc H p hA
end
section
variable {K : PySem.W.Frag} {σ : L2.St} {H : Hp} {g : TG} {tb : TS} {D : Ends} {tt : TT} {te : TE} {vs : List Nat} {Q : VK} {a : Addr} {xs : List V}
theorem x_iR1a {j : Int} (h : -(2 ^ 62) ≤ j ∧ j < 2 ^ 62) (q : ForG (Itr 0 j.toNat) g tb D σ H) : ∃ i : Int, [V.int j] = [V.int i] ∧ -(2 ^ 62) ≤ i ∧ i < 2 ^ 62 ∧ ForG (Itr 0 i.toNat) g tb D σ H := ⟨j, rfl, h.1, h.2, q⟩
theorem x_iR1c {j : Int} (h : -(2 ^ 62) ≤ j ∧ j < 2 ^ 62) (q : ∀ D, H D = none → LcG (Itr 0 j.toNat) g tt te vs σ D H Q) : ∃ i : Int, [V.int j] = [V.int i] ∧ -(2 ^ 62) ≤ i ∧ i < 2 ^ 62 ∧ ∀ D, H D = none → LcG (Itr 0 i.toNat) g tt te vs σ D H Q := ⟨j, rfl, h.1, h.2, q⟩
theorem x_iR2a {i j : Int} (h : -(2 ^ 62) ≤ i ∧ i < 2 ^ 62 ∧ -(2 ^ 62) ≤ j ∧ j < 2 ^ 62) (q : ForG (Itr i (j - i).toNat) g tb D σ H) : ∃ i' j' : Int, [V.int i, V.int j] = [V.int i', V.int j'] ∧ (-(2 ^ 62) ≤ i' ∧ i' < 2 ^ 62 ∧ -(2 ^ 62) ≤ j' ∧ j' < 2 ^ 62) ∧ ForG (Itr i' (j' - i').toNat) g tb D σ H := ⟨i, j, rfl, h, q⟩
theorem x_iR2c {i j : Int} (h : -(2 ^ 62) ≤ i ∧ i < 2 ^ 62 ∧ -(2 ^ 62) ≤ j ∧ j < 2 ^ 62) (q : ∀ D, H D = none → LcG (Itr i (j - i).toNat) g tt te vs σ D H Q) : ∃ i' j' : Int, [V.int i, V.int j] = [V.int i', V.int j'] ∧ (-(2 ^ 62) ≤ i' ∧ i' < 2 ^ 62 ∧ -(2 ^ 62) ≤ j' ∧ j' < 2 ^ 62) ∧ ∀ D, H D = none → LcG (Itr i' (j' - i').toNat) g tt te vs σ D H Q := ⟨i, j, rfl, h, q⟩
theorem x_iLa (h : SqL K H a xs) (q : ForG (Itl K a) g tb D σ H) : ∃ b, V.ref a = .ref b ∧ (∃ xs, SqL K H b xs) ∧ ForG (Itl K b) g tb D σ H := ⟨a, rfl, ⟨xs, h⟩, q⟩
theorem x_iLc (h : SqL K H a xs) (q : ∀ D, H D = none → LcG (Itl K a) g tt te vs σ D H Q) : ∃ b, V.ref a = .ref b ∧ (∃ xs, SqL K H b xs) ∧ ∀ D, H D = none → LcG (Itl K b) g tt te vs σ D H Q := ⟨a, rfl, ⟨xs, h⟩, q⟩
theorem x_iTa (h : SqT K H a xs) (q : ForG (Itt K a) g tb D σ H) : ∃ b, V.ref a = .ref b ∧ (∃ xs, SqT K H b xs) ∧ ForG (Itt K b) g tb D σ H := ⟨a, rfl, ⟨xs, h⟩, q⟩
theorem x_iTc (h : SqT K H a xs) (q : ∀ D, H D = none → LcG (Itt K a) g tt te vs σ D H Q) : ∃ b, V.ref a = .ref b ∧ (∃ xs, SqT K H b xs) ∧ ∀ D, H D = none → LcG (Itt K b) g tt te vs σ D H Q := ⟨a, rfl, ⟨xs, h⟩, q⟩
theorem x_iSa {z : Str} (q : ForG (Its z) g tb D σ H) : ∃ x, V.str z = .str x ∧ ForG (Its x) g tb D σ H := ⟨z, rfl, q⟩
theorem x_iSc {z : Str} (q : ∀ D, H D = none → LcG (Its z) g tt te vs σ D H Q) : ∃ x, V.str z = .str x ∧ ∀ D, H D = none → LcG (Its x) g tt te vs σ D H Q := ⟨z, rfl, q⟩
end
/-! ### items at written places -/
section
variable {K : PySem.W.Frag} {H : Hp} {Q : VK} {v x y : V} {i : Int} {p l : Addr} {xs : List V}
theorem g_len {vs : List V} (h : rLenC K vs H Q) : rLenC K vs H Q := h
theorem g_tyV {T : String} {P : Prop} (h : tyV K T x H ∧ P) : tyV K T x H ∧ P := h
theorem g_ix (h : rIx K x y H Q) : rIx K x y H Q := h
theorem x_ixL0 (h : SqL K H p xs) (h0 : 0 ≤ i) (ha : xs[i.toNat]? = some v) (q : Q v H) : rIx K (.ref p) (.int i) H Q := x_ixL h (Int.toNat_of_nonneg h0).symm ha q
theorem x_ixT0 (h : SqT K H p xs) (h0 : 0 ≤ i) (ha : xs[i.toNat]? = some v) (q : Q v H) : rIx K (.ref p) (.int i) H Q := x_ixT h (Int.toNat_of_nonneg h0).symm ha q
theorem x_setL0 {QH : Hp → Prop} (hl : H l = some (.lst xs)) (h0 : 0 ≤ i) (hk : i.toNat < xs.length) (q : ∀ H', H' l = some (.lst (xs.set i.toNat v)) → Ch [l] H H' → QH H') : rSetL (.ref l) (.int i) v H QH := x_setL hl (Int.toNat_of_nonneg h0).symm hk q
theorem x_neg {g : Int → V} (q : Q (g i) H) : rU g (.int i) H Q := ⟨i, rfl, q⟩
theorem x_spA {sp : Sp} {E : XK} {vs : List V} (h : sp vs H Q E) : sp (vs ++ []) H Q E := by rw [List.append_nil]; exact h
end
theorem nT {H : Hp} {R : Addr → Hp → Prop} {xs : List V} (q : ∀ p H', H p = none → H' p = some (.tup xs) → Ch [] H H' → R p H') (hl : xs.length ≤ sizeLine := by first | decide | (simp only [List.length_cons, List.length_nil]; decide)) : NwT H xs R := ⟨hl, fun p H' hp e => q p H' hp (by rw [e]; exact upd_same) (by rw [e]; exact Ch.new hp)⟩
theorem nL {H : Hp} {R : Addr → Hp → Prop} {xs : List V} (q : ∀ p H', H p = none → H' p = some (.lst xs) → Ch [] H H' → R p H') (hl : xs.length ≤ sizeLine := by first | decide | (simp only [List.length_cons, List.length_nil]; decide)) : NwL H xs R := ⟨hl, fun p H' hp e => q p H' hp (by rw [e]; exact upd_same) (by rw [e]; exact Ch.new hp)⟩
theorem ite_nT {a b : Prop} (h : b) : if (!true) = true then a else b := ite_F h
theorem ite_nF {a b : Prop} (h : a) : if (!false) = true then a else b := ite_T h
theorem hp_up {H : Hp} {p a : Addr} {o u : HO} (n : H p = none) (h : H a = some u) : upd H p o a = some u := by rw [upd_ne (ne_of_none h n)]; exact h
section
variable {l : Addr} {v : V} {H : Hp} {QH : Hp → Prop} {t : List V} {a0 a1 a2 a3 a4 a5 a6 a7 : V}
theorem x_set0 (hl : H l = some (.lst (a0 :: t))) (q : ∀ H1, H1 l = some (.lst (v :: t)) → Ch [l] H H1 → QH H1) : rSetL (.ref l) (.int 0) v H QH := x_setL (k := 0) hl rfl (by simp) q
theorem x_set1 (hl : H l = some (.lst (a0 :: a1 :: t))) (q : ∀ H1, H1 l = some (.lst (a0 :: v :: t)) → Ch [l] H H1 → QH H1) : rSetL (.ref l) (.int 1) v H QH := x_setL (k := 1) hl rfl (by simp) q
theorem x_set2 (hl : H l = some (.lst (a0 :: a1 :: a2 :: t))) (q : ∀ H1, H1 l = some (.lst (a0 :: a1 :: v :: t)) → Ch [l] H H1 → QH H1) : rSetL (.ref l) (.int 2) v H QH := x_setL (k := 2) hl rfl (by simp) q
theorem x_set3 (hl : H l = some (.lst (a0 :: a1 :: a2 :: a3 :: t))) (q : ∀ H1, H1 l = some (.lst (a0 :: a1 :: a2 :: v :: t)) → Ch [l] H H1 → QH H1) : rSetL (.ref l) (.int 3) v H QH := x_setL (k := 3) hl rfl (by simp) q
theorem x_set4 (hl : H l = some (.lst (a0 :: a1 :: a2 :: a3 :: a4 :: t))) (q : ∀ H1, H1 l = some (.lst (a0 :: a1 :: a2 :: a3 :: v :: t)) → Ch [l] H H1 → QH H1) : rSetL (.ref l) (.int 4) v H QH := x_setL (k := 4) hl rfl (by simp) q
theorem x_set5 (hl : H l = some (.lst (a0 :: a1 :: a2 :: a3 :: a4 :: a5 :: t))) (q : ∀ H1, H1 l = some (.lst (a0 :: a1 :: a2 :: a3 :: a4 :: v :: t)) → Ch [l] H H1 → QH H1) : rSetL (.ref l) (.int 5) v H QH := x_setL (k := 5) hl rfl (by simp) q
end
theorem Ch.any {S : List Addr} {H H' : Hp} (c : Ch [] H H') : Ch S H H' := c.mono fun _ z => by cases z
end U

set_option Elab.async false
set_option linter.all false
set_option maxRecDepth 100000
set_option maxHeartbeats 4000000
/-! names: plain Lean over codes -/
namespace U
open PySem
def isLow (c : Nat) : Bool := decide (97 ≤ c ∧ c ≤ 122)
def isAln (c : Nat) : Bool := isLow c || decide (48 ≤ c ∧ c ≤ 57)
abbrev sLow : Str := "abcdefghijklmnopqrstuvwxyz"
abbrev sDig : Str := "0123456789"
abbrev sAln : Str := "abcdefghijklmnopqrstuvwxyz0123456789"
theorem low_list : sLow.cps.toList = List.range' 97 26 := by decide +kernel
theorem dig_list : sDig.cps.toList = List.range' 48 10 := by decide +kernel
theorem aln_list : sAln.cps.toList = List.range' 97 26 ++ List.range' 48 10 := by decide +kernel
theorem mem_low {c : Nat} : c ∈ sLow.cps.toList ↔ isLow c = true := by
  rw [low_list, List.mem_range'_1]
  unfold isLow
  rw [decide_eq_true_eq]
  omega
theorem mem_dig {c : Nat} : c ∈ sDig.cps.toList ↔ 48 ≤ c ∧ c ≤ 57 := by
  rw [dig_list, List.mem_range'_1]
  omega
theorem mem_aln {c : Nat} : c ∈ sAln.cps.toList ↔ isAln c = true := by
  rw [aln_list, List.mem_append, List.mem_range'_1, List.mem_range'_1]
  unfold isAln isLow
  rw [Bool.or_eq_true, decide_eq_true_eq, decide_eq_true_eq]
  omega
theorem low_at {k : Nat} (h : k < 26) : ∃ c, sAln.cps.toList[k]? = some c ∧ isLow c = true := by
  refine ⟨97 + k, ?_, ?_⟩
  · rw [aln_list, List.getElem?_append_left (by rw [List.length_range']; exact h), List.getElem?_range' h]
    simp
  · unfold isLow
    rw [decide_eq_true_eq]
    omega
theorem aln_at {k : Nat} (h : k < 36) : ∃ c, sAln.cps.toList[k]? = some c ∧ isAln c = true := by
  by_cases h1 : k < 26
  · obtain ⟨c, e, p⟩ := low_at h1
    refine ⟨c, e, ?_⟩
    unfold isAln
    rw [p]
    rfl
  · refine ⟨48 + (k - 26), ?_, ?_⟩
    · rw [aln_list, List.getElem?_append_right (by rw [List.length_range']; omega), List.length_range', List.getElem?_range' (by omega)]
      simp
    · unfold isAln
      rw [Bool.or_eq_true]
      right
      rw [decide_eq_true_eq]
      omega
/-- the signs are a name's -/
def okName : List Nat → Bool
  | [] => false
  | c :: cs => decide ((c :: cs).length ≤ 12) && (isLow c && (c :: cs).all isAln)
theorem okName_cons (c : Nat) (cs : List Nat) : okName (c :: cs) = (decide ((c :: cs).length ≤ 12) && (isLow c && (c :: cs).all isAln)) := rfl
def IsName (z : Str) : Prop := okName z.cps.toList = true
theorem str_len (z : Str) : z.length = z.cps.toList.length := by
  show z.cps.size = _
  rw [Array.length_toList]
theorem app_list (a y : Str) : (a ++ y).cps.toList = a.cps.toList ++ y.cps.toList := by
  show (a.cps ++ y.cps).toList = _
  rw [Array.toList_append]
theorem toList_one (c : Nat) : (⟨#[c]⟩ : Str).cps.toList = [c] := rfl
theorem str_ext {a b : Str} (h : a.cps.toList = b.cps.toList) : a = b := by
  obtain ⟨⟨a⟩⟩ := a
  obtain ⟨⟨b⟩⟩ := b
  have h2 : a = b := h
  rw [h2]
theorem IsName.inv {z : Str} (h : IsName z) : ∃ c cs, z.cps.toList = c :: cs ∧ (c :: cs).length ≤ 12 ∧ isLow c = true ∧ ∀ d ∈ c :: cs, isAln d = true := by
  unfold IsName at h
  cases e : z.cps.toList with
  | nil =>
    rw [e] at h
    cases h
  | cons c cs =>
    rw [e] at h
    unfold okName at h
    rw [Bool.and_eq_true, Bool.and_eq_true, decide_eq_true_eq] at h
    exact ⟨c, cs, rfl, h.1, h.2.1, fun d hd => List.all_eq_true.mp h.2.2 d hd⟩
theorem isName_of {z : Str} {c : Nat} {cs : List Nat} (e : z.cps.toList = c :: cs) (h1 : (c :: cs).length ≤ 12) (h2 : isLow c = true) (h3 : ∀ d ∈ c :: cs, isAln d = true) : IsName z := by
  unfold IsName
  rw [e]
  unfold okName
  rw [Bool.and_eq_true, Bool.and_eq_true, decide_eq_true_eq]
  exact ⟨h1, h2, List.all_eq_true.mpr h3⟩
theorem low_aln {c : Nat} (h : isLow c = true) : isAln c = true := by
  unfold isAln
  rw [h]
  rfl
theorem IsName.length {z : Str} (h : IsName z) : z.length ≤ 12 := by
  obtain ⟨c, cs, e, h1, _⟩ := h.inv
  rw [str_len, e]
  exact h1
theorem IsName.pos {z : Str} (h : IsName z) : 0 < z.length := by
  obtain ⟨c, cs, e, h1, _⟩ := h.inv
  rw [str_len, e]
  exact Nat.succ_pos _
theorem isName_one {c : Nat} (h : isLow c = true) : IsName ⟨#[c]⟩ := isName_of (toList_one c) (by show 1 ≤ 12; decide) h fun d hd => by
  rw [List.mem_singleton.mp hd]
  exact low_aln h
theorem isName_app {z : Str} {c : Nat} (h : IsName z) (hl : z.length < 12) (hc : isAln c = true) : IsName (z ++ ⟨#[c]⟩) := by
  obtain ⟨d, ds, e, h1, h2, h3⟩ := h.inv
  rw [str_len, e] at hl
  refine isName_of (c := d) (cs := ds ++ [c]) (by rw [app_list, e, toList_one]; rfl) ?_ h2 fun x hx => ?_
  · simp only [List.length_cons, List.length_append, List.length_nil] at hl ⊢
    omega
  · rcases List.mem_append.mp (show x ∈ (d :: ds) ++ [c] from hx) with q | q
    · exact h3 x q
    · rw [List.mem_singleton.mp q]
      exact hc
/-- cut behind eleven signs, it is a name -/
theorem isName_take {z y : Str} (h : IsName z) (e : y.cps.toList = z.cps.toList.take 11) : IsName y ∧ y.length ≤ 11 := by
  obtain ⟨d, ds, e1, h1, h2, h3⟩ := h.inv
  rw [e1] at e
  refine ⟨isName_of (c := d) (cs := ds.take 10) (by rw [e]; rfl) ?_ h2 fun x hx => ?_, ?_⟩
  · rw [List.length_cons, List.length_take]
    omega
  · rcases List.mem_cons.mp hx with q | q
    · exact h3 x (by rw [q]; exact List.mem_cons_self)
    · exact h3 x (List.mem_cons_of_mem _ (List.mem_of_mem_take q))
  · rw [str_len, e, List.length_take]
    omega
theorem sAln_eq : (sLow ++ sDig : Str) = sAln := by decide +kernel
theorem low_at' {k : Nat} (h : k < 26) : ∃ c, (sLow ++ sDig : Str).cps.toList[k]? = some c ∧ isLow c = true := by
  rw [sAln_eq]
  exact low_at h
theorem aln_at' {k : Nat} (h : k < 36) : ∃ c, (sLow ++ sDig : Str).cps.toList[k]? = some c ∧ isAln c = true := by
  rw [sAln_eq]
  exact aln_at h
open L2 in
theorem inV_str (z : Str) (us : List Str) : inV (.str z) (us.map V.str) = decide (z ∈ us) := by
  induction us with
  | nil => rfl
  | cons u us ih =>
    show (eqV (.str u) (.str z) || inV (.str z) (us.map V.str)) = _
    rw [ih, Bool.eq_iff_iff, Bool.or_eq_true, decide_eq_true_eq, decide_eq_true_eq, List.mem_cons]
    have e : (eqV (.str u) (.str z) = true) ↔ z = u := by
      show (u == z) = true ↔ _
      rw [beq_iff_eq]
      exact eq_comm
    rw [e]
open L2 in
theorem flat_str (us : List Str) : (us.map V.str).all flatV = true := by
  induction us with
  | nil => rfl
  | cons u us ih => exact ih
theorem len_of_sub {α : Type} [DecidableEq α] : ∀ {l m : List α}, l.Nodup → (∀ x ∈ l, x ∈ m) → l.length ≤ m.length
  | [], _, _, _ => Nat.zero_le _
  | x :: l, m, hn, hs => by
    have hx : x ∈ m := hs x List.mem_cons_self
    have h := len_of_sub (l := l) (m := m.erase x) (List.nodup_cons.mp hn).2 fun y hy => by
      refine (List.mem_erase_of_ne ?_).mpr (hs y (List.mem_cons_of_mem _ hy))
      rintro rfl
      exact (List.nodup_cons.mp hn).1 hy
    rw [List.length_erase_of_mem hx] at h
    have := List.length_pos_of_mem hx
    rw [List.length_cons]
    omega
open L2 in
theorem cut11 (z : Str) : (cutS z none (some 11)).cps.toList = z.cps.toList.take 11 := by
  show ((z.cps.toList.drop 0).take (min 11 z.length - 0)) = _
  rw [List.drop_zero, Nat.sub_zero, str_len]
  by_cases h : 11 ≤ z.cps.toList.length
  · rw [Nat.min_eq_left h]
  · rw [Nat.min_eq_right (by omega), List.take_of_length_le (Nat.le_refl _), List.take_of_length_le (by omega)]
theorem nodup_map {α β : Type} {f : α → β} (hf : ∀ a b, f a = f b → a = b) : ∀ {l : List α}, l.Nodup → (l.map f).Nodup
  | [], _ => List.nodup_nil
  | a :: l, h => by
    rw [List.map_cons]
    refine List.nodup_cons.mpr ⟨fun z => ?_, nodup_map hf (List.nodup_cons.mp h).2⟩
    obtain ⟨b, hb, e⟩ := List.mem_map.mp z
    rw [hf b a e] at hb
    exact (List.nodup_cons.mp h).1 hb
theorem app_one_inj {y : Str} {c d : Nat} (h : y ++ ⟨#[c]⟩ = y ++ (⟨#[d]⟩ : Str)) : c = d := by
  have q := congrArg (fun z : Str => z.cps.toList) h
  simp only [app_list, toList_one] at q
  have q2 := List.append_cancel_left q
  exact (List.cons.inj q2).1
theorem aln_nodup : (sLow ++ sDig : Str).cps.toList.Nodup := by
  rw [sAln_eq, aln_list]
  decide
end U

set_option Elab.async false
set_option linter.all false
set_option maxRecDepth 100000
set_option maxHeartbeats 4000000
/-! own classes' special methods -/
namespace U
open PySem PySem.Spec PyProof.Rows L2
theorem FD.raw {P : Program} {w : World} {K : PySem.W.Frag} {mg : Str → Option Value} {base : Heap} {CX : CXT} {k : Nat} {f : Addr} {ps : List Str} {sp : Sp} (F : FD P w K mg base CX k f ps sp) : FnR P w K mg base CX k f sp := by
  obtain ⟨fd, a, b⟩ := F.ex
  exact (a.raw b .nil).imp fun vs H Q E h => by rw [List.append_nil]; exact h
theorem fnIn_of {K : PySem.W.Frag} {x qual : Str} {params : Arguments} {body : List Stmt} {scope : Scope} {dvs : List V} {kws : List (Str × V)} {f : Addr} (F : ∃ fd, FunD K x qual params body scope dvs kws f fd) : PySem.W.fnIn K f = true := by
  obtain ⟨fd, F⟩ := F
  obtain ⟨oc, od, dV, kV, doc, pm, an, cdv, ct, osl, rfl, lk, _⟩ := F.ex
  unfold PySem.W.fnIn
  rw [lk]
section
variable {X : Cx} {CX : CXT} {k : Nat} {f C a dx : Addr} {fs : List (Str × V)} {sp : Sp} {E : XK} {A : Around} {pins : List (Addr × Obj)} {σ : L2.St} {H : Hp} {s : Shared}
theorem run_co {Q : VK} {us : List Value} {vs : List V} (F : FnR X.prog X.w X.K X.mg X.base CX k f sp) (hr : Room k A) (fr : A.frames = X.A.frames) (hx : Passes CX X E) (I : Inv X pins σ H s) (r : Vals vs us) (h : sp vs H Q E) :
    codeAny (model X.prog X.w) A (.call (.ref f) ⟨us, []⟩) (fun r s' => match r with | .ok (.ret v) => EP X pins σ Q v s' | .ok _ => False | .error e => X.xe e s') s := by
  have e0 : Env0 X.prog X.w X.K X.mg X.base A X.stack s H := by
    have e := I.env0
    exact ⟨by rw [fr]; exact e.frames, e.mod, e.bs, e.bsz, e.funs, e.frf, e.hok, e.bare⟩
  refine codeAny_mono (F A X.stack s H us vs Q E hr e0 r h) fun r s' hq => ?_
  cases r with
  | error e => exact hx pins σ H s e s' I hq
  | ok fl =>
    cases fl with
    | ret u => exact I.after hq
    | next => exact False.elim hq
    | brk => exact False.elim hq
    | cont => exact False.elim hq
/-- the callee runs, somewhere below the body -/
theorem run_at {Q : VK} {us : List Value} {vs : List V} (F : FnR X.prog X.w X.K X.mg X.base CX k f sp) (hr : Room k A) (fr : A.frames = X.A.frames) (hx : Passes CX X E) (I : Inv X pins σ H s) (r : Vals vs us) (h : sp vs H Q E) :
    wpAny (model X.prog X.w) A (call (.ref f) us) (EP X pins σ Q) X.xe s := by
  have e0 : Env0 X.prog X.w X.K X.mg X.base A X.stack s H := by
    have e := I.env0
    exact ⟨by rw [fr]; exact e.frames, e.mod, e.bs, e.bsz, e.funs, e.frf, e.hok, e.bare⟩
  refine wpAny_call (codeAny_mono (F A X.stack s H us vs Q E hr e0 r h) fun r s' hq => ?_)
  cases r with
  | error e => exact hx pins σ H s e s' I hq
  | ok fl =>
    cases fl with
    | ret u => exact I.after hq
    | next => exact False.elim hq
    | brk => exact False.elim hq
    | cont => exact False.elim hq
theorem run_at0 {Q : VK} {us : List Value} {vs : List V} {E' : Value → Shared → Prop} {E : XK} (F : FnR X.prog X.w X.K X.mg X.base CX0 k f sp) (hr : Room k A) (fr : A.frames = X.A.frames) (I : Inv X pins σ H s) (r : Vals vs us) (h : sp vs H Q E) :
    wpAny (model X.prog X.w) A (call (.ref f) us) (EP X pins σ Q) E' s := by
  have e0 : Env0 X.prog X.w X.K X.mg X.base A X.stack s H := by
    have e := I.env0
    exact ⟨by rw [fr]; exact e.frames, e.mod, e.bs, e.bsz, e.funs, e.frf, e.hok, e.bare⟩
  refine wpAny_call (codeAny_mono (F A X.stack s H us vs Q E hr e0 r h) fun r s' hq => ?_)
  cases r with
  | error e => exact False.elim hq
  | ok fl =>
    cases fl with
    | ret u => exact I.after hq
    | next => exact False.elim hq
    | brk => exact False.elim hq
    | cont => exact False.elim hq
theorem inst_at (I : Inv X pins σ H s) (e : H a = some (.ins C dx fs)) : ∃ od, PySem.W.InstAt s.heap a (PySem.W.instObj C dx) C (some od) := by
  obtain ⟨mA, O, _⟩ := ins_get I.hok e
  obtain ⟨od, J, _⟩ := O.look
  exact ⟨od, J⟩
/-- len(o) -/
def rLenO (C : Addr) (sp : Sp) (E : XK) : List V → Hp → VK → Prop := fun xs H Q => ∃ a dx fs, xs = [.ref a] ∧ H a = some (.ins C dx fs) ∧ sp [.ref a] H (fun v H' => ∃ n : Nat, v = .int n ∧ n < 2 ^ 62 ∧ Q (.int n) H') E
theorem c_lenO (m : Meth X.K C "__len__" f) (F : FnR X.prog X.w X.K X.mg X.base CX k f sp) (hr : Room (k + 1) X.A) (hx : Passes CX X E) : CallR X (.builtin "len") (rLenO C sp E) := by
  intro pins s σ H xs us Q I r h
  obtain ⟨a, dx, fs, rfl, ea, h⟩ := h
  obtain rfl := Vals.ref1 r
  obtain ⟨od, J⟩ := inst_at I ea
  obtain ⟨m0, hF⟩ := I.fr
  refine PySem.W.len_K hF I.ok.mod.kin J m.at_ m.fn (wpAny_mono (run_at (vs := [.ref a]) (us := [.ref a]) F hr.in1 rfl hx I (.cons rfl .nil) h) (fun r s' q => ?_) fun _ _ x => x)
  obtain ⟨v, H', I', rv, n, ev, hn, q⟩ := q
  subst ev
  obtain ⟨t, rfl⟩ := (show ∃ t, r = Value.int n t from rv)
  exact ⟨⟨by omega, by omega⟩, ⟨.int n, H', I'.tok _, ⟨_, rfl⟩, q⟩⟩
/-- x in o, x not in o -/
def rInO (C : Addr) (sp : Sp) (E : XK) : R2 := fun x y H Q => ∃ a dx fs, y = .ref a ∧ H a = some (.ins C dx fs) ∧ sp [.ref a, x] H (fun v H' => ∃ b, v = .bl b ∧ Q (.bl b) H') E
def rNotInO (C : Addr) (sp : Sp) (E : XK) : R2 := fun x y H Q => ∃ a dx fs, y = .ref a ∧ H a = some (.ins C dx fs) ∧ sp [.ref a, x] H (fun v H' => ∃ b, v = .bl b ∧ Q (.bl (!b)) H') E
theorem u_inO (m : Meth X.K C "__contains__" f) (F : FnR X.prog X.w X.K X.mg X.base CX k f sp) (hr : Room k X.A) (hx : Passes CX X E) : OpR X (compareOp .In) (rInO C sp E) := by
  intro pins s σ H x y v u Q I rx ry h
  obtain ⟨a, dx, fs, rfl, ea, h⟩ := h
  obtain rfl : u = Value.ref a := ry
  obtain ⟨od, J⟩ := inst_at I ea
  obtain ⟨m0, hF⟩ := I.fr
  refine PySem.W.in_K hF I.ok.mod.kin J m.at_ m.fn (wpAny_mono (run_at (vs := [.ref a, x]) (us := [.ref a, v]) F hr rfl hx I (.cons rfl (.cons rx .nil)) h) (fun r s' q => ?_) fun _ _ x => x)
  obtain ⟨w, H', I', rv, b, ev, q⟩ := q
  subst ev
  cases rv
  exact wpAny_truthy_bool ⟨.bl b, H', I', rfl, q⟩
theorem u_notinO (m : Meth X.K C "__contains__" f) (F : FnR X.prog X.w X.K X.mg X.base CX k f sp) (hr : Room k X.A) (hx : Passes CX X E) : OpR X (compareOp .NotIn) (rNotInO C sp E) := by
  intro pins s σ H x y v u Q I rx ry h
  obtain ⟨a, dx, fs, rfl, ea, h⟩ := h
  obtain rfl : u = Value.ref a := ry
  obtain ⟨od, J⟩ := inst_at I ea
  obtain ⟨m0, hF⟩ := I.fr
  refine PySem.W.notIn_K hF I.ok.mod.kin J m.at_ m.fn (wpAny_mono (run_at (vs := [.ref a, x]) (us := [.ref a, v]) F hr rfl hx I (.cons rfl (.cons rx .nil)) h) (fun r s' q => ?_) fun _ _ x => x)
  obtain ⟨w, H', I', rv, b, ev, q⟩ := q
  subst ev
  cases rv
  exact wpAny_truthy_bool ⟨.bl (!b), H', I', rfl, q⟩
/-- o[i] -/
def tSubO (C : Addr) (sp : Sp) (E : XK) (to ti : TE) : TE := fun σ H Q => to σ H fun x H1 => ti σ H1 fun y H2 => ∃ a dx fs, x = .ref a ∧ H2 a = some (.ins C dx fs) ∧ sp [.ref a, y] H2 Q E
theorem pe_subO {o i : Expr} {pos : Pos} {to ti : TE} (m : Meth X.K C "__getitem__" f) (hf : PySem.W.fnIn X.K f = true) (F : FnR X.prog X.w X.K X.mg X.base CX k f sp) (hr : Room (k + 1) X.A) (hx : Passes CX X E) (ho : PE X o to) (hi : PE X i ti)
    (hsl : ∀ ov iv, subscripted i true ov iv = runValue (.builtin "lifetime.subscript" ⟨[ov, iv], []⟩) := by intros; rfl) : PE X (.Subscript o i pos) (tSubO C sp E to ti) := by
  refine ⟨fun pins s σ H Q I h => ?_⟩
  refine Subscript_ (thn (ho.run pins s σ H _ I h) fun u s1 ⟨x, H1, I1, rx, q⟩ => thn (hi.run pins s1 σ H1 _ I1 q) fun iv s2 ⟨y, H2, I2, ry, a, dx, fs, ex, ea, q2⟩ => ?_)
  subst ex
  obtain rfl : u = Value.ref a := rx
  obtain ⟨od, J⟩ := inst_at I2 ea
  obtain ⟨m0, hF⟩ := I2.fr
  exact PySem.W.sub_K hF I2.ok.mod.kin J m.at_ hf m.fn (run_at (vs := [.ref a, y]) (us := [.ref a, iv]) F hr.in1 rfl hx I2 (.cons rfl (.cons ry .nil)) q2) (hsl _ _)
/-- o[i] = v -/
def sPutO (C : Addr) (sp : Sp) (E : XK) (to ti tv : TE) : TS := fun D σ H => tv σ H fun v H1 => to σ H1 fun x H2 => ti σ H2 fun y H3 => ∃ a dx fs, x = .ref a ∧ H3 a = some (.ins C dx fs) ∧ sp [.ref a, y, v] H3 (fun _ H' => D.nx σ H') E
theorem ps_putO {o i value : Expr} {pos pos' : Pos} {to ti tv : TE} (m : Meth X.K C "__setitem__" f) (hq : PySem.W.noSeq X.K C = true) (F : FnR X.prog X.w X.K X.mg X.base CX k f sp) (hr : Room k X.A) (hx : Passes CX X E) (ho : PE X o to) (hi : PE X i ti) (hv : PE X value tv)
    (hs : swapsWith value (some (.Subscript o i pos')) pos.line X.env = pure false := by rfl) : PS X (.Assign [.Subscript o i pos'] value pos) (sPutO C sp E to ti tv) := by
  refine ⟨fun pins s σ H D I h => ?_⟩
  refine wpAny_Assign_Subscript (thn (hv.run pins s σ H _ I h) fun r s1 ⟨v, H1, I1, rv, q1⟩ => thn (ho.run pins s1 σ H1 _ I1 q1) fun u s2 ⟨x, H2, I2, rx, q2⟩ => thn (hi.run pins s2 σ H2 _ I2 q2) fun iv s3 ⟨y, H3, I3, ry, a, dx, fs, ex, ea, q3⟩ => ?_) hs
  subst ex
  obtain rfl : u = Value.ref a := rx
  obtain ⟨od, J⟩ := inst_at I3 ea
  obtain ⟨m0, hF⟩ := I3.fr
  refine PySem.W.ksp_setItem hF I3.ok.mod.kin J hq m.at_ m.fn (wpAny_mono (run_at (vs := [.ref a, y, v]) (us := [.ref a, iv, r]) F hr rfl hx I3 (.cons rfl (.cons ry (.cons rv .nil))) q3) (fun r s' q => ?_) fun _ _ x => x)
  obtain ⟨z, H', I', _, q⟩ := q
  exact ⟨σ, H', I', q⟩
/-- a property with a setter, stored -/
structure PropSet (K : PySem.W.Frag) (C : Addr) (nm : Str) (p g : Addr) : Prop where
  tk : PySem.W.takerIn K C nm = some (some (.ref p))
  ty : PySem.W.typeIn K (.ref p) = some (.type "property")
  rec_ : ∃ a rest, PySem.W.recIn K p "property" = some (a :: .ref g :: rest)
def sPset (C : Addr) (sp : Sp) (E : XK) (to tv : TE) : TS := fun D σ H => tv σ H fun v H1 => to σ H1 fun x H2 => ∃ a dx fs, x = .ref a ∧ H2 a = some (.ins C dx fs) ∧ sp [.ref a, v] H2 (fun _ H' => D.nx σ H') E
theorem ps_pset {o value : Expr} {pos pos' : Pos} {to tv : TE} {nm : Str} {p g : Addr} (c : Cls X.K C) (ps : PropSet X.K C nm p g) (F : FnR X.prog X.w X.K X.mg X.base CX k g sp) (hr : Room (k + 2) X.A) (hx : Passes CX X E) (ho : PE X o to) (hv : PE X value tv)
    (hs : swapsWith value (some (.Attribute o nm pos')) pos.line X.env = pure false := by rfl) : PS X (.Assign [.Attribute o nm pos'] value pos) (sPset C sp E to tv) := by
  refine ⟨fun pins s σ H D I h => ?_⟩
  refine plainObj_wpAny_Assign_Attribute (thn (hv.run pins s σ H _ I h) fun u s1 ⟨y, H1, I1, ry, q⟩ => thn (ho.run pins s1 σ H1 _ I1 q) fun ov s2 ⟨x, H2, I2, rx, a, dx, fs, ex, ea, q2⟩ => ?_) hs
  subst ex
  obtain rfl : ov = Value.ref a := rx
  obtain ⟨od, J⟩ := inst_at I2 ea
  obtain ⟨a1, rest, hrec⟩ := ps.rec_
  have I3 := I2.tok (s2.toks + 1)
  refine PySem.W.set_plain I2.kIn J c.sa (PySem.W.osa_descr PySem.W.KF.slot_pset I2.kIn J c.po ps.tk ps.ty ?_)
  refine PySem.W.prop_set (rest := rest) (a := a1) I3.kIn hrec ?_
  refine codeAny_mono (run_co (vs := [.ref a, y]) (us := [.ref a, u]) F hr.in1.in1 (A := X.A.in1.in1) rfl hx I3 (.cons rfl (.cons ry .nil)) q2) fun r s' z => ?_
  cases r with
  | error e => exact z
  | ok fl =>
    cases fl with
    | ret v =>
      obtain ⟨_, H', I', _, q⟩ := z
      exact ⟨σ, H', I', q⟩
    | next => exact z.elim
    | brk => exact z.elim
    | cont => exact z.elim
/-- o != p by an own __eq__ -/
structure NeC (K : PySem.W.Frag) (C f : Addr) : Prop where
  ne : PySem.W.findIn K (.ref C) "__ne__" = some (some (.builtin "object.__ne__"))
  ob : PySem.W.subIn K (.ref C) (.type "object") = some true
  eq : Meth K C "__eq__" f
def rNeO (C : Addr) (sp : Sp) (E : XK) : R2 := fun x y H Q => ∃ a b dx dy fs gs, x = .ref a ∧ y = .ref b ∧ H a = some (.ins C dx fs) ∧ H b = some (.ins C dy gs) ∧ sp [.ref a, .ref b] H (fun v H' => ∃ c, v = .bl c ∧ Q (.bl (!c)) H') E
theorem one_bind (self : Value) : bindSpecial (.builtin "object.__ne__") self = pure (.builtin "object.__ne__", [self]) :=
  (Slot.of (T := "object") (name := "__ne__") (owner := "object") (n := "__ne__") (by rw [typeLookup_type, builtinLookup_eq_fast]; kernel_rfl) (by decide +kernel) (by decide +kernel) (by decide +kernel)
    (.inl (by decide +kernel)) (by rw [isSubtype_type]; kernel_rfl)).bind self
theorem one_plain : plainId "object.__ne__" = true := by decide +kernel
theorem u_neO (n : NeC X.K C f) (F : FnR X.prog X.w X.K X.mg X.base CX k f sp) (hr : Room (k + 1) X.A) (hx : Passes CX X E) : OpR X (compareOp .NotEq) (rNeO C sp E) := by
  intro pins s σ H x y v u Q I rx ry h
  obtain ⟨a, b, dx, dy, fs, gs, rfl, rfl, ea, eb, h⟩ := h
  obtain rfl : v = Value.ref a := rx
  obtain rfl : u = Value.ref b := ry
  obtain ⟨od, J⟩ := inst_at I ea
  obtain ⟨od', J'⟩ := inst_at I eb
  obtain ⟨m0, hF⟩ := I.fr
  have hu := hr.units
  have KX := I.kIn
  have body : wpAny (model X.prog X.w) X.A (call (.builtin "object.__ne__") [.ref a, .ref b]) (fun v s' => (∃ c, v = .bool c) ∧ EP X pins σ Q v s') X.xe s := by
    have t2 : PySem.W.Looks (model X.prog X.w) s.heap (isInstance (.ref a) (.type "object")) true := J.type.andThen (PySem.W.looks_subIn KX n.ob)
    refine wpAny_call (codeAny_call_builtin one_plain PySem.F.cmpEntry_ne (PySem.W.check_slot PySem.F.cmpKind_ne PySem.F.cmpSplit_ne t2 (PySem.F.cmpArgs_ne _ _) ?_))
    unfold Builtin.«object.__ne__»
    refine wpAny_bind (wpAny_of_eq (a := (Value.ref a, [Value.ref b])) (by first | rfl | kernel_rfl) ?_)
    show wpAny _ X.A.in1 (cRoomFor "comparison" [.ref a, .ref b] >>= _) _ _ _
    refine wpAny_bind (wpAny_cRoomFor (by show X.A.units + 1 < cLine; omega) ?_)
    refine wpAny_bind (PySem.W.ifBound_K KX J n.eq.at_ n.eq.fn (wpAny_mono (run_at (vs := [.ref a, .ref b]) (us := [.ref a, .ref b]) F hr.in1 rfl hx I (.cons rfl (.cons rfl .nil)) h) (fun r s' q => ?_) fun _ _ x => x))
    obtain ⟨z, H', I', rz, c, ez, q⟩ := q
    subst ez
    cases rz
    refine wpAny_bind (wpAny_truthy_bool ?_)
    exact wpAny_pure ⟨⟨_, rfl⟩, ⟨.bl (!c), H', I', rfl, q⟩⟩
  have one : wpAny (model X.prog X.w) X.A (tryCompare (.ref a) (cmpInfo .NotEq).2.1 (.ref b)) (fun r s' => ∃ v, r = some v ∧ EP X pins σ Q v s') X.xe s := by
    unfold tryCompare
    have z : wpAny (model X.prog X.w) X.A (callSpecialIfBound? (.ref a) "__ne__" [.ref b]) (fun r s' => ∃ c, r = some (.bool c) ∧ EP X pins σ Q (.bool c) s') X.xe s := by
      simp only [callSpecialIfBound?, bindSpecialIfBound?]
      refine wpAny_holding (wpAny_bind (wpAny_bind (wpAny_bind (J.type.here ((PySem.W.looks_findIn KX n.ne).here ?_)))))
      refine wpAny_bind (wpAny_askSetting (wpAny_ite ?_))
      have fin : wpAny (model X.prog X.w) X.A (call (.builtin "object.__ne__") ([.ref a] ++ [.ref b]) >>= fun v => pure (some v)) (fun r s' => ∃ c, r = some (.bool c) ∧ EP X pins σ Q (.bool c) s') X.xe s :=
        wpAny_bind (wpAny_mono body (fun v s' ⟨⟨c, e⟩, q⟩ => wpAny_pure ⟨c, by rw [e], by rw [← e]; exact q⟩) fun _ _ x => x)
      split
      · exact wpAny_bind (wpAny_of_eq (one_bind _) (wpAny_pure (by exact fin)))
      · exact wpAny_tryCatch (wpAny_bind (wpAny_of_eq (one_bind _) (wpAny_pure (by exact fin))))
    refine wpAny_bind (wpAny_mono z (fun r s' ⟨c, e, q⟩ => ?_) fun _ _ x => x)
    subst e
    exact wpAny_pure ⟨_, rfl, q⟩
  show wpAny _ _ (richCompare .NotEq (.ref a) (.ref b)) _ _ _
  unfold richCompare
  simp only [oneThing_ref]
  refine wpAny_holding (wpAny_bind (wpAny_cRoomFor (by omega) ?_))
  refine wpAny_bind (J.type.here (wpAny_bind (J'.type.here ?_)))
  rw [show (Value.ref C != Value.ref C) = false from by simp]
  simp only [Bool.false_eq_true, if_false]
  refine wpAny_bind (wpAny_pure ?_)
  simp only [Bool.false_eq_true, if_false]
  refine wpAny_bind (wpAny_mono one (fun r s' z => ?_) fun _ _ e => e)
  obtain ⟨v, rfl, hq⟩ := z
  exact wpAny_pure hq
/-! ### list(o): __iter__ hands on iter(self.f), __len__ len(self.f) -/
def spLenF (K : PySem.W.Frag) (C : Addr) (f : Str) : Sp := fun vs H Q _ => ∃ (a dx : Addr) (fs : List (Str × V)) (l : Addr) (xs : List V), vs = [.ref a] ∧ H a = some (.ins C dx fs) ∧ fs.lookup f = some (.ref l) ∧ H l = some (.lst xs) ∧ Q (.int xs.length) H
def spIterF (K : PySem.W.Frag) (C : Addr) (f : Str) : Sp := fun vs H Q _ => ∃ (a dx : Addr) (fs : List (Str × V)) (l : Addr) (xs : List V), vs = [.ref a] ∧ H a = some (.ins C dx fs) ∧ fs.lookup f = some (.ref l) ∧ H l = some (.lst xs) ∧ ∀ it, H it = none → Q (.ref it) (upd H it (ItO l it 0))
theorem slot_lit : Slot "list_iterator" "__next__" "list_iterator.__next__" := slot_listiter_next
section
variable {prog : Program} {w : World} {it l : Addr} {i : Nat} {items : Array Value}
theorem next_itemX {x : Value} {E' : Value → Shared → Prop} {Q : Option Value → Shared → Prop} (ho : s.heap.get? it = some (GNX.itObj l i)) (hl : s.heap.IsList l items) (hx : items[i]? = some x)
    (hQ : ∀ h', h'.get? it = some (GNX.itObj l (i + 1)) → Heap.SameBut it s.heap h' → Q (some x) { s with heap := h' }) : wpAny (model prog w) A (pyNext (.ref it)) Q E' s := by
  have hit : s.heap.IsListIter it l i := ⟨_, ho, rfl, rfl⟩
  unfold pyNext
  refine wpAny_bind (wpAny_attempt (wpAny_callSpecial?_slot (name := Str.ofString "__next__") hit.typeIs slot_listiter_next
    (wpAny_call_entry slot_listiter_next hit.typeIs entry_listiter_next ?_ (args_listiter_next _))))
  refine wpAny_mono (GNX.next_item (E := fun _ _ => False) ho hl hx (Q := fun v s' => Q (some v) s') hQ) (fun fin s' q => ?_) fun _ _ z => False.elim z
  obtain ⟨v, rfl, q⟩ := q
  exact ⟨v, rfl, wpAny_pure q⟩
theorem next_endX {E' : Value → Shared → Prop} {Q : Option Value → Shared → Prop} (hh : A.handled = none) (ho : s.heap.get? it = some (GNX.itObj l i)) (hl : s.heap.IsList l items) (hx : items[i]? = none)
    (hQ : ∀ h1 h', h1.get? it = some (GNX.itEnd i) → Heap.SameBut it s.heap h1 → (∀ b o, h1.get? b = some o → h'.get? b = some o) → Q none { s with heap := h' }) : wpAny (model prog w) A (pyNext (.ref it)) Q E' s := by
  have hit : s.heap.IsListIter it l i := ⟨_, ho, rfl, rfl⟩
  unfold pyNext
  refine wpAny_bind (wpAny_attempt (wpAny_callSpecial?_slot (name := Str.ofString "__next__") hit.typeIs slot_listiter_next
    (wpAny_call_entry slot_listiter_next hit.typeIs entry_listiter_next ?_ (args_listiter_next _))))
  refine wpAny_mono (GNX.next_end (Q := fun _ _ => False) hh ho hl hx (E := fun e s' => (∃ a, e = .ref a ∧ s'.TypeIs (.ref a) "StopIteration") ∧ Q none s') fun h1 h' e vs e1 sb k n he hv => ⟨⟨e, rfl, _, he, rfl⟩, hQ h1 h' e1 sb k⟩) (fun fin s' q => ?_) fun e s' q => ?_
  · obtain ⟨_, _, q⟩ := q
    exact q.elim
  · obtain ⟨⟨a, rfl, hT⟩, q⟩ := q
    refine wpAny_bind (wpAny_isInstance (T := "StopIteration") (b := true) hT isSubtype_stop ?_)
    exact wpAny_pure q
end

theorem rel_ref {v : Addr} {u : Value} (r : RelV (.ref v) u) : u = .ref v := r
theorem ext_loop {q it l : Addr} {zs : List V} {A1 : Around} {Rs : Result → Shared → Prop} (hh : A1.in1.handled = none) (hql : q ≠ l) (hqi : q ≠ it) (hli : l ≠ it) (hz : zs.length ≤ sizeLine)
    (H0 : Hp)
    (hd2 : ∀ H s, Inv X pins σ H s → H q = some (.lst zs) → Ch [q, it] H0 H → Rs (.ok (.ret .none)) s) :
    ∀ (m i : Nat) (H : Hp) (s : Shared), zs.length - i = m → i ≤ zs.length → Inv X pins σ H s → H q = some (.lst (zs.take i)) → H l = some (.lst zs) → H it = some (ItO l it i) → Ch [q, it] H0 H →
      codeAny (model X.prog X.w) A1 (.builtin "list.extend.loop" ⟨[.ref q, .ref it, .none], []⟩) Rs s := by
  intro m
  induction m with
  | zero =>
    intro i H s hm hi I hq hl hit c
    have e : i = zs.length := by omega
    subst e
    refine codeAny_builtin PySem.F.entry_extend_loop ?_
    rw [Around.under_plainId PySem.F.plain_extend_loop _]
    show wpAny _ A1.in1 (pyNext (.ref it) >>= _) _ _ s
    obtain ⟨z, its, k, rv, hlh, e3⟩ := I.lstM hl
    have hn : its.toArray[zs.length]? = none := by
      rw [List.getElem?_toArray]
      exact List.getElem?_eq_none (by rw [← rv.length]; exact Nat.le_refl _)
    refine wpAny_bind (next_endX hh (itO_get I hit) ⟨_, e3, rfl, k, rfl⟩ hn fun h1 h' e1 sb kk => ?_)
    have mu : Mut (H it) := by rw [hit]; exact True.intro
    have I2 : Inv X pins σ (upd H it (ItE it zs.length)) { s with heap := h1 } := I.write (x := it) (e := it) (t' := s.toks) mu (.inl rfl) (fun b o nb z => (sb.2 b nb).trans z) ⟨_, e1⟩ (itE_ok e1)
    have I3 := I2.kept (t' := s.toks) kk
    refine wpAny_pure (hd2 _ _ I3 ?_ ?_)
    · rw [upd_ne hqi]
      rw [hq, List.take_length]
    · exact c.seq ((Ch.mut hit rfl).mono (by simp))
  | succ m ih =>
    intro i H s hm hi I hq hl hit c
    have hlt : i < zs.length := by omega
    refine codeAny_builtin PySem.F.entry_extend_loop ?_
    rw [Around.under_plainId PySem.F.plain_extend_loop _]
    show wpAny _ A1.in1 (pyNext (.ref it) >>= _) _ _ s
    obtain ⟨z, its, k, rv, hlh, e3⟩ := I.lstM hl
    obtain ⟨u, hu, ru⟩ := rv.get (List.getElem?_eq_getElem hlt)
    refine wpAny_bind (next_itemX (x := u) (itO_get I hit) ⟨_, e3, rfl, k, rfl⟩ (by rw [List.getElem?_toArray]; exact hu) fun h1 e1 sb => ?_)
    have mu : Mut (H it) := by rw [hit]; exact True.intro
    have I2 : Inv X pins σ (upd H it (ItO l it (i + 1))) { s with heap := h1 } := I.write (x := it) (e := it) (t' := s.toks) mu (.inl rfl) (fun b o nb z => (sb.2 b nb).trans z) ⟨_, e1⟩ (itO_ok e1)
    have hq2 : upd H it (ItO l it (i + 1)) q = some (.lst (zs.take i)) := by rw [upd_ne hqi]; exact hq
    obtain ⟨z2, its2, k2, rv2, hl2, e4⟩ := I2.lstM hq2
    show wpAny _ A1.in1 (updateSeq q (·.push u) >>= _) _ _ _
    have hlen : (zs.take i).length < sizeLine := by rw [List.length_take]; omega
    refine wpAny_bind (wpAny_updateSeq e4 rfl (wpAny_pure ⟨plainId_quiet PySem.F.plain_extend_loop _, ?_⟩) (by rw [List.size_toArray]; omega) (by show (its2.toArray.push u).size ≤ sizeLine + 1; rw [Array.size_push, List.size_toArray]; omega))
    have ht : zs.take (i + 1) = zs.take i ++ [zs[i]] := by rw [List.take_add_one, List.getElem?_eq_getElem hlt]; rfl
    have I3 := I2.lset (f := (·.push u)) (its' := its2 ++ [u]) (ys := zs.take (i + 1)) (t' := s.toks) hq2 e4 (by simp) (by rw [ht]; exact rv2.append (.cons ru .nil)) (by rw [List.length_take]; omega)
    refine ih (i + 1) _ _ (by omega) hlt I3 upd_same ?_ ?_ ?_
    · rw [upd_ne (Ne.symm hql), upd_ne hli]
      exact hl
    · rw [upd_ne (Ne.symm hqi)]
      exact upd_same
    · exact c.seq (((Ch.mut hit rfl).mono (by simp)).seq ((Ch.mut hq2 rfl).mono (by simp)))
/-- list(o) -/
def rListO (K : PySem.W.Frag) (C : Addr) (f : Str) : List V → Hp → VK → Prop := fun xs H Q => ∃ (a dx : Addr) (fs : List (Str × V)) (l : Addr) (zs : List V), xs = [.ref a] ∧ H a = some (.ins C dx fs) ∧ fs.lookup f = some (.ref l) ∧ H l = some (.lst zs) ∧
  ∀ q H', H q = none → H' q = some (.lst zs) → Ch [] H H' → Q (.ref q) H'
theorem c_listO {fl fi : Addr} {fd : Str} (mL : Meth X.K C "__len__" fl) (mI : Meth X.K C "__iter__" fi) (FL : FnR X.prog X.w X.K X.mg X.base CX0 k fl (spLenF X.K C fd)) (FI : FnR X.prog X.w X.K X.mg X.base CX0 k fi (spIterF X.K C fd))
    (hcalm : X.calm = true) (hr : Room (k + 4) X.A) : CallR X (.type "list") (rListO X.K C fd) := by
  intro pins s σ H xs us Q I rv h
  obtain ⟨a, dx, fs, l, zs, rfl, ha, hf, hl, q⟩ := h
  obtain rfl := Vals.ref1 rv
  have hh : X.A.in1.in1.handled = none := I.ok.hd hcalm
  refine callType_codes (Q₁ := fun obj s₁ => obj = .ref s.heap.objs.size ∧ s₁ = { s with heap := s.heap.push { cls := .type "list", data := .seq #[] } }) PySem.F.called_list (PySem.F.typeCall_list_1 _) PySem.F.entry_list_init
    (code_list_new _ ⟨rfl, rfl⟩) fun obj s₁ h₁ => ?_
  obtain ⟨rfl, rfl⟩ := h₁
  have hS : (s.heap.push { cls := .type "list", data := .seq #[] }).get? s.heap.objs.size = some { cls := .type "list", data := .seq #[] } := Heap.get?_push_size _ rfl
  refine ⟨⟨_, hS, rfl⟩, PySem.F.args_list_init_2 _ _, ?_⟩
  have fr : H s.heap.objs.size = none := I.hok.fresh (Nat.le_refl _)
  generalize hqn : s.heap.objs.size = qn at hS fr ⊢
  have I1 : Inv X pins σ (upd H qn (.lst [])) { s with heap := s.heap.push { cls := .type "list", data := .seq #[] } } := by
    rw [← hqn]
    exact I.lnew (its := []) (t' := s.toks) .nil (Nat.zero_le _)
  show wpAny _ _ (do let old ← Builtin.List.listItems (.ref qn); Builtin.List.listUpdate (.ref qn) (fun _ => #[]); letGo old.toList.reverse; Builtin.List.listExtendWith (.ref qn) (.ref a) .none) _ _ _
  refine wpAny_bind ?_
  unfold Builtin.List.listItems
  refine wpAny_bind (wpAny_seqItems hS rfl (wpAny_pure ?_))
  show wpAny _ _ (updateSeq qn (fun _ => #[]) >>= fun _ => letGo (#[] : Array Value).toList.reverse >>= fun _ => Builtin.List.listExtendWith (.ref qn) (.ref a) .none) _ _ _
  refine wpAny_bind (wpAny_updateSeq hS rfl ?_)
  have I2 := I1.lset (f := fun _ => #[]) (its := []) (its' := []) (ys := []) (t' := s.toks) upd_same hS rfl .nil (Nat.zero_le _)
  rw [upd_upd] at I2
  refine wpAny_bind (wpAny_letGo ?_)
  have ha2 : upd H qn (.lst []) a = some (.ins C dx fs) := by rw [upd_ne (ne_of_none ha fr)]; exact ha
  have hl2 : upd H qn (.lst []) l = some (.lst zs) := by rw [upd_ne (ne_of_none hl fr)]; exact hl
  have hql : qn ≠ l := Ne.symm (ne_of_none hl fr)
  have hne : qn ≠ a := Ne.symm (ne_of_none ha fr)
  obtain ⟨od, J⟩ := inst_at I2 ha2
  obtain ⟨m0, hF⟩ := I2.fr
  have hz : zs.length ≤ sizeLine := (I.lstM hl).1
  unfold Builtin.List.listExtendWith
  refine wpAny_bind (J.type.here ?_)
  have h1 : Builtin.List.listSameRef (.ref qn) (.ref a) = false := by simp [Builtin.List.listSameRef, hne]
  have h2 : (Value.ref C == Value.type "list") = false := rfl
  have h3 : (Value.ref C == Value.type "tuple") = false := rfl
  simp only [h1, h2, h3, Bool.or_false, Bool.false_eq_true, if_false]
  refine wpAny_bind (PySem.W.owit_iter hF I2.ok.mod.kin J mI.at_ mI.fn (wpAny_mono (run_at0 (A := X.A.in1.in1) (vs := [.ref a]) (us := [.ref a]) (Q := fun v H1 => ∃ it, v = .ref it ∧ upd H qn (.lst []) it = none ∧ H1 = upd (upd H qn (.lst [])) it (ItO l it 0)) (E := E0)
    FI ((hr.in1.in1).mono (by omega)) rfl I2 (.cons rfl .nil) ⟨a, dx, fs, l, zs, rfl, ha2, hf, hl2, fun it hn => ⟨it, rfl, hn, rfl⟩⟩) (fun r s' qq => ?_) fun _ _ x => x))
  obtain ⟨v, H1, I3, rr, it, ev, hn, eH⟩ := qq
  subst ev eH
  cases rr
  have hit : upd (upd H qn (.lst [])) it (ItO l it 0) it = some (ItO l it 0) := upd_same
  have hqi : qn ≠ it := fun z => by rw [← z, upd_same] at hn; cases hn
  have hT : s'.TypeIs (.ref it) "list_iterator" := ⟨_, itO_get I3 hit, rfl⟩
  unfold PySem.W.OwitIt
  refine wpAny_specialOf hT slot_listiter_next.lookup ?_
  dsimp only
  have ha3 : upd (upd H qn (.lst [])) it (ItO l it 0) a = some (.ins C dx fs) := by rw [upd_ne (ne_of_none ha2 hn)]; exact ha2
  have hl3 : upd (upd H qn (.lst [])) it (ItO l it 0) l = some (.lst zs) := by rw [upd_ne (ne_of_none hl2 hn)]; exact hl2
  have hq3 : upd (upd H qn (.lst [])) it (ItO l it 0) qn = some (.lst []) := by rw [upd_ne hqi]; exact upd_same
  have hli : l ≠ it := ne_of_none hl2 hn
  obtain ⟨od3, J3⟩ := inst_at I3 ha3
  obtain ⟨m3, hF3⟩ := I3.fr
  refine wpAny_bind (wpAny_holding ?_)
  unfold Builtin.List.listLengthHint
  refine wpAny_bind (wpAny_bind (J3.type.here ((PySem.W.looks_findIn I3.kIn mL.at_).here ?_)))
  refine PySem.W.KFB.if_not rfl ?_
  refine PySem.W.KFB.if_so rfl ?_
  refine wpAny_bind (wpAny_rule ?_)
  refine wpAny_bind (wpAny_attempt ?_)
  refine PySem.W.len_K hF3 I3.ok.mod.kin J3 mL.at_ mL.fn (wpAny_mono (run_at0 (A := X.A.in1.in1.in1) (vs := [.ref a]) (us := [.ref a]) (Q := fun v H1 => v = .int zs.length ∧ H1 = upd (upd H qn (.lst [])) it (ItO l it 0)) (E := E0)
    FL ((hr.in1.in1.in1).mono (by omega)) rfl I3 (.cons rfl .nil) ⟨a, dx, fs, l, zs, rfl, ha3, hf, hl3, rfl, rfl⟩) (fun r s4 qq => ?_) fun _ _ x => x)
  obtain ⟨v, H4, I4, rr, ev, eH⟩ := qq
  subst ev eH
  obtain ⟨t, rfl⟩ := (show ∃ t, r = Value.int zs.length t from rr)
  have hz' := hz
  rw [sizeLine_eq] at hz
  refine ⟨⟨by omega, by omega⟩, ?_⟩
  refine wpAny_bind (wpAny_of_eq (a := some (zs.length : Int)) (by first | rfl | kernel_rfl) ?_)
  dsimp only
  refine PySem.W.KFB.if_not (by simp only [Int.toNat_natCast]; exact notLongL hz') ?_
  refine wpAny_pure ?_
  have I5 := I4.tok (s4.toks + 1)
  have fin : ∀ s5, Inv X pins σ (upd (upd H qn (.lst [])) it (ItO l it 0)) s5 → codeAny (model X.prog X.w) X.A.in1 (.builtin "list.extend.loop" ⟨[.ref qn, .ref it, .none], []⟩) (wants (fun r s₂ => r = .none ∧ EP X pins σ Q (.ref qn) s₂) X.xe) s5 := fun s5 I6 => by
    refine ext_loop (Rs := wants (fun r s₂ => r = .none ∧ EP X pins σ Q (.ref qn) s₂) X.xe) hh hql hqi hli hz' (upd (upd H qn (.lst [])) it (ItO l it 0)) (fun H' s' I' hq' c => ⟨rfl, .ref qn, H', I', rfl, q qn H' fr hq' ?_⟩) zs.length 0 _ s5 rfl (Nat.zero_le _) I6 hq3 hl3 hit ((Ch.refl _).any)
    have c2 : Ch [] H (upd (upd H qn (.lst [])) it (ItO l it 0)) := (Ch.new fr).nilL (Ch.new hn)
    have hin : H it = none := by rwa [upd_ne (Ne.symm hqi)] at hn
    exact ((c2.nilL c).drop fr).drop hin
  refine wpAny_ite_split (fun _ => ?_) (fun _ => wpAny_pure ⟨plainId_quiet PySem.F.plain_extend_loop _, fin _ I5⟩)
  refine wpAny_bind (wpAny_rule ?_)
  refine wpAny_bind ?_
  show wpAny _ _ (updateSeq qn (·.push .none) >>= fun _ => updateSeq qn (·.pop)) _ _ _
  obtain ⟨z3, its3, k3, r3, hlen3, e3⟩ := I5.lstM hq3
  cases r3
  refine wpAny_bind (wpAny_updateSeq e3 rfl ?_)
  have I6 := I5.lset (f := (·.push Value.none)) (its' := [Value.none]) (ys := [.non]) (t' := s4.toks + 1) hq3 e3 (by simp) (.cons rfl .nil) (by rw [List.length_singleton, sizeLine_eq]; decide)
  obtain ⟨z4, its4, k4, r4, hl4, e4⟩ := I6.lstM upd_same
  obtain ⟨u4, rfl, ru4⟩ := r4.one
  refine wpAny_updateSeq e4 rfl ?_ (by show 1 ≤ sizeLine; rw [sizeLine_eq]; decide) (by show 0 ≤ sizeLine + 1; exact Nat.zero_le _)
  refine wpAny_pure ⟨plainId_quiet PySem.F.plain_extend_loop _, fin _ ?_⟩
  have I7 := I6.lset (f := (·.pop)) (its := [u4]) (its' := []) (ys := []) (t' := s4.toks + 1) upd_same e4 (by rfl) .nil (Nat.zero_le _)
  rw [upd_upd] at I7
  have hH : upd (upd (upd H qn (.lst [])) it (ItO l it 0)) qn (.lst []) = upd (upd H qn (.lst [])) it (ItO l it 0) := by
    funext b
    by_cases hb : b = qn
    · rw [hb, upd_same, hq3]
    · rw [upd_ne hb]
  rw [hH] at I7
  exact I7
end
end U

set_option Elab.async false
set_option linter.all false
set_option maxRecDepth 100000
set_option maxHeartbeats 4000000
/-! enumerate over a tuple -/
namespace U
open PySem PySem.Spec PyProof.Rows L2
open Sem (wp)
open AutoSeq1 (wpAny_loadPart')
section
variable {prog : Program} {w : World} {A : Around} {E : Value → Shared → Prop} {s : Shared}
theorem nextOf_tup_item {it t : Addr} {i : Nat} {items : Array Value} {x : Value} {Q : Value → Shared → Prop} (hit : s.heap.IsTupleIter it t i) (ht : s.heap.IsTuple t items) (hx : items[i]? = some x)
    (hQ : ∀ h', h'.IsTupleIter it t (i + 1) → Heap.SameBut it s.heap h' → Q x { s with heap := h' }) : wpAny (model prog w) A (Builtin.SmallTypes.nextOf (.ref it)) Q E s := by
  obtain ⟨o, ho, hc, hd⟩ := id hit
  obtain ⟨ol, hol, _, nl, hdl⟩ := ht
  unfold Builtin.SmallTypes.nextOf
  refine wpAny_bind (wpAny_callSpecial?_slot (name := Str.ofString "__next__") hit.typeIs PySem.F.slot_tuple_iterator_next
    (wpAny_call_entry PySem.F.slot_tuple_iterator_next hit.typeIs PySem.F.entry_tuple_iterator_next ?_ (PySem.F.args_tuple_iterator_next_1 _)))
  show wpAny _ _ (field (.ref it) 0 >>= _) _ _ s
  refine wpAny_bind (wpAny_field ho hd (x := .ref t) rfl ?_)
  show wpAny _ _ (if (Value.ref t == Value.none) = true then _ else _) _ _ s
  rw [if_neg (show ¬ ((Value.ref t == Value.none) = true) from Bool.false_ne_true)]
  show wpAny _ _ (field (.ref it) 1 >>= _) _ _ s
  refine wpAny_bind (wpAny_field ho hd (x := .int i 0) rfl ?_)
  show wpAny _ _ (seqItems? (.ref t) >>= _) _ _ s
  refine wpAny_bind (wpAny_seqItems hol hdl ?_)
  simp only [Int.toNat_natCast, hx]
  refine wpAny_bind (wpAny_setField ho hd (by simp) (wpAny_pure ⟨x, rfl, wpAny_pure (hQ _ ?_ (Heap.SameBut.update ..))⟩))
  exact ⟨_, Heap.get?_update_self _ ho (Obj.isFreed_of_fields (Obj.data_mapFields hd _)), (Obj.cls_mapFields ..).trans hc, by
    rw [Obj.data_mapFields hd]; simp [rawInt]⟩
theorem nextOf_tup_end {it t : Addr} {i : Nat} {items : Array Value} {Q : Value → Shared → Prop} (hh : A.handled = none) (hit : s.heap.IsTupleIter it t i) (ht : s.heap.IsTuple t items) (hx : items[i]? = none)
    (hE : ∀ h' e, Heap.ExtBut it s.heap h' → (∃ o, h'.get? e = some o ∧ o.cls = .type "StopIteration") → E (.ref e) { s with heap := h' }) : wpAny (model prog w) A (Builtin.SmallTypes.nextOf (.ref it)) Q E s := by
  obtain ⟨o, ho, hc, hd⟩ := id hit
  obtain ⟨ol, hol, _, nl, hdl⟩ := ht
  unfold Builtin.SmallTypes.nextOf
  refine wpAny_bind (wpAny_callSpecial?_slot (name := Str.ofString "__next__") hit.typeIs PySem.F.slot_tuple_iterator_next
    (wpAny_call_entry PySem.F.slot_tuple_iterator_next hit.typeIs PySem.F.entry_tuple_iterator_next ?_ (PySem.F.args_tuple_iterator_next_1 _)))
  show wpAny _ _ (field (.ref it) 0 >>= _) _ _ s
  refine wpAny_bind (wpAny_field ho hd (x := .ref t) rfl ?_)
  show wpAny _ _ (if (Value.ref t == Value.none) = true then _ else _) _ _ s
  rw [if_neg (show ¬ ((Value.ref t == Value.none) = true) from Bool.false_ne_true)]
  show wpAny _ _ (field (.ref it) 1 >>= _) _ _ s
  refine wpAny_bind (wpAny_field ho hd (x := .int i 0) rfl ?_)
  show wpAny _ _ (seqItems? (.ref t) >>= _) _ _ s
  refine wpAny_bind (wpAny_seqItems hol hdl ?_)
  simp only [Int.toNat_natCast, hx]
  refine wpAny_bind (wpAny_rule (wpAny_bind (wpAny_setField ho hd (by simp) ?_)))
  show wpAny _ _ (newExc (.type "StopIteration") [] >>= _) _ _ _
  refine wpAny_bind ?_
  simp only [newExc, newTuple]
  refine wpAny_bind (wpAny_newObj_type ?_ (by size_fits))
  refine wpAny_bind (m := firstArgMember _ _) (wpAny_of_eq (a := Value.none) (by first | rfl | (simp only [firstArgMember]; rfl)) ?_)
  refine wpAny_newObj_type ?_ (by size_fits)
  simp only [raiseNew]
  refine wpAny_bind (wpAny_handled ?_)
  rw [show A.in1.handled = none from hh]
  refine wpAny_bind (wpAny_pure (wpAny_throw ?_))
  exact hE _ _ (((Heap.SameBut.update ..).extBut.push _).push _) ⟨_, Heap.get?_push_size _ rfl, rfl⟩
end
theorem draws_tup {prog : Program} {w : World} {A : Around} (hh : A.handled = none) (it t : Addr) (hne : t ≠ it) (items : Array Value) :
    Draws prog w A it [it, t] items.size (fun i v => items[i]? = some v) (fun i h => h.IsTupleIter it t i ∧ h.IsTuple t items) where
  live := fun _ _ st => let ⟨o, ho, _⟩ := st.1; ⟨o, ho⟩
  frame := fun _ _ _ st hk => ⟨let ⟨o, ho, r⟩ := st.1; ⟨o, hk it (by simp) o ho, r⟩, let ⟨o, ho, r⟩ := st.2; ⟨o, hk t (by simp) o ho, r⟩⟩
  item := fun i s Q E hi st hQ => by
    refine nextOf_tup_item st.1 st.2 (x := items[i]) (by simp [hi]) fun h' hit' hs' => ?_
    exact hQ _ h' s.toks (by simp [hi]) ⟨hit', st.2.extBut hs'.extBut hne⟩ hs'
  done := fun s Q E st hE => nextOf_tup_end hh st.1 st.2 (by simp) hE
theorem meets_enumerate_newT (l : Addr) (items : Array Value) (n : Nat) (dct : Option Addr) (sl : Array (Option Value)) :
    Meets (Builtin.«enumerate.__new__» ⟨[.type "enumerate", .ref l], []⟩) (fun _ R s => s.heap.get? l = some { cls := .type "tuple", dict := dct, data := .seq items n, slots := sl } ∧
      R (.ok (.ret (.ref (s.heap.push { cls := .type "tuple_iterator", data := .fields #[.ref l, .int 0 0] }).objs.size)))
        { s with heap := (s.heap.push { cls := .type "tuple_iterator", data := .fields #[.ref l, .int 0 0] }).push { cls := .type "enumerate", data := .fields #[.none, .bool false, .ref s.heap.objs.size, rawInt 0, .none, .none] } }) :=
  .of_wp fun prog w A R s h => by
    obtain ⟨hp, g, d, tk, os⟩ := s; obtain ⟨hl, h⟩ := h
    have hsub := sub_enumerate
    have hL : Heap.IsTuple (Shared.heap ⟨hp, g, d, tk, os⟩) l items := ⟨_, hl, rfl, n, rfl⟩
    wp_walk using wpAny_loadPart' hl
    refine wpAny_stack_any fun st => wpAny_pure ?_
    split
    · rename_i c _ _ _ _ _
      cases (c == Value.type "enumerate")
      · wp_walk using wpAny_loadPart' hl, wpAny_pyIter_tuple hL
        exact ⟨_, rfl, h⟩
      · wp_walk using wpAny_loadPart' hl, wpAny_pyIter_tuple hL
        exact ⟨_, rfl, h⟩
    · wp_walk using wpAny_loadPart' hl, wpAny_pyIter_tuple hL
      exact ⟨_, rfl, h⟩
theorem call_enumerate_tup {prog : Program} {w : World} {A : Around} {E : Value → Shared → Prop} {s : Shared} {l : Addr} {items : Array Value} {Q : Value → Shared → Prop} (hL : s.heap.IsTuple l items)
    (h : ∀ h', IsEnum h' (s.heap.objs.size + 1) s.heap.objs.size 0 .none → h'.IsTupleIter s.heap.objs.size l 0 → h'.objs.size = s.heap.objs.size + 2 →
      (∀ b o, s.heap.get? b = some o → h'.get? b = some o) → Q (.ref (s.heap.objs.size + 1)) { s with heap := h' }) :
    wpAny (model prog w) A (call (.type "enumerate") [.ref l]) Q E s := by
  obtain ⟨⟨c, dct, dt, sl⟩, hl, hc, n, hd⟩ := hL
  replace hc : c = .type "tuple" := hc
  replace hd : dt = .seq items n := hd
  subst hc hd
  refine callType_new PySem.F.called_enumerate (by decide) (PySem.F.typeCall_enumerate_1 _) (PySem.F.newCall_enumerate_1 _) (fun obj => PySem.F.args_object_init_2 obj _) PySem.F.entry_enumerate_new
    (meets_enumerate_newT l items n dct sl) ⟨hl, ?_⟩
  have hz : (s.heap.push { cls := .type "tuple_iterator", data := .fields #[.ref l, .int 0 0] }).objs.size = s.heap.objs.size + 1 := Heap.size_push ..
  show _ ∧ _
  rw [hz]
  have he : IsEnum ((s.heap.push { cls := .type "tuple_iterator", data := .fields #[.ref l, .int 0 0] }).push
      { cls := .type "enumerate", data := .fields #[.none, .bool false, .ref s.heap.objs.size, rawInt 0, .none, .none] }) (s.heap.objs.size + 1) s.heap.objs.size 0 .none := by
    have := Heap.get?_push_size (s.heap.push { cls := .type "tuple_iterator", data := .fields #[.ref l, .int 0 0] })
      (o := { cls := .type "enumerate", data := .fields #[.none, .bool false, .ref s.heap.objs.size, rawInt 0, .none, .none] }) rfl
    rw [hz] at this; exact this
  refine ⟨⟨_, he, rfl⟩, h _ he ⟨_, Heap.get?_push_of_some _ (Heap.get?_push_size _ rfl), rfl, rfl⟩ (by rw [Heap.size_push, hz]) fun b o x => Heap.get?_push_of_some _ (Heap.get?_push_of_some _ x)⟩
/-- the tuple at a, each item in a new pair -/
def Itet (K : PySem.W.Frag) (a : Addr) : It :=
  ⟨fun i H => ∃ (xs : List V) (x : V), SqT K H a xs ∧ xs[i]? = some x, fun i H v H' => ∃ T x, v = .ref T ∧ H T = none ∧ H' = upd H T (.tup [.int (i : Nat), x]) ∧ ∀ xs, SqT K H a xs → xs[i]? = some x, fun i H => ∃ xs : List V, SqT K H a xs ∧ xs.length ≤ i⟩
theorem enumT_end {prog : Program} {w : World} {A : Around} {E : Value → Shared → Prop} {s : Shared} {e it l : Addr} {i : Nat} {items : Array Value} {old : Value} {Q : Option Value → Shared → Prop} (hh : A.handled = none)
    (he : IsEnum s.heap e it i old) (hit : s.heap.IsTupleIter it l i) (hl : s.heap.IsTuple l items) (hx : items[i]? = none)
    (hQ : ∀ h', Heap.ExtBut it s.heap h' → Q none { s with heap := h' }) : wpAny (model prog w) A (pyNext (.ref e)) Q E s := by
  have hT : s.TypeIs (.ref e) "enumerate" := ⟨_, he, rfl⟩
  unfold pyNext
  refine wpAny_bind (wpAny_attempt (wpAny_callSpecial?_slot (name := Str.ofString "__next__") hT PySem.F.slot_enumerate_next
    (wpAny_call_entry PySem.F.slot_enumerate_next hT PySem.F.entry_enumerate_next ?_ (PySem.F.args_enumerate_next_1 _))))
  show wpAny _ _ (field (.ref e) 2 >>= _) _ _ _
  refine wpAny_bind (wpAny_field he rfl (x := .ref it) rfl ?_)
  refine wpAny_bind (nextOf_tup_end hh hit hl hx fun h' x he' hx' => ?_)
  obtain ⟨o, ho, hc⟩ := hx'
  refine wpAny_bind (wpAny_isInstance (T := "StopIteration") (b := true) ⟨o, ho, hc⟩ isSubtype_stop ?_)
  exact wpAny_pure (hQ _ he')
theorem vals_inj : ∀ {xs ys : List V} {us : List Value}, Vals xs us → Vals ys us → xs = ys
  | [], ys, _, r1, r2 => by
    cases r1
    cases r2
    rfl
  | x :: xs, ys, _, r1, r2 => by
    cases r1 with
    | cons a b =>
      cases r2 with
      | cons c d => rw [RelV.inj a c, vals_inj b d]
theorem tup_inj {X : Cx} {pins : List (Addr × Obj)} {σ : L2.St} {H : Hp} {s : Shared} {a : Addr} {xs ys : List V} (I : Inv X pins σ H s) (h : SqT X.K H a xs) (h' : SqT X.K H a ys) : xs = ys := by
  obtain ⟨its, r, ⟨o, e, _, n, d⟩, _⟩ := I.tuple h
  obtain ⟨its', r', ⟨o', e', _, n', d'⟩, _⟩ := I.tuple h'
  have z := Option.some.inj (e.symm.trans e')
  subst z
  rw [d] at d'
  have q : its = its' := by
    injection d' with d1 d2
    simpa using d1
  subst q
  exact vals_inj r r'
theorem turn_enumT {P : Program} {w : World} {K : PySem.W.Frag} {elts : List Expr} {kk : Nat} {tpos : Pos} (a e it : Addr) :
    Turn P w K (.Tuple elts kk tpos) (Itet K a) [e, it] e (fun i h => (∃ old, IsEnum h e it ((i : Nat) : Int) old) ∧ h.IsTupleIter it a i ∧ e ≠ it ∧ a ≠ it ∧ e ≠ a) where
  mem := by simp
  obj := fun i h st b hb => by
    obtain ⟨⟨old, he⟩, ⟨o, ho, hc, hd⟩, _⟩ := st
    have e' : b = e ∨ b = it := by simpa using hb
    rcases e' with z | z
    · rw [z]; exact ⟨_, he, fun v q => nomatch q⟩
    · rw [z]; exact ⟨o, ho, fun v q => by rw [hd] at q; cases q⟩
  keep := fun i h h' st k => let ⟨⟨old, he⟩, ⟨o, ho, r⟩, hne⟩ := st; ⟨⟨old, k e (by simp) _ he⟩, ⟨o, k it (by simp) o ho, r⟩, hne⟩
  item := by
    intro X hP hw hK hc i pins s σ H E I hf st hg
    subst hP hw hK
    obtain ⟨⟨old, he⟩, hit, hne, hai, hea⟩ := st
    obtain ⟨xs, x, hq, hx⟩ := hg
    obtain ⟨its, rv, p, hz⟩ := I.tuple hq
    obtain ⟨u, hu, ru⟩ := rv.get hx
    have hel : e < s.heap.objs.size := Heap.lt_size he
    have hil : it < s.heap.objs.size := by obtain ⟨_, q, _⟩ := hit; exact Heap.lt_size q
    have hlt : i < its.toArray.size := by
      rw [List.size_toArray]
      obtain ⟨q, _⟩ := List.getElem?_eq_some_iff.mp hu
      exact q
    refine wpAny_pyNext_enum_itemD (draws_tup (prog := X.prog) (w := X.w) (A := X.A.in1) (I.ok.hd hc) it a hai its.toArray) he ⟨hit, p⟩ hlt hne (by simp [hne, hea]) fun u' h' tk hu' ho hit' hT hsz hk => ?_
    have hu2 : its.toArray[i]? = some u := by rw [List.getElem?_toArray]; exact hu
    rw [hu2] at hu'
    obtain rfl := Option.some.inj hu'
    refine ⟨_, rfl, wpAny_letOwnedTupleGo_enum (s := { s with heap := h', toks := tk + 1 }) ho fun h'' he' sb => ?_⟩
    have hT2 : h''.get? s.heap.objs.size = some { cls := .type "tuple", data := .seq #[.int i tk, u] } := (sb.2 _ (Nat.ne_of_gt hel)).trans hT
    have new : ObjOk X.prog X.w (upd H s.heap.objs.size (.tup [.int (i : Nat), x])) h'' s.heap.objs.size (.tup [.int (i : Nat), x]) :=
      ⟨by show 2 ≤ sizeLine; decide, [.int i tk, u], .cons ⟨_, rfl⟩ (.cons ru .nil), ⟨_, hT2, rfl, _, rfl⟩⟩
    have I1 : Inv X pins σ (upd H s.heap.objs.size (.tup [.int (i : Nat), x])) { s with heap := h'', toks := tk + 1 } :=
      I.turnedNew (ch := [e, it]) (fun b ob hb q => (sb.2 b (fun z => hb (by simp [z]))).trans (hk b ob (fun z => hb (by simp [z])) (fun z => hb (by simp [z])) q)) hf (Nat.le_refl _) new
    refine ⟨.ref s.heap.objs.size, _, I1, rfl, ⟨_, x, rfl, I.hok.fresh (Nat.le_refl _), rfl, fun ys hy => by rw [tup_inj I hy hq]; exact hx⟩, ⟨⟨u, ?_⟩, ?_, hne, hai, hea⟩, fun b hb => ?_⟩
    · have e1 : ((i + 1 : Nat) : Int) = (i : Int) + 1 := by omega
      rw [e1]; exact he'
    · obtain ⟨o, ho2, r⟩ := hit'.1
      exact ⟨o, (sb.2 it (Ne.symm hne)).trans ho2, r⟩
    · have hb' : b < s.heap.objs.size := by
        have e' : b = e ∨ b = it := by simpa using hb
        rcases e' with z | z
        · rw [z]; exact hel
        · rw [z]; exact hil
      rw [upd_ne (Nat.ne_of_lt hb')]
      exact (hf b hb).1
  done := by
    intro X hP hw hK hc i pins s σ H E I hf st hg
    subst hP hw hK
    obtain ⟨⟨old, he⟩, hit, hne, hai, hea⟩ := st
    obtain ⟨xs, hq, hx⟩ := hg
    obtain ⟨its, rv, p, hz⟩ := I.tuple hq
    obtain ⟨f0, f1, f2, f3, f4, f5⟩ := hf it (by simp)
    have hl := rv.length
    have hn : its.toArray[i]? = none := by rw [List.getElem?_toArray]; exact List.getElem?_eq_none (by omega)
    exact enumT_end (I.ok.hd hc) he hit p hn fun h' eb => ⟨rfl, I.turned (t' := s.toks) (fun b o hb q => eb b o hb q) f0 f1 f3 f4 f5⟩
  self := fun A i s Q E st h => let ⟨⟨_, he⟩, _⟩ := st; wpAny_pyIter_enum he h
/-- enumerate(e): a list or a tuple -/
def iEnumU (K : PySem.W.Frag) (ta : TA) : TI := fun σ H R => ta σ H fun vs H1 => ∃ a xs, vs = [.ref a] ∧ ((SqL K H1 a xs ∧ R (Ite K a) H1) ∨ (SqT K H1 a xs ∧ R (Itet K a) H1))
theorem pi_enumU {X : Cx} {e : Expr} {ta : TA} {p pos tpos : Pos} {elts : List Expr} {kk : Nat} (hg : Gl X "enumerate") (hm : X.mg "enumerate" = none) (ha : PA X [e] ta) (hs : starEach [e] X.env = [(false, eval e X.env)] := by rfl) :
    PI X (.Tuple elts kk tpos) (.Call (.Name "enumerate" p) [e] [] pos) (iEnumU X.K ta) := by
  refine ⟨fun pins s σ H R I h => ?_⟩
  refine Call_ (ld_blt I hg hm boot_enumerate (PyProof.Rows.callWith_type1 (thn (ha.run pos pins s σ H _ I h) fun us s1 ⟨vs, H1, I1, r1, q1⟩ => ?_) hs rfl))
  obtain ⟨a, xs, ex, q⟩ := q1
  subst ex
  cases r1 with
  | cons r rr =>
    cases rr
    cases r
    have far : ∀ b, b ∈ [s1.heap.objs.size + 1, s1.heap.objs.size] → s1.heap.objs.size ≤ b := fun b hb => by
      have e' : b = s1.heap.objs.size + 1 ∨ b = s1.heap.objs.size := by simpa using hb
      rcases e' with z | z
      · rw [z]; exact Nat.le_add_right _ _
      · rw [z]; exact Nat.le_refl _
    rcases q with ⟨hq, q⟩ | ⟨hq, q⟩
    · obtain ⟨its, rv, p', hz⟩ := I1.list hq
      refine call_enumerate_list p'.isList fun h' he hit hsz hk => wpAny_pyIter_enum he ?_
      have I2 : Inv X pins σ H1 { s1 with heap := h' } := I1.kept (t' := s1.toks) hk
      exact ⟨s1.heap.objs.size + 1, [s1.heap.objs.size + 1, s1.heap.objs.size], _, _, H1, rfl, I2, turn_enum a (s1.heap.objs.size + 1) s1.heap.objs.size, ⟨⟨.none, he⟩, hit, Nat.succ_ne_self _⟩, fun b hb => I1.fpOk (far b hb) (I1.hok.fresh (far b hb)), q⟩
    · obtain ⟨its, rv, p', hz⟩ := I1.tuple hq
      have hal : a < s1.heap.objs.size := let ⟨o, ho, _⟩ := p'; Heap.lt_size ho
      refine call_enumerate_tup p' fun h' he hit hsz hk => wpAny_pyIter_enum he ?_
      have I2 : Inv X pins σ H1 { s1 with heap := h' } := I1.kept (t' := s1.toks) hk
      exact ⟨s1.heap.objs.size + 1, [s1.heap.objs.size + 1, s1.heap.objs.size], _, _, H1, rfl, I2, turn_enumT a (s1.heap.objs.size + 1) s1.heap.objs.size, ⟨⟨.none, he⟩, hit, Nat.succ_ne_self _, Nat.ne_of_lt hal, Nat.ne_of_gt (Nat.lt_succ_of_lt hal)⟩, fun b hb => I1.fpOk (far b hb) (I1.hok.fresh (far b hb)), q⟩
end U

set_option Elab.async false
set_option linter.all false
set_option maxRecDepth 100000
set_option maxHeartbeats 4000000
/-! further rules: enumerate's loops, dict(()), try / finally over several statements, an own error's __init__ that calls its base's, defs with a star parameter and a keyword-only one -/
namespace U
open PySem PySem.Spec PyProof.Rows L2
section
variable {K : PySem.W.Frag} {σ : L2.St} {H : Hp} {g : TG} {tb : TS} {nx bk ct : L2.St → Hp → Prop} {rt : VK} {a : Addr}
theorem goE (xs : List V) (Pv : Nat → L2.St → Hp → Prop) (h0 : Pv 0 σ H) (hl : ∀ i σ H, i ≤ xs.length → Pv i σ H → SqL K H a xs) (hs : ∀ (i : Nat) x σ H, xs[i]? = some x → Pv i σ H → ∀ T H', H T = none → H' T = some (.tup [.int (i : Nat), x]) → Ch [] H H' → g (.ref T) σ H' fun σ2 H2 => tb ⟨Pv (i + 1), rt, nx, Pv (i + 1)⟩ σ2 H2) (hd : ∀ σ H, Pv xs.length σ H → nx σ H) :
    ForG (Ite K a) g tb ⟨nx, rt, bk, ct⟩ σ H := by
  refine ⟨fun i m σ H => m = xs.length - i ∧ i ≤ xs.length ∧ Pv i σ H, ⟨xs.length, by simp, Nat.zero_le _, h0⟩, ?_⟩
  rintro i m σ H ⟨rfl, hi, p⟩
  by_cases hlt : i < xs.length
  · refine .inr ⟨⟨xs, xs[i], hl i σ H hi p, List.getElem?_eq_getElem hlt⟩, Pv (i + 1), fun σ' H' p' => ⟨xs.length - (i + 1), by omega, rfl, hlt, p'⟩, fun v H' y => ?_⟩
    obtain ⟨T, x, rfl, hT, rfl, hx⟩ := y
    exact hs i x σ H (hx xs (hl i σ H hi p)) p T _ hT upd_same (Ch.new hT)
  · have e : i = xs.length := by omega
    subst e
    exact .inl ⟨⟨xs, hl _ σ H hi p, Nat.le_refl _⟩, hd σ H p⟩
theorem goEt (xs : List V) (Pv : Nat → L2.St → Hp → Prop) (h0 : Pv 0 σ H) (hl : ∀ i σ H, i ≤ xs.length → Pv i σ H → SqT K H a xs) (hs : ∀ (i : Nat) x σ H, xs[i]? = some x → Pv i σ H → ∀ T H', H T = none → H' T = some (.tup [.int (i : Nat), x]) → Ch [] H H' → g (.ref T) σ H' fun σ2 H2 => tb ⟨Pv (i + 1), rt, nx, Pv (i + 1)⟩ σ2 H2) (hd : ∀ σ H, Pv xs.length σ H → nx σ H) :
    ForG (Itet K a) g tb ⟨nx, rt, bk, ct⟩ σ H := by
  refine ⟨fun i m σ H => m = xs.length - i ∧ i ≤ xs.length ∧ Pv i σ H, ⟨xs.length, by simp, Nat.zero_le _, h0⟩, ?_⟩
  rintro i m σ H ⟨rfl, hi, p⟩
  by_cases hlt : i < xs.length
  · refine .inr ⟨⟨xs, xs[i], hl i σ H hi p, List.getElem?_eq_getElem hlt⟩, Pv (i + 1), fun σ' H' p' => ⟨xs.length - (i + 1), by omega, rfl, hlt, p'⟩, fun v H' y => ?_⟩
    obtain ⟨T, x, rfl, hT, rfl, hx⟩ := y
    exact hs i x σ H (hx xs (hl i σ H hi p)) p T _ hT upd_same (Ch.new hT)
  · have e : i = xs.length := by omega
    subst e
    exact .inl ⟨⟨xs, hl _ σ H hi p, Nat.le_refl _⟩, hd σ H p⟩
theorem x_iEU {ta : TA} {R : It → Hp → Prop} (h : ta σ H fun vs H1 => ∃ a xs, vs = [.ref a] ∧ ((SqL K H1 a xs ∧ R (Ite K a) H1) ∨ (SqT K H1 a xs ∧ R (Itet K a) H1))) : iEnumU K ta σ H R := h
end
/-! ### dict(()) -/
def EmptyT (K : PySem.W.Frag) (T : Addr) : Prop := ∃ n sl, K.lookup T = some ⟨.type "tuple", none, .seq #[] n, sl⟩
def emptyB (K : PySem.W.Frag) (T : Addr) : Bool := match K.lookup T with
  | some ⟨.type c, none, .seq its _, _⟩ => decide (c = "tuple") && its.isEmpty
  | _ => false
theorem emptyB_ok {K : PySem.W.Frag} {T : Addr} (h : emptyB K T = true) : EmptyT K T := by
  unfold emptyB at h
  split at h
  · rename_i c its n sl e
    obtain ⟨h1, h2⟩ := Bool.and_eq_true_iff.mp h
    have e1 := of_decide_eq_true h1
    subst e1
    have e2 : its = #[] := by simpa using h2
    subst e2
    exact ⟨n, sl, e⟩
  · cases h
theorem tuple_keys_none : typeLookup (.type "tuple") "keys" = pure none := am_miss_of_fast (by first | decide +kernel | rfl)
section
variable {prog : Program} {w : World} {A : Around} {E : Value → Shared → Prop}
theorem miss_tup {s : Shared} {a : Addr} {xs : Array Value} {k : Nat} {sl : Array (Option Value)} {Q : Option Value → Shared → Prop} (hx : s.heap.get? a = some ⟨.type "tuple", none, .seq xs k, sl⟩) (hA : A.handled = none)
    (h : ∀ h' tk, (∀ b ob, s.heap.get? b = some ob → h'.get? b = some ob) → Q none { s with heap := h', toks := tk }) : wpAny (model prog w) A (getAttr? (.ref a) "keys") Q E s := by
  obtain ⟨hp, g, d, tk, os⟩ := s
  have hT : ∀ tk', (⟨hp, g, d, tk', os⟩ : Shared).TypeIs (.ref a) "tuple" := fun _ => ⟨_, hx, rfl⟩
  have hmiss := tuple_keys_none
  have hname : (["__module__", "__name__", "__qualname__", "__doc__", "__annotations__"] : List Str).contains "keys" = false := by decide +kernel
  have hsz : ("keys" : Str).length + 100 ≤ sizeLine := by first | size_fits | decide +kernel
  have f1 := sub_AttributeError
  have f3 := PySem.F.slot_tuple_getattribute.lookup
  have f4 := PySem.F.slot_tuple_getattribute.bind (.ref a)
  have f5 := am_tuple_getattr_none
  unfold getAttr? getAttrBy? getAttrBy
  repeat (any_goals (first | assumption | exact hT _ | ((with_reducible show wpAny _ _ (call (Value.builtin "tuple.__getattribute__") _ _) _ _ _); refine call_meets PySem.F.slot_tuple_getattribute (hT _) am_entry_tuple_getattribute (PySem.F.args_tuple_getattribute_2 _ _) (meets_getattribute_miss_tuple a xs k sl "keys" _ hmiss hname hsz) ⟨hx, hA, fun h' tk' e hx' => ?_⟩) | wp_step))
  obtain ⟨t', u', he⟩ := hx'.there
  show wpAny _ _ (getattributeRaised _ _ _ _ _ _ _) _ _ _
  unfold getattributeRaised
  repeat (any_goals (first | assumption | wp_step))
  all_goals first | exact h _ _ hx'.keeps | (dsimp only; repeat (any_goals (first | assumption | exact h _ _ hx'.keeps | wp_step)))
theorem call_dict_empty {s : Shared} {T : Addr} {k : Nat} {sl : Array (Option Value)} {Q : Value → Shared → Prop} (hh : A.handled = none) (hx : s.heap.get? T = some ⟨.type "tuple", none, .seq #[] k, sl⟩)
    (h : ∀ h' tk, h'.DictOf (mixKind prog w) s.heap.objs.size [] → (∀ b o, s.heap.get? b = some o → h'.get? b = some o) → Q (.ref s.heap.objs.size) { s with heap := h', toks := tk }) :
    wpAny (model prog w) A (call (.type "dict") [.ref T]) Q E s := by
  refine callType_codes (Q₁ := fun obj s₁ => obj = .ref s.heap.objs.size ∧ s₁ = { s with heap := s.heap.push { cls := .type "dict", data := .dict #[] } }) PySem.F.kt_called_dict (PySem.F.kt_typeCall_dict_1 _) PySem.F.entry_dict_init (kt_code_dict_new _ ⟨rfl, rfl⟩) ?_
  rintro obj s₁ ⟨rfl, rfl⟩
  have hnew : (s.heap.push { cls := .type "dict", data := .dict #[] }).DictOf (mixKind prog w) s.heap.objs.size [] := Heap.DictOf.new s.heap
  have k0 : ∀ b o, s.heap.get? b = some o → (s.heap.push { cls := .type "dict", data := .dict #[] }).get? b = some o := fun b o e => Heap.get?_push_of_some _ e
  refine ⟨hnew.typeIs, PySem.F.args_dict_init_2 _ _, ?_⟩
  unfold Builtin.«dict.__init__»
  refine wpAny_bind ?_
  unfold Builtin.Dict.selfAndRest
  refine wpAny_bind (wpAny_notOrdered_dict hnew.typeIs ?_)
  show wpAny _ _ (pure (s.heap.objs.size, [Value.ref T])) _ _ _
  refine wpAny_pure ?_
  show wpAny _ _ (Builtin.Dict.updateFrom "dict.__init__" s.heap.objs.size (.ref T) [] .none) _ _ _
  unfold Builtin.Dict.updateFrom
  refine wpAny_bind (wpAny_typeOf (T := "tuple") ⟨_, k0 _ _ hx, rfl⟩ ?_)
  rw [if_pos (by first | decide | rfl | simp)]
  refine wpAny_bind (miss_tup (k0 _ _ hx) hh fun h1 tk1 hk1 => ?_)
  rw [if_pos (show (none : Option Value).isNone = true from rfl)]
  refine wpAny_bind (wpAny_rule ?_)
  have hl1 : h1.IsTuple T #[] := ⟨_, hk1 _ _ (k0 _ _ hx), rfl, k, rfl⟩
  have hS1 : s.heap.objs.size < h1.objs.size := by
    have e : (s.heap.push { cls := .type "dict", data := .dict #[] }).get? s.heap.objs.size = some { cls := .type "dict", data := .dict #[] } := Heap.get?_push_size _ rfl
    exact Heap.lt_size (hk1 _ _ e)
  refine wpAny_bind (wpAny_pyIter_tuple hl1 ?_)
  have k2 : ∀ b o, h1.get? b = some o → (h1.push { cls := .type "tuple_iterator", data := .fields #[.ref T, .int 0 0] }).get? b = some o := fun b o e => Heap.get?_push_of_some _ e
  have key : codeAny (model prog w) A.in1 (.builtin "dict.update.loop" ⟨[.ref s.heap.objs.size, .ref h1.objs.size, .int 0 0, .none], []⟩) (wants (fun r s₂ => r = .none ∧ Q (.ref s.heap.objs.size) s₂) E)
      { s with heap := h1.push { cls := .type "tuple_iterator", data := .fields #[.ref T, .int 0 0] }, toks := tk1 } := by
    refine codeAny_builtin ud_entry ?_
    rw [Around.under_plainId ud_plain _]
    show wpAny _ A.in1.in1 (pyNext (.ref h1.objs.size) >>= _) _ _ _
    have hT : T < h1.objs.size := let ⟨_, e, _⟩ := hl1; Heap.lt_size e
    refine wpAny_bind (wpAny_pyNext_tuple_end (i := 0) (t := T) (items := #[]) (A := A.in1.in1) hh ⟨_, Heap.get?_push_size _ rfl, rfl, rfl⟩ (let ⟨o, e, r⟩ := hl1; ⟨o, k2 _ _ e, r⟩) rfl fun h' he => ?_)
    show wpAny _ A.in1.in1 (Builtin.Dict.addKeywords s.heap.objs.size [] >>= _) _ _ _
    refine wpAny_bind (wpAny_pure (wpAny_pure ?_))
    refine ⟨rfl, h h' tk1 ?_ fun b o e => he b o (Nat.ne_of_lt (Nat.lt_trans (Heap.lt_size e) hS1)) (k2 _ _ (hk1 _ _ (k0 _ _ e)))⟩
    exact ((hnew.at fun o e => hk1 _ _ e).at fun o e => k2 _ _ e).extBut he (Nat.ne_of_lt hS1)
  first
    | exact wpAny_pure ⟨plainId_quiet ud_plain _, key⟩
    | exact wpAny_bind (wpAny_pure (wpAny_pure ⟨plainId_quiet ud_plain _, key⟩))
end
def rDict0 (K : PySem.W.Frag) : List V → Hp → VK → Prop := fun xs H Q => ∃ T, xs = [.ref T] ∧ EmptyT K T ∧ ∀ p H', H p = none → H' p = some (.dK []) → Ch [] H H' → Q (.ref p) H'
def rDictD : List V → Hp → VK → Prop := fun xs H Q => ∃ a kvs, xs = [.ref a] ∧ H a = some (.dK kvs) ∧ ∀ p H', H p = none → H' p = some (.dK kvs) → Ch [] H H' → Q (.ref p) H'
section
variable {X : Cx}
theorem c_dict0 (hcalm : X.calm = true) : CallR X (.type "dict") (rDict0 X.K) := by
  intro pins s σ H xs us Q I r q
  obtain ⟨T, rfl, ⟨n, sl, hT⟩, q⟩ := q
  obtain rfl := Vals.ref1 r
  have fr : H s.heap.objs.size = none := I.hok.fresh (Nat.le_refl _)
  refine call_dict_empty (I.ok.hd hcalm) (I.kIn _ _ hT) fun h' tk hd' k => ?_
  have hm : (s.heap.objs.size == sysModules) = false := beq_eq_false_iff_ne.mpr (Nat.ne_of_gt I.big)
  exact ⟨.ref s.heap.objs.size, upd H s.heap.objs.size (.dK []), I.laid (t' := tk) k (Nat.le_refl _) (show ObjOk X.prog X.w _ _ _ (.dK []) from ⟨Nat.zero_le _, hm, [], .nil, hd'⟩), rfl, q _ _ fr upd_same (Ch.new fr)⟩
theorem c_dictD : CallR X (.type "dict") rDictD := by
  intro pins s σ H xs us Q I r q
  obtain ⟨a, kvs, rfl, ha, q⟩ := q
  obtain rfl := Vals.ref1 r
  exact d_copyOf I (.inl ha) fun p s' hp I' => ⟨.ref p, _, I', rfl, q p _ hp upd_same (Ch.new hp)⟩
def rDictU (K : PySem.W.Frag) : List V → Hp → VK → Prop := fun xs H Q => rDict0 K xs H Q ∨ rDictD xs H Q
theorem c_dict (hcalm : X.calm = true) : CallR X (.type "dict") (rDictU X.K) := fun pins s σ H xs us Q I r q => q.elim (fun q => c_dict0 hcalm pins s σ H xs us Q I r q) fun q => c_dictD pins s σ H xs us Q I r q
end
/-! ### try: s1; s2; return e / finally: fs, with exceptions -/
/-- the reading: behind each the next; then the finally suite, the value handed on; an exception meets the suite too -/
def tFin3 (t1 t2 : WX → TS) (te : WX → TE) (tf tfs : TS) (Wout : WX) : TS := fun D σ H =>
  t1 (wFin tfs Wout) ⟨fun σ1 H1 => t2 (wFin tfs Wout) ⟨fun σ2 H2 => te (wFin tfs Wout) σ2 H2 fun v H3 => tf { D with nx := fun _ H4 => D.rt v H4 } σ2 H3, fun _ _ => False, fun _ _ => False, fun _ _ => False⟩ σ1 H1, fun _ _ => False, fun _ _ => False, fun _ _ => False⟩ σ H
section
variable {X : Cx} {s1 s2 f₀ : Stmt} {fs : List Stmt} {e : Expr} {rp pos : Pos} {t1 t2 : WX → TS} {te : WX → TE} {tf tfs : TS} {Wout : WX}
theorem ps_fin3 (hs : X.stack = X.env :: X.outer) (hf : X.env.frame = some X.env.locals) (hex : X.ex = []) (tk : Takes X Wout)
    (h1 : ∀ (W : WX) (pn : List (Addr × Obj)) (xe : Value → Shared → Prop), Takes (X.tr pn xe) W → PassesOwn (model X.prog X.w) X.A X.env xe → PS (X.tr pn xe) s1 (t1 W))
    (h2 : ∀ (W : WX) (pn : List (Addr × Obj)) (xe : Value → Shared → Prop), Takes (X.tr pn xe) W → PassesOwn (model X.prog X.w) X.A X.env xe → PS (X.tr pn xe) s2 (t2 W))
    (he : ∀ (W : WX) (pn : List (Addr × Obj)) (xe : Value → Shared → Prop), Takes (X.tr pn xe) W → PassesOwn (model X.prog X.w) X.A X.env xe → PE (X.tr pn xe) e (te W))
    (hfin : PSs X.nox (f₀ :: fs) tf) (hsu : ∀ (a : Addr) (pn : List (Addr × Obj)), PSs (X.suite a pn) (f₀ :: fs) tfs) : PS X (.Try [s1, s2, .Return (some e) rp] [] [] (f₀ :: fs) pos) (tFin3 t1 t2 te tf tfs Wout) := by
  refine ⟨fun pins s σ H D I h => ?_⟩
  have ok := I.ok
  have key : ∀ (u : Value) (s' : Shared), XE (X.tr (X.pn ++ pins) (fun x s₁ => wpAny (model X.prog X.w) X.A (noteFrame x X.env) (fun _ s₂ => FinallyRaised X.prog X.w X.A X.xe X.env (f₀ :: fs) (SP X pins D) x s₂) (FinallyRaised X.prog X.w X.A X.xe X.env (f₀ :: fs) (SP X pins D)) s₁)) (wFin tfs Wout) u s' →
    wpAny (model X.prog X.w) X.A (noteFrame u X.env) (fun _ s₂ => FinallyRaised X.prog X.w X.A X.xe X.env (f₀ :: fs) (SP X pins D) u s₂) (FinallyRaised X.prog X.w X.A X.xe X.env (f₀ :: fs) (SP X pins D)) s' := fun u s' xx => fin_exc hs hf hex ok tk hsu xx
  generalize hxe : (fun (x : Value) (s₁ : Shared) => wpAny (model X.prog X.w) X.A (noteFrame x X.env) (fun _ s₂ => FinallyRaised X.prog X.w X.A X.xe X.env (f₀ :: fs) (SP X pins D) x s₂) (FinallyRaised X.prog X.w X.A X.xe X.env (f₀ :: fs) (SP X pins D)) s₁) = xe at key
  have tk2 : Takes (X.tr (X.pn ++ pins) xe) (wFin tfs Wout) := fun u s' xx => by
    have q := key u s' xx
    have e2 : xe u s' = wpAny (model X.prog X.w) X.A (noteFrame u X.env) (fun _ s₂ => FinallyRaised X.prog X.w X.A X.xe X.env (f₀ :: fs) (SP X pins D) u s₂) (FinallyRaised X.prog X.w X.A X.xe X.env (f₀ :: fs) (SP X pins D)) s' := by rw [← hxe]
    show xe u s'
    rw [e2]
    exact q
  have pss : PassesOwn (model X.prog X.w) X.A X.env xe := by
    rw [← hxe]
    exact PassesOwn.looking
  refine wpAny_Try_finally ?_
  have hx2 : ∀ {m : Sem Flow} {Q : Flow → Shared → Prop} {s : Shared}, wpAny (model X.prog X.w) X.A m Q xe s → wpAny (model X.prog X.w) X.A m Q (fun e s₁ => wpAny (model X.prog X.w) X.A (noteFrame e X.env) (fun _ s₂ => FinallyRaised X.prog X.w X.A X.xe X.env (f₀ :: fs) (SP X pins D) e s₂) (FinallyRaised X.prog X.w X.A X.xe X.env (f₀ :: fs) (SP X pins D)) s₁) s := fun {m Q s} q => by
    rw [hxe]
    exact q
  refine hx2 ?_
  have run1 := (h1 (wFin tfs Wout) (X.pn ++ pins) xe tk2 pss).run [] s σ H _ (I.toTry xe) h
  refine wpAny_execs_cons ?_
  refine wpAny_mono run1 (fun f z1 q => ?_) (fun _ _ z => z)
  cases f with
  | ret u =>
    obtain ⟨_, _, _, _, _, q⟩ := q
    exact q.elim
  | brk =>
    obtain ⟨_, _, _, q⟩ := q
    exact q.elim
  | cont =>
    obtain ⟨_, _, _, q⟩ := q
    exact q.elim
  | next =>
    obtain ⟨σ1, H1, I1, q1⟩ := q
    refine wpAny_execs_cons (wpAny_mono ((h2 (wFin tfs Wout) (X.pn ++ pins) xe tk2 pss).run [] z1 σ1 H1 _ I1 q1) (fun f z2 q => ?_) (fun _ _ z => z))
    cases f with
    | ret u =>
      obtain ⟨_, _, _, _, _, q⟩ := q
      exact q.elim
    | brk =>
      obtain ⟨_, _, _, q⟩ := q
      exact q.elim
    | cont =>
      obtain ⟨_, _, _, q⟩ := q
      exact q.elim
    | next =>
      obtain ⟨σ2, H2, I2, q2⟩ := q
      refine wpAny_execs_cons (wpAny_Return_some (wpAny_mono ((he (wFin tfs Wout) (X.pn ++ pins) xe tk2 pss).run [] z2 σ2 H2 _ I2 q2) (fun u z3 q => ?_) (fun _ _ z => z)))
      obtain ⟨v, H3, I3, r3, q3⟩ := q
      exact fin_ret hfin (I3.ofTry ok) r3 q3
end
/-! ### D.__init__(self, ..), D an own class over ValueError without an __init__ of its own -/
structure BaseInit (K : PySem.W.Frag) (D : Addr) : Prop where
  sp : PySem.W.specialIn K (.ref D) "__getattribute__" = some (some (.builtin "type.__getattribute__"))
  rd : PySem.W.readsIn K D (.type "type") = true
  fi : PySem.W.findCls K (.ref D) (.type "type") "__init__" = some (.val (.builtin "ValueError.__init__"))
section
variable {X : Cx} {e : Expr} {es : List Expr} {ta : TA} {p1 p2 pos : Pos}
theorem pe_veinitB {x : Str} {D : Addr} {pl : Sem Bool} (hg : Gl X x) (hm : X.mg x = some (.ref D)) (b : BaseInit X.K D) (ha : PA X (e :: es) ta) (hdb : (x == ("__debug__" : Str)) = false := by decide)
    (hc : eval (.Call (.Attribute (.Name x p1) "__init__" p2) (e :: es) [] pos) X.env = (do
      let ov ← eval (.Name x p1) X.env
      standAt p2.atName
      let (f, first) ← holding [ov] (getMethod ov "__init__" pl)
      callWith pos f first (backTo pos (starEach (e :: es) X.env)) (backToKw pos (keywordEach [] X.env))) := by rfl)
    (he : starEach (e :: es) X.env = (false, eval e X.env) :: starEach es X.env := by rfl) (hpl : (backTo pos (starEach es X.env)).any (·.1) = false := by rfl) :
    PE X (.Call (.Attribute (.Name x p1) "__init__" p2) (e :: es) [] pos) (tVeI X.K ta) := by
  refine ⟨fun pins s σ H Q I h => ?_⟩
  refine PySem.W.methodCall_KW (ld_glob I hg hm ?_ hdb) hc
  refine PySem.W.method_cls I.kIn b.sp (PySem.W.cls_value I.kIn b.rd b.fi rfl ?_)
  show wpAny _ _ (callWith pos (Value.builtin "ValueError.__init__") [] (backTo pos (starEach (e :: es) X.env)) []) _ _ _
  refine PyProof.Rows.callWith_method1 (thn (ha.run pos pins _ σ H _ (I.tok _) h) fun us s1 ⟨vs, H1, I1, r1, a, C, ws, ev, hl, T, ea, q⟩ => ?_) he hpl
  subst ev
  cases r1 with
  | @cons _ u0 _ ur ra rw' =>
    obtain rfl : u0 = Value.ref a := ra
    have hlen : ur.length ≤ sizeLine := by
      rw [← Paired.length rw', sizeLine_eq]
      omega
    exact oinit_ok T I1 ea hlen fun s' J => ⟨.non, H1, J, rfl, q⟩
end
def oexB (K : PySem.W.Frag) (C : Addr) : Bool := (match K.lookup C with
  | some ⟨.type t, _, .cls cd, sl⟩ => (match cd.mro, sl.toList with
    | .ref C' :: bm, [_, _, _, _, some (.builtin n), _] => C' == C && n == "ValueError.__new__" && !cd.hasDel && cd.hasDict && t == "type" && PySem.HandSPX.refsVE bm
    | _, _ => false)
  | _ => false) && (PySem.W.findIn K (.ref C) "__setattr__" == some (some (.builtin "object.__setattr__")) && PySem.W.subIn K (.ref C) (.type "BaseException") == some true && PySem.W.typeIn K (.ref C) == some (.type "type") && PySem.W.keepIn K (.ref C))
theorem oexB_ok {K : PySem.W.Frag} {C : Addr} (h : oexB K C = true) : OexC K C := by
  obtain ⟨h1, h2⟩ := Bool.and_eq_true_iff.mp h
  simp only [Bool.and_eq_true, beq_iff_eq] at h2
  obtain ⟨⟨⟨a, b⟩, c⟩, d⟩ := h2
  refine ⟨?_, a, b, c, d⟩
  split at h1
  · rename_i t dd cd sl ho
    split at h1
    · rename_i C' bm k0 k1 k2 k3 n k5 hm hs
      simp only [Bool.and_eq_true, beq_iff_eq, Bool.not_eq_true'] at h1
      obtain ⟨⟨⟨⟨⟨rfl, rfl⟩, hdel⟩, hdict⟩, ht⟩, hok⟩ := h1
      obtain ⟨nm, bs, mro, ns, qn, hd, sn, sub, ab, col, del⟩ := cd
      dsimp only at hm hdel hdict
      subst hm hdel hdict ht
      have hsl : sl = #[k0, k1, k2, k3, some (.builtin "ValueError.__new__"), k5] := by
        obtain ⟨l⟩ := sl
        simp only at hs
        rw [hs]
      subst hsl
      exact ⟨_, _, _, _, _, _, _, _, _, _, _, _, _, _, _, ho, hok⟩
    · cases h1
  · cases h1
def baseB (K : PySem.W.Frag) (D : Addr) : Bool := (PySem.W.specialIn K (.ref D) "__getattribute__" == some (some (.builtin "type.__getattribute__"))) && (PySem.W.readsIn K D (.type "type") && (match PySem.W.findCls K (.ref D) (.type "type") "__init__" with
  | some (.val (.builtin n)) => n == "ValueError.__init__"
  | _ => false))
theorem baseB_ok {K : PySem.W.Frag} {D : Addr} (h : baseB K D = true) : BaseInit K D := by
  obtain ⟨h1, h2⟩ := Bool.and_eq_true_iff.mp h
  obtain ⟨h2, h3⟩ := Bool.and_eq_true_iff.mp h2
  refine ⟨beq_iff_eq.mp h1, h2, ?_⟩
  split at h3
  · rename_i n e
    have q := beq_iff_eq.mp h3
    subst q
    exact e
  · cases h3
/-! ### def f(self, *v, k): called with one more argument and the keyword -/
def FnK (P : Program) (w : World) (K : PySem.W.Frag) (mg : Str → Option Value) (base : Heap) (CX : CXT) (k : Nat) (f : Addr) (nm : Str) (sp : Sp) : Prop :=
  ∀ (A : Around) (outer : List Env) (s : Shared) (H : Hp) (us : List Value) (w0 : Value) (vs : List V) (z : V) (Q : VK) (E : XK), Room k A → Env0 P w K mg base A outer s H → Vals vs us → RelV z w0 → sp (vs ++ [z]) H Q E →
    codeAny (model P w) A (.call (.ref f) ⟨us, [(nm, w0)]⟩) (CR CX outer P w H s Q E) s
theorem fn_star1kw {P : Program} {w : World} {K : PySem.W.Frag} {mg : Str → Option Value} {base : Heap} {CX : CXT} {k : Nat} {x qual : Str} {params : Arguments} {body : List Stmt} {scope : Scope} {f : Addr} {N : List Str} {p1 pk pv : Str} {sp : Sp}
    (F : ∃ fd, FunD K x qual params body scope [] [] f fd) (S : FnScope N [p1, pk, pv] scope) (hCX : StX.CXUp CX)
    (hb : ∀ (kV doc pm : Value) (an : Option Addr) (cdv ct : Value) (a y w0 : Value), bindArgs (PySem.W.fnOf x qual params body scope .none kV doc pm an cdv ct) ⟨[a, y], [(pk, w0)]⟩ = (newTuple [y] >>= fun t => pure [(p1, a), (pk, w0), (pv, t)]))
    (hbody : ∀ (cdv : Value) (A : Around) (outer : List Env) (s : Shared) (H : Hp) (vs : List V) (Q : VK) (E : XK), Room k (A.deeper (envOfC qual scope s.heap.objs.size f cdv)) → sp vs H Q E →
      ∃ t, PSs (cxOf CX P w K mg base N qual scope f cdv A outer s H E) body t ∧ t ⟨fun _ H' => Q .non H', Q, fun _ _ => False, fun _ _ => False⟩ (start N vs) H) :
    FnK P w K mg base CX (k + 1) f pk (fun vs H Q E => ∃ a y z, vs = [a, y, z] ∧ ∀ p, H p = none → sp [a, z, .ref p] (upd H p (.tup [y])) Q E) := by
  obtain ⟨fd, F⟩ := F
  obtain ⟨oc, od, dV, kV, doc, pm, an, cdv, ct, osl, rfl, lk, hcd, hD, hK⟩ := F.ex
  have hdV : dV = .none := by
    rcases hD with ⟨_, q⟩ | ⟨q, _⟩
    · exact q
    · exact absurd rfl q
  subst hdV
  intro A outer s H us w0 vs z Q E hr e0 r rz hsp
  obtain ⟨a, y, z', ev, hq⟩ := hsp
  have e2 : vs = [a, y] ∧ z = z' := by
    match vs, ev with
    | [], ev => simp at ev
    | [_], ev => simp at ev
    | [_, _], ev => simpa [and_assoc] using ev
    | _ :: _ :: _ :: _, ev => simp at ev
  obtain ⟨rfl, rfl⟩ := e2
  obtain ⟨ua, uy, rfl, ra, ry⟩ := vals2 r
  have hn : H s.heap.objs.size = Option.none := e0.hok.fresh (Nat.le_refl _)
  refine StX.run_bnd lk hcd S hr e0 (G := fun xs H2 => ∃ p, H p = Option.none ∧ xs = [a, z, .ref p] ∧ H2 = upd H p (.tup [y])) (fun A' Ex Q' h => ?_) fun s2 H2 xs ⟨p, hp, ex, eH⟩ hr' => ?_
  · rw [hb]
    refine wpAny_bind (wpAny_newTuple (wpAny_pure ?_) (by show 1 ≤ sizeLine; decide))
    have new : ObjOk P w (upd H s.heap.objs.size (.tup [y])) (s.heap.push ({ cls := .type "tuple", data := .seq [uy].toArray } : Obj)) s.heap.objs.size (.tup [y]) := ⟨by show 1 ≤ sizeLine; decide, [uy], .cons ry .nil, ⟨_, Heap.get?_push_size _ rfl, rfl, _, rfl⟩⟩
    have un := StX.un_laid (fs := frs outer) (s := s) (o := ({ cls := .type "tuple", data := .seq [uy].toArray } : Obj)) (u := .tup [y]) hn
    exact h _ _ [a, z, .ref s.heap.objs.size] [ua, w0, .ref s.heap.objs.size] (StX.env0_laid e0 new) un rfl (fun e s' => hCX outer s H _ _ E e s' un (fun b o q => Heap.get?_push_of_some _ q) rfl) (.cons ra (.cons rz (.cons rfl .nil))) rfl ⟨_, hn, rfl, rfl⟩
  · subst ex eH
    exact hbody cdv A outer s2 _ _ Q E hr' (hq p hp)
def tMethK (C : Addr) (m : Str) (sp : Sp) (E : XK) (ta : TE) (t : TA) (te : TE) : TE := fun σ H Q => ta σ H fun x H1 => ∃ a dx fs, x = .ref a ∧ H1 a = some (.ins C dx fs) ∧ fs.lookup m = none ∧ t σ H1 fun vs H2 => te σ H2 fun z H3 => ∃ z', [z] = [z'] ∧ sp (.ref a :: vs ++ [z']) H3 Q E
theorem pe_methK {X : Cx} {CX : CXT} {k : Nat} {C f : Addr} {m nm : Str} {sp : Sp} {E : XK} {o e e2 : Expr} {es : List Expr} {ta te : TE} {t : TA} {apos pos kpos : Pos} {pl : Sem Bool} (he : PE X o ta) (c : Cls X.K C) (hm : Meth X.K C m f)
    (F : FnK X.prog X.w X.K X.mg X.base CX k f nm sp) (hr : Room k X.A) (hx : Passes CX X E) (ha : PA X (e :: es) t) (h2 : PE X e2 te)
    (hall : (backToKw pos (keywordEach [⟨some nm, e2, kpos⟩] X.env)).all (·.1.isSome) = true := by rfl) (hks : (backToKw pos (keywordEach [⟨some nm, e2, kpos⟩] X.env)).filterMap (·.1) = [nm] := by rfl)
    (hst : starEach (e :: es) X.env = (false, eval e X.env) :: starEach es X.env := by rfl) (hpl : ((backTo pos (starEach (e :: es) X.env)).any (·.1) || (backToKw pos (keywordEach [⟨some nm, e2, kpos⟩] X.env)).any (·.1.isNone)) = false := by rfl)
    (ht : eval (.Call (.Attribute o m apos) (e :: es) [⟨some nm, e2, kpos⟩] pos) X.env = (do
      let ov ← eval o X.env
      standAt apos.atName
      let (f, first) ← holding [ov] (getMethod ov m pl)
      callWith pos f first (backTo pos (starEach (e :: es) X.env)) (backToKw pos (keywordEach [⟨some nm, e2, kpos⟩] X.env))) := by rfl) :
    PE X (.Call (.Attribute o m apos) (e :: es) [⟨some nm, e2, kpos⟩] pos) (tMethK C m sp E ta t te) := by
  refine ⟨fun pins s σ H Q I h => ?_⟩
  refine PySem.W.methodCall_KW (pl := pl) (thn (he.run pins s σ H _ I h) fun u s1 ⟨x, H1, I1, rx, a, dx, fs, ex, ea, l, q⟩ => ?_) ht
  subst ex
  obtain rfl : u = Value.ref a := rx
  refine getmeth_ok I1 ea c hm l ?_
  refine PySem.W.callWith_KW (first := [.ref a]) (h₀ := X.base) I1.ok.mod.kin hm.kp hall (thn (ha.run pos pins s1 σ H1 _ I1 q) fun us s2 ⟨vs, H2, I2, r, q2⟩ => ?_) hpl hst
  refine thn ((pk_cons (nm := some nm) (kpos := kpos) h2 pk_nil).run pos pins s2 σ H2 (fun zs H3 => ∃ z, zs = [z] ∧ sp (.ref a :: vs ++ [z]) H3 Q E) I2 ?_) fun ws s3 ⟨zs, H3, I3, rz, z, ez, q3⟩ => ⟨I3.kIn, ?_⟩
  · exact q2
  · rw [hks]
    subst ez
    obtain ⟨w0, rfl, rw0⟩ := vals1 rz
    refine wpAny_call (codeAny_mono (F X.A X.stack s3 H3 (.ref a :: us) w0 (.ref a :: vs) z Q E hr I3.env0 (.cons rfl r) rw0 q3) fun r s' hq => ?_)
    cases r with
    | error e => exact hx pins σ H3 s3 e s' I3 hq
    | ok fl =>
      cases fl with
      | ret u => exact I3.after hq
      | next => exact False.elim hq
      | brk => exact False.elim hq
      | cont => exact False.elim hq
theorem x_methK {C : Addr} {m : Str} {sp : Sp} {E : XK} {ta te : TE} {t : TA} {σ : L2.St} {H : Hp} {Q : VK} (h : ta σ H fun x H1 => ∃ a dx fs, x = .ref a ∧ H1 a = some (.ins C dx fs) ∧ fs.lookup m = none ∧ t σ H1 fun vs H2 => te σ H2 fun z H3 => ∃ z', [z] = [z'] ∧ sp (.ref a :: vs ++ [z']) H3 Q E) : tMethK C m sp E ta t te σ H Q := h
end U

set_option Elab.async false
set_option linter.all false
set_option maxRecDepth 100000
set_option maxHeartbeats 4000000
/-! facts of the written part, by tests -/
namespace U
open PySem PySem.Spec PyProof.Rows L2 ClX
/-- the i-th def of a property of the class -/
def pgA (K : PySem.W.Frag) (C : Addr) (f : Str) (i : Nat) : Addr := match PySem.W.recIn K (He.ma K C f) "property" with
  | some vs => (match vs[i]? with
    | some (.ref g) => g
    | _ => 0)
  | none => 0
def propB (K : PySem.W.Frag) (C : Addr) (f : Str) : Bool := PySem.W.findIn K (.ref C) f == some (some (.ref (He.ma K C f))) && (PySem.W.specialIn K (.ref (He.ma K C f)) "__get__" == some (some (.builtin "property.__get__")) && (PySem.W.takesIn K (.ref (He.ma K C f)) == some true &&
  (match PySem.W.recIn K (He.ma K C f) "property" with
  | some (.ref g :: _) => g == pgA K C f 0
  | _ => false)))
theorem propB_ok {K : PySem.W.Frag} {C : Addr} {f : Str} (h : propB K C f = true) : PropOf K C f (He.ma K C f) (pgA K C f 0) := by
  obtain ⟨h1, h⟩ := Bool.and_eq_true_iff.mp h
  obtain ⟨h2, h⟩ := Bool.and_eq_true_iff.mp h
  obtain ⟨h3, h4⟩ := Bool.and_eq_true_iff.mp h
  refine ⟨beq_iff_eq.mp h1, beq_iff_eq.mp h2, beq_iff_eq.mp h3, ?_⟩
  split at h4
  · rename_i g rest e
    have q := beq_iff_eq.mp h4
    subst q
    exact ⟨rest, e⟩
  · cases h4
def psetB (K : PySem.W.Frag) (C : Addr) (f : Str) : Bool := PySem.W.takerIn K C f == some (some (.ref (He.ma K C f))) && (PySem.W.typeIn K (.ref (He.ma K C f)) == some (.type "property") &&
  (match PySem.W.recIn K (He.ma K C f) "property" with
  | some (_ :: .ref g :: _) => g == pgA K C f 1
  | _ => false))
theorem psetB_ok {K : PySem.W.Frag} {C : Addr} {f : Str} (h : psetB K C f = true) : PropSet K C f (He.ma K C f) (pgA K C f 1) := by
  obtain ⟨h1, h⟩ := Bool.and_eq_true_iff.mp h
  obtain ⟨h2, h4⟩ := Bool.and_eq_true_iff.mp h
  refine ⟨beq_iff_eq.mp h1, beq_iff_eq.mp h2, ?_⟩
  split at h4
  · rename_i a g rest e
    have q := beq_iff_eq.mp h4
    subst q
    exact ⟨a, rest, e⟩
  · cases h4
/-- C.f is the constant v -/
def cvalB (K : PySem.W.Frag) (C : Addr) (f : Str) (v : V) : Bool := (match PySem.W.findCls K (.ref C) (.type "type") f with
  | some (.val u) => He.relB v u
  | _ => false) && (PySem.W.readsIn K C (.type "type") && PySem.W.specialIn K (.ref C) "__getattribute__" == some (some (.builtin "type.__getattribute__")))
structure CV (K : PySem.W.Frag) (C : Addr) (f : Str) (v : V) : Prop where
  cr : CRead K C (.type "type")
  cv : ∃ u, CVal K C (.type "type") f v u
theorem cvalB_ok {K : PySem.W.Frag} {C : Addr} {f : Str} {v : V} (h : cvalB K C f v = true) : CV K C f v := by
  obtain ⟨h1, h⟩ := Bool.and_eq_true_iff.mp h
  obtain ⟨h2, h3⟩ := Bool.and_eq_true_iff.mp h
  refine ⟨⟨h2, beq_iff_eq.mp h3⟩, ?_⟩
  split at h1
  · rename_i u e
    exact ⟨u, e, He.relB_ok h1⟩
  · cases h1
theorem x_cval {K : PySem.W.Frag} {C : Addr} {f : Str} {v : V} {R : V → Prop} (c : CV K C f v) (q : R v) : ∃ C' mc v' u, V.ref C = .ref C' ∧ CRead K C' mc ∧ CVal K C' mc f v' u ∧ R v' :=
  let ⟨u, k⟩ := c.cv
  ⟨C, _, v, u, rfl, c.cr, k, q⟩
def neB (K : PySem.W.Frag) (C : Addr) : Bool := PySem.W.findIn K (.ref C) "__ne__" == some (some (.builtin "object.__ne__")) && (PySem.W.subIn K (.ref C) (.type "object") == some true && (PySem.W.findIn K (.ref C) "__eq__" == some (some (.ref (He.ma K C "__eq__"))) && (PySem.W.isFn K (.ref (He.ma K C "__eq__")) && PySem.W.keepIn K (.ref (He.ma K C "__eq__")))))
theorem neB_ok {K : PySem.W.Frag} {C : Addr} (h : neB K C = true) : NeC K C (He.ma K C "__eq__") := by
  obtain ⟨h1, h⟩ := Bool.and_eq_true_iff.mp h
  obtain ⟨h2, h⟩ := Bool.and_eq_true_iff.mp h
  obtain ⟨h3, h⟩ := Bool.and_eq_true_iff.mp h
  obtain ⟨h4, h5⟩ := Bool.and_eq_true_iff.mp h
  exact ⟨beq_iff_eq.mp h1, beq_iff_eq.mp h2, ⟨beq_iff_eq.mp h3, h4, h5⟩⟩
/-- isinstance of an instance of C: C itself -/
structure IsC (K : PySem.W.Frag) (C : Addr) : Prop where
  ha : PySem.W.findIn K (.ref C) "__class__" = some (some (.builtin "object.__class__"))
  hn : PySem.W.specialIn K (.builtin "object.__class__") "__get__" = some (some (.builtin "getset_descriptor.__get__"))
  htk : PySem.W.takesIn K (.builtin "object.__class__") = some true
  hm : PySem.W.mroIn K C (.type "object") = some true
  ki : PySem.W.kitOne K (.ref C) (.ref C) = some true
def iscB (K : PySem.W.Frag) (C : Addr) : Bool := PySem.W.findIn K (.ref C) "__class__" == some (some (.builtin "object.__class__")) && (PySem.W.specialIn K (.builtin "object.__class__") "__get__" == some (some (.builtin "getset_descriptor.__get__")) && (PySem.W.takesIn K (.builtin "object.__class__") == some true && (PySem.W.mroIn K C (.type "object") == some true && PySem.W.kitOne K (.ref C) (.ref C) == some true)))
theorem iscB_ok {K : PySem.W.Frag} {C : Addr} (h : iscB K C = true) : IsC K C := by
  obtain ⟨h1, h⟩ := Bool.and_eq_true_iff.mp h
  obtain ⟨h2, h⟩ := Bool.and_eq_true_iff.mp h
  obtain ⟨h3, h⟩ := Bool.and_eq_true_iff.mp h
  obtain ⟨h4, h5⟩ := Bool.and_eq_true_iff.mp h
  exact ⟨beq_iff_eq.mp h1, beq_iff_eq.mp h2, beq_iff_eq.mp h3, beq_iff_eq.mp h4, beq_iff_eq.mp h5⟩
theorem x_isC {K : PySem.W.Frag} {a C dx : Addr} {fs : List (Str × V)} {H : Hp} {Q : VK} (h : H a = some (.ins C dx fs)) (cl : Cls K C) (i : IsC K C) (q : Q (.bl true) H) : rIsi K [.ref a, .ref C] H Q :=
  ⟨.ref a, .ref C, .ref C, .ref C, true, rfl, .own C, .base (.ins h cl i.ha i.hn i.htk i.hm), i.ki, q⟩
def exmB (K : PySem.W.Frag) (C D : Addr) : Bool := PySem.W.exmOne K (.ref C) (.ref D) == some true
theorem exmB_ok {K : PySem.W.Frag} {C D : Addr} (h : exmB K C D = true) : PySem.W.exmOne K (.ref C) (.ref D) = some true := beq_iff_eq.mp h
/-- isinstance with built-in types, by the value -/
theorem kit_ii {K : PySem.W.Frag} : PySem.W.kitOne K (.type "int") (.type "int") = some true := kit_ty (by decide +kernel)
theorem x_isNon {K : PySem.W.Frag} {T : String} {b : Bool} {H : Hp} {Q : VK} (e : kitB "NoneType" T = some b) (q : Q (.bl b) H) : rIsi K [.non, .ty T] H Q := ⟨.non, .ty T, _, _, b, rfl, .ty T, .base .non, kit_ty e, q⟩
theorem x_isInt {K : PySem.W.Frag} {T : String} {b : Bool} {i : Int} {H : Hp} {Q : VK} (e : kitB "int" T = some b) (q : Q (.bl b) H) : rIsi K [.int i, .ty T] H Q := ⟨.int i, .ty T, _, _, b, rfl, .ty T, .base (.int i), kit_ty e, q⟩
theorem x_isBl {K : PySem.W.Frag} {T : String} {b c : Bool} {H : Hp} {Q : VK} (e : kitB "bool" T = some b) (q : Q (.bl b) H) : rIsi K [.bl c, .ty T] H Q := ⟨.bl c, .ty T, _, _, b, rfl, .ty T, .base (.bl c), kit_ty e, q⟩
theorem x_isStr {K : PySem.W.Frag} {T : String} {b : Bool} {z : Str} {H : Hp} {Q : VK} (e : kitB "str" T = some b) (q : Q (.bl b) H) : rIsi K [.str z, .ty T] H Q := ⟨.str z, .ty T, _, _, b, rfl, .ty T, .base (.str z), kit_ty e, q⟩
theorem tyx_tup {K : PySem.W.Frag} {a : Addr} {xs : List V} {H : Hp} (h : SqT K H a xs) : TyX K H (.ref a) (.type "tuple") := by
  rcases h with (h | ⟨o, h⟩) | ⟨o, its, n, e1, e2, _⟩
  · exact .base (.tup h)
  · exact .fTuple h
  · exact .kTuple e1 e2
theorem tyx_lst {K : PySem.W.Frag} {a : Addr} {xs : List V} {H : Hp} (h : H a = some (.lst xs)) : TyX K H (.ref a) (.type "list") := .base (.lst h)
theorem x_isLst {K : PySem.W.Frag} {T : String} {b : Bool} {a : Addr} {xs : List V} {H : Hp} {Q : VK} (h : H a = some (.lst xs)) (e : kitB "list" T = some b) (q : Q (.bl b) H) : rIsi K [.ref a, .ty T] H Q := ⟨.ref a, .ty T, _, _, b, rfl, .ty T, tyx_lst h, kit_ty e, q⟩
theorem x_isTup {K : PySem.W.Frag} {T : String} {b : Bool} {a : Addr} {xs : List V} {H : Hp} {Q : VK} (h : SqT K H a xs) (e : kitB "tuple" T = some b) (q : Q (.bl b) H) : rIsi K [.ref a, .ty T] H Q := ⟨.ref a, .ty T, _, _, b, rfl, .ty T, tyx_tup h, kit_ty e, q⟩
end U

set_option Elab.async false
set_option linter.all false
set_option maxRecDepth 100000
set_option maxHeartbeats 4000000
/-! dicts: membership, equality of the same entries; data compared -/
namespace U
open PySem PySem.Spec PyProof.Rows L2
def flatR : V → Bool
  | .ref _ => true
  | v => flatB v
theorem eqAt_sameR {A : Around} {s : Shared} {v : V} {u u' : Value} (r : RelV v u) (r' : RelV v u') (f : flatR v = true) : SeqAt.EqAt A s u u' true := by
  cases v with
  | ref a => cases (show u = Value.ref a from r); cases (show u' = Value.ref a from r'); exact SeqAt.EqAt.same _
  | _ => exact eqAt_same r r' f
theorem hits_allR {κ : Type} [DecidableEq κ] {A : Around} {s : Shared} {kvs : List (κ × V)} {vb : List (κ × Value)} (rb : KV kvs vb) {ks : List (κ × V)} {va : List (κ × Value)} (ra : KV ks va) :
    (∀ p ∈ ks, valV kvs p.1 = some p.2 ∧ flatR p.2 = true) → PySem.W.KeqHits A s vb va true := by
  unfold KV at ra
  induction ra with
  | nil => intro _; exact .nil
  | @cons p q ps qs h t ih =>
    intro hp
    obtain ⟨h1, h2⟩ := h
    obtain ⟨e, f⟩ := hp p List.mem_cons_self
    have rr : RelO (some p.2) (valueAt vb p.1) := by rw [← e]; exact rb.val p.1
    obtain ⟨y, hy, ry⟩ := rr.some_of
    obtain ⟨k, v⟩ := q
    have h1' : p.1 = k := h1
    rw [h1'] at hy
    show PySem.W.KeqHits A s vb ((k, v) :: qs) (true && true)
    exact .hit hy (eqAt_sameR h2 ry f) (ih fun p' hm => hp p' (List.mem_cons_of_mem _ hm))
def rEqDI : R2 := fun x y H Q => ∃ a b kvs, x = .ref a ∧ y = .ref b ∧ H a = some (.dK kvs) ∧ H b = some (.dK kvs) ∧ (kvs.map (·.1)).Nodup ∧ (∀ p ∈ kvs, flatR p.2 = true) ∧ Q (.bl true) H
section
variable {X : Cx}
theorem u_eqDI (hu : X.A.units < cLine) : OpR X (compareOp .Eq) rEqDI := by
  intro pins s σ H x y v u Q I rx ry h
  obtain ⟨a, b, kvs, rfl, rfl, ea, eb, nd, fl, q⟩ := h
  obtain rfl : v = Value.ref a := rx
  obtain rfl : u = Value.ref b := ry
  obtain ⟨_, ya, va, ra, da⟩ := (show ObjOk X.prog X.w H s.heap a (.dK kvs) from I.hok a _ ea)
  obtain ⟨_, yb, vb, rb, db⟩ := (show ObjOk X.prog X.w H s.heap b (.dK kvs) from I.hok b _ eb)
  have hl : va.length = vb.length := ra.length.symm.trans rb.length
  refine PySem.W.keq_eq (knd := mixKind X.prog X.w) (r := true) ya yb da db hu (fun _ => hits_allR rb ra fun p hp => ⟨val_nodup nd p hp, fl p hp⟩) ?_
  have e : (va.length == vb.length && true) = true := by simp [hl]
  rw [e]
  exact ⟨.bl true, H, I, rfl, q⟩
def rLenD : List V → Hp → VK → Prop := fun xs H Q => ∃ a kvs, xs = [V.ref a] ∧ H a = some (.dK kvs) ∧ Q (.int (kvs.length : Nat)) H
theorem c_lenD : CallR X (.builtin "len") rLenD := by
  intro pins s σ H xs us Q I r h
  obtain ⟨a, kvs, rfl, e, q⟩ := h
  obtain rfl := Vals.ref1 r
  exact d_len I (.inl e) fun t s' I' => ⟨.int kvs.length, H, I', ⟨t, rfl⟩, q⟩
def rSortD : List V → Hp → VK → Prop := fun xs H Q => ∃ (a : Addr) (kvs : List (Key × V)) (ks : List Str), xs = [.ref a] ∧ Rd H a (.dK kvs) ∧ kvs.map (·.1) = ks.map Sum.inr ∧ ks.length < 64 ∧ ∀ ys p, ys.Perm ks → sortedS ys = true → H p = none → Q (.ref p) (upd H p (.lst (ys.map V.str)))
theorem c_sortD (hcalm : X.calm = true) : CallR X (.builtin "sorted") rSortD := call_sortedD hcalm
def rInD : R2 := fun x y H Q => ∃ a o, y = .ref a ∧ DGet H a x o ∧ Q (.bl o.isSome) H
def rNotInD : R2 := fun x y H Q => ∃ a o, y = .ref a ∧ DGet H a x o ∧ Q (.bl (!o.isSome)) H
theorem u_inD (hu : X.A.units + 1 < cLine) : OpR X (compareOp .In) rInD := by
  intro pins s σ H x y v u Q I rx ry h
  obtain ⟨a, o, rfl, g, q⟩ := h
  obtain rfl : u = Value.ref a := ry
  exact d_in hu I g rx fun s3 I3 => ⟨.bl o.isSome, H, I3, rfl, q⟩
theorem u_notinD (hu : X.A.units + 1 < cLine) : OpR X (compareOp .NotIn) rNotInD := by
  intro pins s σ H x y v u Q I rx ry h
  obtain ⟨a, o, rfl, g, q⟩ := h
  obtain rfl : u = Value.ref a := ry
  exact d_notIn hu I g rx fun s3 I3 => ⟨.bl (!o.isSome), H, I3, rfl, q⟩
end
section
variable {K : PySem.W.Frag} {H : Hp} {Q : VK} {x y v : V} {d e : PyData} {a : Addr} {z : Str} {kvs : List (Key × V)}
theorem x_eqDat (h1 : Dt K H x d) (h2 : Dt K H y e) (s1 : SeqAt.shaped d = true) (s2 : SeqAt.shaped e = true) (q : Q (.bl (PyData.eqv d e)) H) : rEqU K x y H Q := .inr ⟨d, e, h1.dp, h2.dp, s1, s2, q⟩
theorem x_inD (h : H a = some (.dK kvs)) (q : Q (.bl (valV kvs (.inr z)).isSome) H) : rInD (.str z) (.ref a) H Q := ⟨a, _, rfl, DGet.k (k := .inr z) h, q⟩
theorem x_notInD (h : H a = some (.dK kvs)) (q : Q (.bl (!(valV kvs (.inr z)).isSome)) H) : rNotInD (.str z) (.ref a) H Q := ⟨a, _, rfl, DGet.k (k := .inr z) h, q⟩
theorem x_inDy (h : H a = some (.dK kvs)) (l : valV kvs (.inr z) = some v) (q : Q (.bl true) H) : rInD (.str z) (.ref a) H Q := x_inD h (by rw [l]; exact q)
theorem x_inDn (h : H a = some (.dK kvs)) (l : valV kvs (.inr z) = none) (q : Q (.bl false) H) : rInD (.str z) (.ref a) H Q := x_inD h (by rw [l]; exact q)
theorem x_notInDy (h : H a = some (.dK kvs)) (l : valV kvs (.inr z) = some v) (q : Q (.bl false) H) : rNotInD (.str z) (.ref a) H Q := x_notInD h (by rw [l]; exact q)
theorem x_notInDn (h : H a = some (.dK kvs)) (l : valV kvs (.inr z) = none) (q : Q (.bl true) H) : rNotInD (.str z) (.ref a) H Q := x_notInD h (by rw [l]; exact q)
theorem x_dget {R : V → Prop} (h : H a = some (.dK kvs)) (l : valV kvs (.inr z) = some v) (q : R v) : ∃ b w, V.ref a = .ref b ∧ DGet H b (.str z) (some w) ∧ R w := ⟨a, v, rfl, by rw [← l]; exact DGet.k (k := .inr z) h, q⟩
theorem x_dput {nx : Hp → Prop} (h : H a = some (.dK kvs)) (hl : kvs.length < sizeLine) (n : valV kvs (.inr z) = none) (q : ∀ H', H' a = some (.dK (kvs ++ [(.inr z, v)])) → Ch [a] H H' → nx H') : ∃ b H', V.ref a = .ref b ∧ DPut H b (.str z) v H' ∧ nx H' := by
  refine ⟨a, _, rfl, DPut.k (k := .inr z) h hl, q _ ?_ (Ch.mut h rfl)⟩
  rw [upd_same, putK_new v n]
theorem x_eqDI {b : Addr} (ha : H a = some (.dK kvs)) (hb : H b = some (.dK kvs)) (nd : (kvs.map (·.1)).Nodup) (fl : ∀ p ∈ kvs, flatR p.2 = true) (q : Q (.bl true) H) : rEqDI (.ref a) (.ref b) H Q := ⟨a, b, kvs, rfl, rfl, ha, hb, nd, fl, q⟩
end
/-! ### names with values, in order: a dict -/
/-- a table of names and data -/
def DvA (K : PySem.W.Frag) (H : Hp) : List (Key × V) → List (Str × PyData) → Prop
  | [], [] => True
  | (k, v) :: r, (z, d) :: s => k = .inr z ∧ Dt K H v d ∧ DvA K H r s
  | _, _ => False
section
variable {K : PySem.W.Frag} {H H' : Hp} {S : List Addr}
theorem DvA.ch : ∀ {kvs : List (Key × V)} {ks : List (Str × PyData)}, DvA K H kvs ks → Ch S H H' → DvA K H' kvs ks
  | [], [], _, _ => trivial
  | (k, v) :: r, (z, d) :: s, h, c => ⟨h.1, h.2.1.ch c, h.2.2.ch c⟩
  | [], _ :: _, h, _ => h.elim
  | _ :: _, [], h, _ => h.elim
theorem DvA.snoc {z : Str} {v : V} {d : PyData} (hd : Dt K H v d) : ∀ {kvs : List (Key × V)} {ks : List (Str × PyData)}, DvA K H kvs ks → DvA K H (kvs ++ [(.inr z, v)]) (ks ++ [(z, d)])
  | [], [], _ => ⟨rfl, hd, trivial⟩
  | (k, v) :: r, (z, d) :: s, h => ⟨h.1, h.2.1, DvA.snoc hd h.2.2⟩
  | [], _ :: _, h => h.elim
  | _ :: _, [], h => h.elim
theorem DvA.length : ∀ {kvs : List (Key × V)} {ks : List (Str × PyData)}, DvA K H kvs ks → kvs.length = ks.length
  | [], [], _ => rfl
  | (k, v) :: r, (z, d) :: s, h => by rw [List.length_cons, List.length_cons, h.2.2.length]
  | [], _ :: _, h => h.elim
  | _ :: _, [], h => h.elim
theorem DvA.keys : ∀ {kvs : List (Key × V)} {ks : List (Str × PyData)}, DvA K H kvs ks → kvs.map (·.1) = (ks.map (·.1)).map Sum.inr
  | [], [], _ => rfl
  | (k, v) :: r, (z, d) :: s, h => by
    rw [List.map_cons, List.map_cons, List.map_cons, h.2.2.keys, h.1]
  | [], _ :: _, h => h.elim
  | _ :: _, [], h => h.elim
/-- looked up -/
theorem DvA.get {z : Str} : ∀ {kvs : List (Key × V)} {ks : List (Str × PyData)}, DvA K H kvs ks → (valV kvs (.inr z) = none ∧ ks.lookup z = none) ∨ ∃ v d, valV kvs (.inr z) = some v ∧ ks.lookup z = some d ∧ Dt K H v d
  | [], [], _ => .inl ⟨rfl, rfl⟩
  | (k, v) :: r, (y, d) :: s, h => by
    obtain ⟨h1, h2, h3⟩ := h
    subst h1
    by_cases e : y = z
    · subst e
      exact .inr ⟨v, d, valV_pos rfl, by simp [List.lookup], h2⟩
    · have e1 : valV ((.inr y, v) :: r) (.inr z) = valV r (.inr z) := valV_neg fun q => e (by injection q)
      have e2 : List.lookup z ((y, d) :: s) = List.lookup z s := by
        have : (z == y) = false := by simpa using fun q => e q.symm
        simp [List.lookup, this]
      rw [e1, e2]
      exact DvA.get h3
  | [], _ :: _, h => h.elim
  | _ :: _, [], h => h.elim
theorem lookup_none {z : Str} {β : Type} : ∀ {ks : List (Str × β)}, z ∉ ks.map (·.1) → ks.lookup z = none
  | [], _ => rfl
  | (y, d) :: s, h => by
    have h1 : z ≠ y := fun q => h (by rw [q]; exact List.mem_cons_self)
    have h3 : (z == y) = false := by simpa using h1
    have h2 : (match z == y with | true => some d | false => List.lookup z s) = none := by
      rw [h3]
      exact lookup_none fun m => h (List.mem_cons_of_mem _ m)
    exact h2
/-- of names that are in order apart -/
theorem lookup_some {z : Str} {β : Type} {d : β} : ∀ {ks : List (Str × β)}, (ks.map (·.1)).Nodup → (z, d) ∈ ks → ks.lookup z = some d
  | [], _, h => by cases h
  | (y, e) :: s, nd, h => by
    rw [List.map_cons, List.nodup_cons] at nd
    rcases List.mem_cons.mp h with q | q
    · injection q with q1 q2
      subst q1 q2
      simp [List.lookup]
    · have h1 : z ≠ y := fun w => nd.1 (by rw [← w]; exact List.mem_map.mpr ⟨_, q, rfl⟩)
      have h3 : (z == y) = false := by simpa using h1
      have h2 : (match z == y with | true => some e | false => List.lookup z s) = some d := by
        rw [h3]
        exact lookup_some nd.2 q
      exact h2
theorem DvA.flat : ∀ {kvs : List (Key × V)} {ks : List (Str × PyData)}, DvA K H kvs ks → ∀ p ∈ kvs, flatR p.2 = true
  | [], [], _ => fun p hp => by cases hp
  | (k, v) :: r, (z, d) :: s, h => fun p hp => by
    rcases List.mem_cons.mp hp with q | q
    · rw [q]
      obtain ⟨_, h2, _⟩ := h
      cases h2 <;> rfl
    · exact DvA.flat h.2.2 p q
  | [], _ :: _, h => h.elim
  | _ :: _, [], h => h.elim
theorem DvA.nodup {kvs : List (Key × V)} {ks : List (Str × PyData)} (h : DvA K H kvs ks) (nd : (ks.map (·.1)).Nodup) : (kvs.map (·.1)).Nodup := by
  rw [h.keys]
  exact List.Pairwise.map _ (fun a b q e => q (by injection e)) nd
end
end U

set_option Elab.async false
set_option linter.all false
set_option maxRecDepth 100000
set_option maxHeartbeats 4000000
/-! steps over attributes, dicts, own methods, properties -/
namespace U
open PySem PySem.Spec PyProof.Rows L2 ClX
/-- a new instance -/
def NwO (H1 : Hp) (C : Addr) (R : Addr → Hp → Prop) : Prop := ∀ x dx H', H1 x = none → H1 dx = none → dx ≠ x → H' = upd (upd H1 dx (.own x)) x (.ins C dx []) → R x H'
section
variable {K : PySem.W.Frag} {σ : L2.St} {H : Hp} {Q : VK} {v x y : V} {a b C dx : Addr} {fs : List (Str × V)} {f m : Str} {ta tb tv te to ti : TE} {tA : TA} {D : Ends} {sp : Sp} {E : XK} {nx bk ct : L2.St → Hp → Prop} {rt : VK} {kvs : List (Key × V)} {z : Str}
theorem x_fld (h : ta σ H fun x H1 => ∃ a C dx fs v, x = .ref a ∧ H1 a = some (.ins C dx fs) ∧ Cls K C ∧ NoAttr K C f ∧ fs.lookup f = some v ∧ Q v H1) : tFld K ta f σ H Q := h
theorem x_fldB {R : V → Prop} (h : H a = some (.ins C dx fs)) (c : Cls K C) (n : NoAttr K C f) (l : fs.lookup f = some v) (q : R v) : ∃ a' C' dx' fs' v', V.ref a = .ref a' ∧ H a' = some (.ins C' dx' fs') ∧ Cls K C' ∧ NoAttr K C' f ∧ fs'.lookup f = some v' ∧ R v' := ⟨a, C, dx, fs, v, rfl, h, c, n, l, q⟩
theorem x_sfld (h : tv σ H fun y H1 => ta σ H1 fun x H2 => ∃ a C dx fs, x = .ref a ∧ H2 a = some (.ins C dx fs) ∧ Cls K C ∧ NoAttr K C f ∧ fs.length < 1000 ∧ nx σ (upd H2 a (.ins C dx (putF f y fs)))) : sFld K ta tv f ⟨nx, rt, bk, ct⟩ σ H := h
theorem x_sfldB {R : Hp → Prop} (h : H a = some (.ins C dx fs)) (c : Cls K C) (n : NoAttr K C f) (hl : fs.length < 1000) (q : ∀ H', H' a = some (.ins C dx (putF f y fs)) → Ch [a] H H' → R H') : ∃ a' C' dx' fs', V.ref a = .ref a' ∧ H a' = some (.ins C' dx' fs') ∧ Cls K C' ∧ NoAttr K C' f ∧ fs'.length < 1000 ∧ R (upd H a' (.ins C' dx' (putF f y fs'))) := ⟨a, C, dx, fs, rfl, h, c, n, hl, q _ upd_same (Ch.mut h rfl)⟩
theorem x_cvalS (h : ta σ H fun x H1 => ∃ C mc v u, x = .ref C ∧ CRead K C mc ∧ CVal K C mc f v u ∧ Q v H1) : tCVal K ta f σ H Q := h
theorem x_dgetS (h : ta σ H fun x H1 => tb σ H1 fun y H2 => ∃ a v, x = .ref a ∧ DGet H2 a y (some v) ∧ Q v H2) : tDGet ta tb σ H Q := h
theorem x_dputS (h : tv σ H fun v H1 => ta σ H1 fun x H2 => tb σ H2 fun y H3 => ∃ a H4, x = .ref a ∧ DPut H3 a y v H4 ∧ nx σ H4) : sDPut ta tb tv ⟨nx, rt, bk, ct⟩ σ H := h
theorem x_callTy {r : List V → Hp → VK → Prop} (h : tA σ H fun vs H1 => r vs H1 Q) : tCB r tA σ H Q := h
theorem x_subOS (h : to σ H fun x H1 => ti σ H1 fun y H2 => ∃ a dx fs, x = .ref a ∧ H2 a = some (.ins C dx fs) ∧ sp [.ref a, y] H2 Q E) : tSubO C sp E to ti σ H Q := h
theorem x_putOS (h : tv σ H fun v H1 => to σ H1 fun x H2 => ti σ H2 fun y H3 => ∃ a dx fs, x = .ref a ∧ H3 a = some (.ins C dx fs) ∧ sp [.ref a, y, v] H3 (fun _ H' => nx σ H') E) : sPutO C sp E to ti tv ⟨nx, rt, bk, ct⟩ σ H := h
theorem x_psetS (h : tv σ H fun v H1 => to σ H1 fun x H2 => ∃ a dx fs, x = .ref a ∧ H2 a = some (.ins C dx fs) ∧ sp [.ref a, v] H2 (fun _ H' => nx σ H') E) : sPset C sp E to tv ⟨nx, rt, bk, ct⟩ σ H := h
theorem x_propS {dvs : List V} (h : ta σ H fun x H1 => ∃ a dx fs, x = .ref a ∧ H1 a = some (.ins C dx fs) ∧ sp (.ref a :: dvs) H1 Q E) : tProp C sp dvs E ta σ H Q := h
theorem x_methR (h : ta σ H fun x H1 => ∃ a dx fs, x = .ref a ∧ H1 a = some (.ins C dx fs) ∧ fs.lookup m = none ∧ tA σ H1 fun vs H2 => sp (x :: vs) H2 Q E) : tMethR C m sp E ta tA σ H Q := h
theorem x_makeR (h : tA σ H fun vs H1 => NwO H1 C fun x H' => sp (V.ref x :: vs) H' (fun v H2 => v = .non ∧ Q (.ref x) H2) E) : StX.tMakeR C sp E tA σ H Q := by
  have e : (fun (vs : List V) (H1 : Hp) => NwO H1 C fun x H' => sp (V.ref x :: vs) H' (fun v H2 => v = .non ∧ Q (.ref x) H2) E) = fun vs H1 => ∀ x dx, H1 x = none → H1 dx = none → dx ≠ x → sp (V.ref x :: vs) (upd (upd H1 dx (.own x)) x (.ins C dx [])) (fun v H2 => v = .non ∧ Q (.ref x) H2) E := by
    funext vs H1
    exact propext ⟨fun z x dx a b c => z x dx _ a b c rfl, fun z x dx H' a b c e => by rw [e]; exact z x dx a b c⟩
  rw [e] at h
  exact h
/-- the object of an own operation, at hand -/
theorem x_obj {R : Addr → Prop} (h : H a = some (.ins C dx fs)) (q : R a) : ∃ a' dx' fs', V.ref a = .ref a' ∧ H a' = some (.ins C dx' fs') ∧ R a' := ⟨a, dx, fs, rfl, h, q⟩
theorem x_objM {R : Addr → Prop} (h : H a = some (.ins C dx fs)) (l : fs.lookup m = none) (q : R a) : ∃ a' dx' fs', V.ref a = .ref a' ∧ H a' = some (.ins C dx' fs') ∧ fs'.lookup m = none ∧ R a' := ⟨a, dx, fs, rfl, h, l, q⟩
theorem nO {R : Addr → Hp → Prop} (q : ∀ x dx H', H x = none → H' x = some (.ins C dx []) → Ch [] H H' → R x H') : NwO H C R := fun x dx H' hx hd ne e =>
  q x dx H' hx (by rw [e]; exact upd_same) (by rw [e]; exact (Ch.new hd).nilL (Ch.new (by rw [upd_ne (Ne.symm ne)]; exact hx)))
end
section
variable {X : Cx} {CX : CXT} {k : Nat} {f C : Addr} {sp : Sp} {E : XK} {x m : Str} {p pos apos : Pos} {o : Expr} {ta : TE}
/-- C() -/
theorem pe_makeR0 (M : Mk X.K C f) (F : FnR X.prog X.w X.K X.mg X.base CX k f sp) (hr : Room (k + 1) X.A) (hg : Gl X x) (hm : X.mg x = some (.ref C)) (hx : Passes CX X E) (hdb : (x == ("__debug__" : Str)) = false := by decide) :
    PE X (.Call (.Name x p) [] [] pos) (StX.tMakeR C sp E tNil) := by
  refine ⟨fun pins s σ H Q I h => ?_⟩
  refine wpAny_Call_Name_kw (ld_glob I hg hm ?_ hdb)
  exact PySem.W.callWith_K0 I.kIn M.kp (StX.run_makeR (us := []) M F hr hx I .nil h)
end
/-! ### inside a comprehension: K told -/
section
variable {X : Cx} {K : PySem.W.Frag}
theorem pe_fldE {e : Expr} {f : Str} {pos : Pos} {ta : TE} (hK : X.K = K) (he : PE X e ta) (hb : attributeBase e f X.env (eval e X.env) = eval e X.env) : PE X (.Attribute e f pos) (tFld K ta f) := by subst hK; exact pe_fld he hb
theorem ix_seqE (hK : X.K = K) : IxR X (rIx K) := by subst hK; exact ix_seq
theorem u_eqE (hK : X.K = K) (hu : X.A.units + 64 < cLine) : OpR X (compareOp .Eq) (rEqU K) := by subst hK; exact u_eq hu
theorem u_neE (hK : X.K = K) (hu : X.A.units + 64 < cLine) : OpR X (compareOp .NotEq) (rNeU K) := by subst hK; exact u_ne hu
theorem u_addE (hK : X.K = K) : OpR X (binaryOp .Add) (rAdd K) := by subst hK; exact u_add
theorem u_inE (hK : X.K = K) : OpR X (compareOp .In) (rInU K) := by subst hK; exact u_in
theorem u_notinE (hK : X.K = K) : OpR X (compareOp .NotIn) (rNotInU K) := by subst hK; exact u_notin
theorem c_lenE (hK : X.K = K) : CallR X (.builtin "len") (rLenC K) := by subst hK; exact c_len
theorem c_listE (hK : X.K = K) : CallR X (.type "list") (rListC K) := by subst hK; exact c_list
theorem c_tupleE (hK : X.K = K) : CallR X (.type "tuple") (rTupC K) := by subst hK; exact c_tuple
theorem c_isiE (hK : X.K = K) : CallR X (.builtin "isinstance") (rIsi K) := by subst hK; exact call_isi
end
section
variable {K : PySem.W.Frag} {σ : L2.St} {H : Hp} {v : V} {vs xs r : List V} {a : Addr} {Qs : L2.St → Hp → Prop} {t : TG} {u us : TGs} {n : Nat} {Q : VK}
theorem x_gtup (h : SqT K H a xs) (hl : xs.length = n) (q : us xs σ H Qs) : gTup K n us (.ref a) σ H Qs := ⟨a, xs, rfl, h, hl, q⟩
theorem x_gcons (q : t v σ H fun σ' H' => u r σ' H' Qs) : gCons t u (v :: r) σ H Qs := ⟨v, r, rfl, q⟩
theorem x_gnil (q : Qs σ H) : gNil [] σ H Qs := ⟨rfl, q⟩
def NwD (H1 : Hp) (R : Addr → Hp → Prop) : Prop := ∀ p H', H1 p = none → H' = upd H1 p (.dK []) → R p H'
theorem x_dnew (h : NwD H fun p H' => Q (.ref p) H') : tDNewK σ H Q := fun p hp => h p _ hp rfl
theorem nD {R : Addr → Hp → Prop} (q : ∀ p H', H p = none → H' p = some (.dK []) → Ch [] H H' → R p H') : NwD H R := fun p H' hp e => q p H' hp (by rw [e]; exact upd_same) (by rw [e]; exact Ch.new hp)
end
section
variable {X : Cx} {K : PySem.W.Frag} {CX : CXT} {k : Nat} {C p g : Addr} {f : Str} {ps : List Str} {sp : Sp} {E : XK} {e : Expr} {pos : Pos} {ta : TE}
theorem pg_tupE {es : List Expr} {k : Nat} {t : TGs} {n : Nat} (hK : X.K = K) (hc : X.calm = true) (h : PGs X es t)
    (hn : (assignEach es X.env).length = n := by rfl) (hst : (assignEach es X.env).findIdx? (·.1) = none := by rfl) : PG X (.Tuple es k pos) (gTup K n t) := by
  subst hK
  exact pg_tup hc h hn hst
theorem pe_propF (he : PE X e ta) (c : Cls X.K C) (hp : PropOf X.K C f p g) (F : FD X.prog X.w X.K X.mg X.base CX0 k g ps sp) (hr : Room (k + 1) X.A) (hab : attributeBase e f X.env (eval e X.env) = eval e X.env := by rfl) : PE X (.Attribute e f pos) (tProp C sp [] E ta) := by
  refine ⟨fun pins s σ H Q I h => ?_⟩
  obtain ⟨fd, F1, b⟩ := F.ex
  exact (pe_prop (E := E) he c hp F1 hr b .nil (fun _ _ _ _ _ _ _ h => h.elim) hab).run pins s σ H Q I h
end
end U

set_option Elab.async false
set_option linter.all false
set_option maxRecDepth 100000
set_option maxHeartbeats 4000000
namespace U
open PySem PySem.Spec PyProof.Rows L2
def top (i : Nat) : Stmt := PySem.Challenge.pw_struckbodies_k78_whole_unwound_in_parts.main.body.getD i (.Pass ⟨0, 0, 0, 0⟩)
abbrev s_is_name : Stmt := (top 19)
abbrev N_is_name : List Str := ["text", "char"]
theorem sc_is_name : FnScope N_is_name ["text"] (defScope s_is_name) := ⟨rfl, rfl, rfl, by decide +kernel, rfl, by decide +kernel, by decide +kernel⟩
abbrev s_check_name : Stmt := (top 20)
abbrev N_check_name : List Str := ["name"]
theorem sc_check_name : FnScope N_check_name ["name"] (defScope s_check_name) := ⟨rfl, rfl, rfl, by decide +kernel, rfl, by decide +kernel, by decide +kernel⟩
abbrev s_check_number : Stmt := (top 21)
abbrev N_check_number : List Str := ["number"]
theorem sc_check_number : FnScope N_check_number ["number"] (defScope s_check_number) := ⟨rfl, rfl, rfl, by decide +kernel, rfl, by decide +kernel, by decide +kernel⟩
abbrev s_check_kind : Stmt := (top 25)
abbrev N_check_kind : List Str := ["kind"]
theorem sc_check_kind : FnScope N_check_kind ["kind"] (defScope s_check_kind) := ⟨rfl, rfl, rfl, by decide +kernel, rfl, by decide +kernel, by decide +kernel⟩
abbrev s_copied : Stmt := (top 27)
abbrev N_copied : List Str := ["book"]
theorem sc_copied : FnScope N_copied ["book"] (defScope s_copied) := ⟨rfl, rfl, rfl, by decide +kernel, rfl, by decide +kernel, by decide +kernel⟩
abbrev s_cell_names : Stmt := (top 28)
abbrev N_cell_names : List Str := ["book", "name", "size"]
theorem sc_cell_names : FnScope N_cell_names ["book"] (defScope s_cell_names) := ⟨rfl, rfl, rfl, by decide +kernel, rfl, by decide +kernel, by decide +kernel⟩
abbrev s_check_argument : Stmt := (top 34)
abbrev N_check_argument : List Str := ["book", "argument", "owner"]
theorem sc_check_argument : FnScope N_check_argument ["book", "argument", "owner"] (defScope s_check_argument) := ⟨rfl, rfl, rfl, by decide +kernel, rfl, by decide +kernel, by decide +kernel⟩
abbrev s_check_at : Stmt := (top 35)
abbrev N_check_at : List Str := ["book", "action", "depth", "guard", "step", "argument", "further", "inner"]
theorem sc_check_at : FnScope N_check_at ["book", "action", "depth"] (defScope s_check_at) := ⟨rfl, rfl, rfl, by decide +kernel, rfl, by decide +kernel, by decide +kernel⟩
abbrev s_check_action : Stmt := (top 36)
abbrev N_check_action : List Str := ["book", "action"]
theorem sc_check_action : FnScope N_check_action ["book", "action"] (defScope s_check_action) := ⟨rfl, rfl, rfl, by decide +kernel, rfl, by decide +kernel, by decide +kernel⟩
abbrev s_halves : Stmt := (top 37)
abbrev N_halves : List Str := ["action", "guard", "step", "argument", "further"]
theorem sc_halves : FnScope N_halves ["action"] (defScope s_halves) := ⟨rfl, rfl, rfl, by decide +kernel, rfl, by decide +kernel, by decide +kernel⟩
abbrev s_value_of : Stmt := (top 38)
abbrev N_value_of : List Str := ["argument", "book", "store"]
theorem sc_value_of : FnScope N_value_of ["argument", "book", "store"] (defScope s_value_of) := ⟨rfl, rfl, rfl, by decide +kernel, rfl, by decide +kernel, by decide +kernel⟩
abbrev s_settled : Stmt := (top 39)
abbrev N_settled : List Str := ["action", "book", "store", "guard", "step", "argument", "further"]
theorem sc_settled : FnScope N_settled ["action", "book", "store"] (defScope s_settled) := ⟨rfl, rfl, rfl, by decide +kernel, rfl, by decide +kernel, by decide +kernel⟩
abbrev s_state : Stmt := (top 43)
abbrev N_state : List Str := ["pending"]
theorem sc_state : FnScope N_state ["pending"] (defScope s_state) := ⟨rfl, rfl, rfl, by decide +kernel, rfl, by decide +kernel, by decide +kernel⟩
abbrev s_after : Stmt := (top 44)
abbrev N_after : List Str := ["pending", "step", "kind", "guard", "answer"]
theorem sc_after : FnScope N_after ["pending", "step", "kind", "guard", "answer"] (defScope s_after) := ⟨rfl, rfl, rfl, by decide +kernel, rfl, by decide +kernel, by decide +kernel⟩
abbrev s_way_out : Stmt := (top 46)
abbrev N_way_out : List Str := ["stack", "pending", "store", "book", "answers", "pile", "rows", "used", "guard", "step", "argument", "further", "answer", "inner"]
theorem sc_way_out : FnScope N_way_out ["stack", "pending", "store", "book", "answers"] (defScope s_way_out) := ⟨rfl, rfl, rfl, by decide +kernel, rfl, by decide +kernel, by decide +kernel⟩
abbrev s__law_pool : Stmt := (top 54)
abbrev N__law_pool : List Str := ["script"]
theorem sc__law_pool : FnScope N__law_pool ["script"] (defScope s__law_pool) := ⟨rfl, rfl, rfl, by decide +kernel, rfl, by decide +kernel, by decide +kernel⟩
abbrev s__law_mixed : Stmt := (top 55)
abbrev N__law_mixed : List Str := ["cell", "turn", "limit", "first", "second", "third"]
theorem sc__law_mixed : FnScope N__law_mixed ["cell", "turn", "limit"] (defScope s__law_mixed) := ⟨rfl, rfl, rfl, by decide +kernel, rfl, by decide +kernel, by decide +kernel⟩
abbrev s__law_draw : Stmt := (top 56)
abbrev N__law_draw : List Str := ["pool", "limit", "digit", "cell"]
theorem sc__law_draw : FnScope N__law_draw ["pool", "limit"] (defScope s__law_draw) := ⟨rfl, rfl, rfl, by decide +kernel, rfl, by decide +kernel, by decide +kernel⟩
abbrev s__law_letters : Stmt := (top 57)
abbrev N__law_letters : List Str := []
theorem sc__law_letters : FnScope N__law_letters [] (defScope s__law_letters) := ⟨rfl, rfl, rfl, by decide +kernel, rfl, by decide +kernel, by decide +kernel⟩
abbrev s__law_name : Stmt := (top 58)
abbrev N__law_name : List Str := ["pool", "signs", "name", "more", "k"]
theorem sc__law_name : FnScope N__law_name ["pool"] (defScope s__law_name) := ⟨rfl, rfl, rfl, by decide +kernel, rfl, by decide +kernel, by decide +kernel⟩
abbrev s__law_fresh : Stmt := (top 59)
abbrev N__law_fresh : List Str := ["pool", "used", "name", "sign"]
theorem sc__law_fresh : FnScope N__law_fresh ["pool", "used"] (defScope s__law_fresh) := ⟨rfl, rfl, rfl, by decide +kernel, rfl, by decide +kernel, by decide +kernel⟩
abbrev s__law_number : Stmt := (top 60)
abbrev N__law_number : List Str := ["pool"]
theorem sc__law_number : FnScope N__law_number ["pool"] (defScope s__law_number) := ⟨rfl, rfl, rfl, by decide +kernel, rfl, by decide +kernel, by decide +kernel⟩
abbrev s__law_kind : Stmt := (top 61)
abbrev N__law_kind : List Str := ["pool", "choice"]
theorem sc__law_kind : FnScope N__law_kind ["pool"] (defScope s__law_kind) := ⟨rfl, rfl, rfl, by decide +kernel, rfl, by decide +kernel, by decide +kernel⟩
abbrev s__law_lore : Stmt := (top 62)
abbrev N__law_lore : List Str := ["pool", "steps", "cells", "names", "kinds", "k", "name", "pairs", "pair"]
theorem sc__law_lore : FnScope N__law_lore ["pool", "steps", "cells"] (defScope s__law_lore) := ⟨rfl, rfl, rfl, by decide +kernel, rfl, by decide +kernel, by decide +kernel⟩
abbrev s__law_book : Stmt := (top 63)
abbrev N__law_book : List Str := ["lore", "book", "name", "pair"]
theorem sc__law_book : FnScope N__law_book ["lore"] (defScope s__law_book) := ⟨rfl, rfl, rfl, by decide +kernel, rfl, by decide +kernel, by decide +kernel⟩
abbrev s__law_argument : Stmt := (top 64)
abbrev N__law_argument : List Str := ["pool", "lore", "late", "choice", "cell"]
theorem sc__law_argument : FnScope N__law_argument ["pool", "lore", "late"] (defScope s__law_argument) := ⟨rfl, rfl, rfl, by decide +kernel, rfl, by decide +kernel, by decide +kernel⟩
abbrev s__law_action : Stmt := (top 65)
abbrev N__law_action : List Str := ["pool", "lore", "depth", "guard", "step", "argument", "further", "k"]
theorem sc__law_action : FnScope N__law_action ["pool", "lore", "depth"] (defScope s__law_action) := ⟨rfl, rfl, rfl, by decide +kernel, rfl, by decide +kernel, by decide +kernel⟩
abbrev s__law_answers : Stmt := (top 66)
abbrev N__law_answers : List Str := ["pool", "longest", "k"]
theorem sc__law_answers : FnScope N__law_answers ["pool", "longest"] (defScope s__law_answers) := ⟨rfl, rfl, rfl, by decide +kernel, rfl, by decide +kernel, by decide +kernel⟩
abbrev s__law_halves : Stmt := (top 67)
abbrev N__law_halves : List Str := ["action"]
theorem sc__law_halves : FnScope N__law_halves ["action"] (defScope s__law_halves) := ⟨rfl, rfl, rfl, by decide +kernel, rfl, by decide +kernel, by decide +kernel⟩
abbrev s__law_settled : Stmt := (top 68)
abbrev N__law_settled : List Str := ["action", "cells", "held", "guard", "step", "argument", "further", "k"]
theorem sc__law_settled : FnScope N__law_settled ["action", "cells", "held"] (defScope s__law_settled) := ⟨rfl, rfl, rfl, by decide +kernel, rfl, by decide +kernel, by decide +kernel⟩
abbrev s__law_state : Stmt := (top 69)
abbrev N__law_state : List Str := ["pending"]
theorem sc__law_state : FnScope N__law_state ["pending"] (defScope s__law_state) := ⟨rfl, rfl, rfl, by decide +kernel, rfl, by decide +kernel, by decide +kernel⟩
abbrev s__law_after : Stmt := (top 70)
abbrev N__law_after : List Str := ["pending", "step", "kind", "guard", "answer"]
theorem sc__law_after : FnScope N__law_after ["pending", "step", "kind", "guard", "answer"] (defScope s__law_after) := ⟨rfl, rfl, rfl, by decide +kernel, rfl, by decide +kernel, by decide +kernel⟩
abbrev s__law_way : Stmt := (top 71)
abbrev N__law_way : List Str := ["lore", "stack", "pending", "held", "answers", "half", "pile", "rows", "value", "answer", "inner", "k"]
theorem sc__law_way : FnScope N__law_way ["lore", "stack", "pending", "held", "answers"] (defScope s__law_way) := ⟨rfl, rfl, rfl, by decide +kernel, rfl, by decide +kernel, by decide +kernel⟩
abbrev s__law_same : Stmt := (top 72)
abbrev N__law_same : List Str := ["actual", "expected", "k"]
theorem sc__law_same : FnScope N__law_same ["actual", "expected"] (defScope s__law_same) := ⟨rfl, rfl, rfl, by decide +kernel, rfl, by decide +kernel, by decide +kernel⟩
abbrev s__law_exit : Stmt := (top 73)
abbrev N__law_exit : List Str := ["pool", "lore", "choice"]
theorem sc__law_exit : FnScope N__law_exit ["pool", "lore"] (defScope s__law_exit) := ⟨rfl, rfl, rfl, by decide +kernel, rfl, by decide +kernel, by decide +kernel⟩
abbrev s__law_put : Stmt := (top 74)
abbrev N__law_put : List Str := ["pile", "actions", "held", "action"]
theorem sc__law_put : FnScope N__law_put ["pile", "actions", "held"] (defScope s__law_put) := ⟨rfl, rfl, rfl, by decide +kernel, rfl, by decide +kernel, by decide +kernel⟩
abbrev s__law_unwound : Stmt := (top 75)
abbrev N__law_unwound : List Str := ["pile", "pending", "held", "answers", "world", "rows", "shown", "rest", "e"]
theorem sc__law_unwound : FnScope N__law_unwound ["pile", "pending", "held", "answers"] (defScope s__law_unwound) := ⟨rfl, rfl, rfl, by decide +kernel, rfl, by decide +kernel, by decide +kernel⟩
abbrev s__law_part : Stmt := (top 76)
abbrev N__law_part : List Str := ["lore", "pile", "part", "leaving", "answers", "due", "wanted"]
theorem sc__law_part : FnScope N__law_part ["lore", "pile", "part", "leaving", "answers"] (defScope s__law_part) := ⟨rfl, rfl, rfl, by decide +kernel, rfl, by decide +kernel, by decide +kernel⟩
abbrev s__law_goes : Stmt := (top 77)
abbrev N__law_goes : List Str := ["lore", "parts", "stack", "leaving", "answers", "pending", "held", "rows", "top", "pile", "many", "due", "whole"]
theorem sc__law_goes : FnScope N__law_goes ["lore", "parts", "stack", "leaving", "answers"] (defScope s__law_goes) := ⟨rfl, rfl, rfl, by decide +kernel, rfl, by decide +kernel, by decide +kernel⟩
abbrev s__law_leaving : Stmt := (top 78)
abbrev N__law_leaving : List Str := ["pool", "lore", "pair"]
theorem sc__law_leaving : FnScope N__law_leaving ["pool", "lore"] (defScope s__law_leaving) := ⟨rfl, rfl, rfl, by decide +kernel, rfl, by decide +kernel, by decide +kernel⟩
abbrev s__law_apart : Stmt := (top 79)
abbrev N__law_apart : List Str := ["pool", "lore", "pile", "stack", "at", "upper"]
theorem sc__law_apart : FnScope N__law_apart ["pool", "lore", "pile", "stack"] (defScope s__law_apart) := ⟨rfl, rfl, rfl, by decide +kernel, rfl, by decide +kernel, by decide +kernel⟩
abbrev s_law : Stmt := (top 80)
abbrev N_law : List Str := ["script", "pool", "lore", "held", "k", "actions", "stack", "action", "piles", "pile", "limit", "parts", "pieces", "at", "leaving", "answers", "shapes", "whole", "row", "piece", "pair"]
theorem sc_law : FnScope N_law ["script"] (defScope s_law) := ⟨rfl, rfl, rfl, by decide +kernel, rfl, by decide +kernel, by decide +kernel⟩
abbrev s_Book___init__ : Stmt := (inClass (top 26) 2)
abbrev N_Book___init__ : List Str := ["self", "kinds", "sizes"]
theorem sc_Book___init__ : FnScope N_Book___init__ ["self", "kinds", "sizes"] (defScope s_Book___init__) := ⟨rfl, rfl, rfl, by decide +kernel, rfl, by decide +kernel, by decide +kernel⟩
abbrev s_Book___getitem__ : Stmt := (inClass (top 26) 4)
abbrev N_Book___getitem__ : List Str := ["self", "name"]
theorem sc_Book___getitem__ : FnScope N_Book___getitem__ ["self", "name"] (defScope s_Book___getitem__) := ⟨rfl, rfl, rfl, by decide +kernel, rfl, by decide +kernel, by decide +kernel⟩
abbrev s_Book___setitem__ : Stmt := (inClass (top 26) 5)
abbrev N_Book___setitem__ : List Str := ["self", "name", "kind"]
theorem sc_Book___setitem__ : FnScope N_Book___setitem__ ["self", "name", "kind"] (defScope s_Book___setitem__) := ⟨rfl, rfl, rfl, by decide +kernel, rfl, by decide +kernel, by decide +kernel⟩
abbrev s_Book___contains__ : Stmt := (inClass (top 26) 6)
abbrev N_Book___contains__ : List Str := ["self", "name"]
theorem sc_Book___contains__ : FnScope N_Book___contains__ ["self", "name"] (defScope s_Book___contains__) := ⟨rfl, rfl, rfl, by decide +kernel, rfl, by decide +kernel, by decide +kernel⟩
abbrev s_Book___eq__ : Stmt := (inClass (top 26) 9)
abbrev N_Book___eq__ : List Str := ["self", "other"]
theorem sc_Book___eq__ : FnScope N_Book___eq__ ["self", "other"] (defScope s_Book___eq__) := ⟨rfl, rfl, rfl, by decide +kernel, rfl, by decide +kernel, by decide +kernel⟩
abbrev s_Book_add_cell : Stmt := (inClass (top 26) 11)
abbrev N_Book_add_cell : List Str := ["self", "name", "size"]
theorem sc_Book_add_cell : FnScope N_Book_add_cell ["self", "name", "size"] (defScope s_Book_add_cell) := ⟨rfl, rfl, rfl, by decide +kernel, rfl, by decide +kernel, by decide +kernel⟩
abbrev s_World___init__ : Stmt := (inClass (top 48) 0)
abbrev N_World___init__ : List Str := ["self", "answers", "index", "answer"]
theorem sc_World___init__ : FnScope N_World___init__ ["self", "answers"] (defScope s_World___init__) := ⟨rfl, rfl, rfl, by decide +kernel, rfl, by decide +kernel, by decide +kernel⟩
abbrev s_Pile___init__ : Stmt := (inClass (top 52) 0)
abbrev N_Pile___init__ : List Str := ["self", "book"]
theorem sc_Pile___init__ : FnScope N_Pile___init__ ["self", "book"] (defScope s_Pile___init__) := ⟨rfl, rfl, rfl, by decide +kernel, rfl, by decide +kernel, by decide +kernel⟩
abbrev s_Pile___len__ : Stmt := (inClass (top 52) 1)
abbrev N_Pile___len__ : List Str := ["self"]
theorem sc_Pile___len__ : FnScope N_Pile___len__ ["self"] (defScope s_Pile___len__) := ⟨rfl, rfl, rfl, by decide +kernel, rfl, by decide +kernel, by decide +kernel⟩
abbrev s_Pile___iter__ : Stmt := (inClass (top 52) 2)
abbrev N_Pile___iter__ : List Str := ["self"]
theorem sc_Pile___iter__ : FnScope N_Pile___iter__ ["self"] (defScope s_Pile___iter__) := ⟨rfl, rfl, rfl, by decide +kernel, rfl, by decide +kernel, by decide +kernel⟩
abbrev s_Pile_change_limit : Stmt := (inClass (top 52) 5)
abbrev N_Pile_change_limit : List Str := ["self", "value"]
theorem sc_Pile_change_limit : FnScope N_Pile_change_limit ["self", "value"] (defScope s_Pile_change_limit) := ⟨rfl, rfl, rfl, by decide +kernel, rfl, by decide +kernel, by decide +kernel⟩
abbrev s_Pile_put : Stmt := (inClass (top 52) 6)
abbrev N_Pile_put : List Str := ["self", "store", "actions", "action", "found"]
theorem sc_Pile_put : FnScope N_Pile_put ["self", "store", "actions"] (defScope s_Pile_put) := ⟨rfl, rfl, rfl, by decide +kernel, rfl, by decide +kernel, by decide +kernel⟩
abbrev s_Pile_cut : Stmt := (inClass (top 52) 8)
abbrev N_Pile_cut : List Str := ["self", "at", "upper"]
theorem sc_Pile_cut : FnScope N_Pile_cut ["self", "at"] (defScope s_Pile_cut) := ⟨rfl, rfl, rfl, by decide +kernel, rfl, by decide +kernel, by decide +kernel⟩
abbrev s_Pile_lay : Stmt := (inClass (top 52) 9)
abbrev N_Pile_lay : List Str := ["self", "other"]
theorem sc_Pile_lay : FnScope N_Pile_lay ["self", "other"] (defScope s_Pile_lay) := ⟨rfl, rfl, rfl, by decide +kernel, rfl, by decide +kernel, by decide +kernel⟩
abbrev s_Pile_unwind : Stmt := (inClass (top 52) 10)
abbrev N_Pile_unwind : List Str := ["self", "pending", "store", "world", "rows", "shown", "used"]
theorem sc_Pile_unwind : FnScope N_Pile_unwind ["self", "pending", "store", "world"] (defScope s_Pile_unwind) := ⟨rfl, rfl, rfl, by decide +kernel, rfl, by decide +kernel, by decide +kernel⟩
abbrev s_NoAnswer___init__ : Stmt := (inClass (top 13) 0)
abbrev N_NoAnswer___init__ : List Str := ["self", "rows"]
theorem sc_NoAnswer___init__ : FnScope N_NoAnswer___init__ ["self", "rows"] (defScope s_NoAnswer___init__) := ⟨rfl, rfl, rfl, by decide +kernel, rfl, by decide +kernel, by decide +kernel⟩
abbrev s_Book_cells : Stmt := (inClass (top 26) 12)
abbrev N_Book_cells : List Str := ["self", "name"]
theorem sc_Book_cells : FnScope N_Book_cells ["self"] (defScope s_Book_cells) := ⟨rfl, rfl, rfl, by decide +kernel, rfl, by decide +kernel, by decide +kernel⟩
abbrev s_Pile_limit : Stmt := (inClass (top 52) 3)
abbrev N_Pile_limit : List Str := ["self"]
theorem sc_Pile_limit : FnScope N_Pile_limit ["self"] (defScope s_Pile_limit) := ⟨rfl, rfl, rfl, by decide +kernel, rfl, by decide +kernel, by decide +kernel⟩
abbrev s_Pile_limit_setter : Stmt := (inClass (top 52) 4)
abbrev N_Pile_limit_setter : List Str := ["self", "value"]
theorem sc_Pile_limit_setter : FnScope N_Pile_limit_setter ["self", "value"] (defScope s_Pile_limit_setter) := ⟨rfl, rfl, rfl, by decide +kernel, rfl, by decide +kernel, by decide +kernel⟩
structure Txt (K : PySem.W.Frag) (mg : Str → Option Value) : Prop where
  g_is_name : mg "is_name" = some (.ref (He.ga K "is_name"))
  g_check_name : mg "check_name" = some (.ref (He.ga K "check_name"))
  g_check_number : mg "check_number" = some (.ref (He.ga K "check_number"))
  g_check_kind : mg "check_kind" = some (.ref (He.ga K "check_kind"))
  g_copied : mg "copied" = some (.ref (He.ga K "copied"))
  g_cell_names : mg "cell_names" = some (.ref (He.ga K "cell_names"))
  g_check_argument : mg "check_argument" = some (.ref (He.ga K "check_argument"))
  g_check_at : mg "check_at" = some (.ref (He.ga K "check_at"))
  g_check_action : mg "check_action" = some (.ref (He.ga K "check_action"))
  g_halves : mg "halves" = some (.ref (He.ga K "halves"))
  g_value_of : mg "value_of" = some (.ref (He.ga K "value_of"))
  g_settled : mg "settled" = some (.ref (He.ga K "settled"))
  g_state : mg "state" = some (.ref (He.ga K "state"))
  g_after : mg "after" = some (.ref (He.ga K "after"))
  g_way_out : mg "way_out" = some (.ref (He.ga K "way_out"))
  g__law_pool : mg "_law_pool" = some (.ref (He.ga K "_law_pool"))
  g__law_mixed : mg "_law_mixed" = some (.ref (He.ga K "_law_mixed"))
  g__law_draw : mg "_law_draw" = some (.ref (He.ga K "_law_draw"))
  g__law_letters : mg "_law_letters" = some (.ref (He.ga K "_law_letters"))
  g__law_name : mg "_law_name" = some (.ref (He.ga K "_law_name"))
  g__law_fresh : mg "_law_fresh" = some (.ref (He.ga K "_law_fresh"))
  g__law_number : mg "_law_number" = some (.ref (He.ga K "_law_number"))
  g__law_kind : mg "_law_kind" = some (.ref (He.ga K "_law_kind"))
  g__law_lore : mg "_law_lore" = some (.ref (He.ga K "_law_lore"))
  g__law_book : mg "_law_book" = some (.ref (He.ga K "_law_book"))
  g__law_argument : mg "_law_argument" = some (.ref (He.ga K "_law_argument"))
  g__law_action : mg "_law_action" = some (.ref (He.ga K "_law_action"))
  g__law_answers : mg "_law_answers" = some (.ref (He.ga K "_law_answers"))
  g__law_halves : mg "_law_halves" = some (.ref (He.ga K "_law_halves"))
  g__law_settled : mg "_law_settled" = some (.ref (He.ga K "_law_settled"))
  g__law_state : mg "_law_state" = some (.ref (He.ga K "_law_state"))
  g__law_after : mg "_law_after" = some (.ref (He.ga K "_law_after"))
  g__law_way : mg "_law_way" = some (.ref (He.ga K "_law_way"))
  g__law_same : mg "_law_same" = some (.ref (He.ga K "_law_same"))
  g__law_exit : mg "_law_exit" = some (.ref (He.ga K "_law_exit"))
  g__law_put : mg "_law_put" = some (.ref (He.ga K "_law_put"))
  g__law_unwound : mg "_law_unwound" = some (.ref (He.ga K "_law_unwound"))
  g__law_part : mg "_law_part" = some (.ref (He.ga K "_law_part"))
  g__law_goes : mg "_law_goes" = some (.ref (He.ga K "_law_goes"))
  g__law_leaving : mg "_law_leaving" = some (.ref (He.ga K "_law_leaving"))
  g__law_apart : mg "_law_apart" = some (.ref (He.ga K "_law_apart"))
  g_law : mg "law" = some (.ref (He.ga K "law"))
  g_DeedError : mg "DeedError" = some (.ref (He.ga K "DeedError"))
  g_OtherBook : mg "OtherBook" = some (.ref (He.ga K "OtherBook"))
  g_BadName : mg "BadName" = some (.ref (He.ga K "BadName"))
  g_BadNumber : mg "BadNumber" = some (.ref (He.ga K "BadNumber"))
  g_BadKind : mg "BadKind" = some (.ref (He.ga K "BadKind"))
  g_BadAction : mg "BadAction" = some (.ref (He.ga K "BadAction"))
  g_BadWorld : mg "BadWorld" = some (.ref (He.ga K "BadWorld"))
  g_UnknownStep : mg "UnknownStep" = some (.ref (He.ga K "UnknownStep"))
  g_UnknownCell : mg "UnknownCell" = some (.ref (He.ga K "UnknownCell"))
  g_TooLarge : mg "TooLarge" = some (.ref (He.ga K "TooLarge"))
  g_Clash : mg "Clash" = some (.ref (He.ga K "Clash"))
  g_NoAnswer : mg "NoAnswer" = some (.ref (He.ga K "NoAnswer"))
  g_Book : mg "Book" = some (.ref (He.ga K "Book"))
  g_World : mg "World" = some (.ref (He.ga K "World"))
  g_Pile : mg "Pile" = some (.ref (He.ga K "Pile"))
  n_len : mg "len" = none
  n_int : mg "int" = none
  n_str : mg "str" = none
  n_bool : mg "bool" = none
  n_list : mg "list" = none
  n_tuple : mg "tuple" = none
  n_dict : mg "dict" = none
  n_isinstance : mg "isinstance" = none
  n_range : mg "range" = none
  n_enumerate : mg "enumerate" = none
  n_sorted : mg "sorted" = none
  n_iter : mg "iter" = none
  v_LETTERS : ∃ u, mg "LETTERS" = some u ∧ RelV (.str "abcdefghijklmnopqrstuvwxyz") u
  v_DIGITS : ∃ u, mg "DIGITS" = some u ∧ RelV (.str "0123456789") u
  v_LONGEST : ∃ u, mg "LONGEST" = some u ∧ RelV (.int 12) u
  v_GREATEST : ∃ u, mg "GREATEST" = some u ∧ RelV (.int 999) u
  v_NUMBERED : ∃ u, mg "NUMBERED" = some u ∧ RelV (.ref (He.ga K "NUMBERED")) u
  q_NUMBERED : ∀ H, SqT K H (He.ga K "NUMBERED") [.str "answer", .str "heal"]
  v_NAMED : ∃ u, mg "NAMED" = some u ∧ RelV (.ref (He.ga K "NAMED")) u
  q_NAMED : ∀ H, SqT K H (He.ga K "NAMED") [.str "jump", .str "swap"]
  v_GUARDS : ∃ u, mg "GUARDS" = some u ∧ RelV (.ref (He.ga K "GUARDS")) u
  q_GUARDS : ∀ H, SqT K H (He.ga K "GUARDS") [.str "done", .str "error", .str "always"]
  v_READS : ∃ u, mg "READS" = some u ∧ RelV (.ref (He.ga K "READS")) u
  q_READS : ∀ H, SqT K H (He.ga K "READS") [.str "now", .str "late"]
  v_MANY : ∃ u, mg "MANY" = some u ∧ RelV (.int 3) u
  v_DEEP : ∃ u, mg "DEEP" = some u ∧ RelV (.int 2) u
  v_DONE : ∃ u, mg "DONE" = some u ∧ RelV (.str "done") u
  v_ERROR : ∃ u, mg "ERROR" = some u ∧ RelV (.str "error") u
  v_FIRST_LIMIT : ∃ u, mg "FIRST_LIMIT" = some u ∧ RelV (.int 100) u
  v_GREATEST_LIMIT : ∃ u, mg "GREATEST_LIMIT" = some u ∧ RelV (.int 999) u
  f_Book_cells : ∃ fd, FunD K "cells" "Book.cells" (defArgs s_Book_cells) (defBody s_Book_cells) (defScope s_Book_cells) [] [] (pgA K (He.ga K "Book") "cells" 0) fd
  f_Pile_limit : ∃ fd, FunD K "limit" "Pile.limit" (defArgs s_Pile_limit) (defBody s_Pile_limit) (defScope s_Pile_limit) [] [] (pgA K (He.ga K "Pile") "limit" 0) fd
  f_Pile_limit_setter : ∃ fd, FunD K "limit" "Pile.limit" (defArgs s_Pile_limit_setter) (defBody s_Pile_limit_setter) (defScope s_Pile_limit_setter) [] [] (pgA K (He.ga K "Pile") "limit" 1) fd
  f_is_name : ∃ fd, FunD K "is_name" "is_name" (defArgs s_is_name) (defBody s_is_name) (defScope s_is_name) [] [] (He.ga K "is_name") fd
  f_check_name : ∃ fd, FunD K "check_name" "check_name" (defArgs s_check_name) (defBody s_check_name) (defScope s_check_name) [] [] (He.ga K "check_name") fd
  f_check_number : ∃ fd, FunD K "check_number" "check_number" (defArgs s_check_number) (defBody s_check_number) (defScope s_check_number) [] [] (He.ga K "check_number") fd
  f_check_kind : ∃ fd, FunD K "check_kind" "check_kind" (defArgs s_check_kind) (defBody s_check_kind) (defScope s_check_kind) [] [] (He.ga K "check_kind") fd
  f_copied : ∃ fd, FunD K "copied" "copied" (defArgs s_copied) (defBody s_copied) (defScope s_copied) [] [] (He.ga K "copied") fd
  f_cell_names : ∃ fd, FunD K "cell_names" "cell_names" (defArgs s_cell_names) (defBody s_cell_names) (defScope s_cell_names) [] [] (He.ga K "cell_names") fd
  f_check_argument : ∃ fd, FunD K "check_argument" "check_argument" (defArgs s_check_argument) (defBody s_check_argument) (defScope s_check_argument) [] [] (He.ga K "check_argument") fd
  f_check_at : ∃ fd, FunD K "check_at" "check_at" (defArgs s_check_at) (defBody s_check_at) (defScope s_check_at) [] [] (He.ga K "check_at") fd
  f_check_action : ∃ fd, FunD K "check_action" "check_action" (defArgs s_check_action) (defBody s_check_action) (defScope s_check_action) [] [] (He.ga K "check_action") fd
  f_halves : ∃ fd, FunD K "halves" "halves" (defArgs s_halves) (defBody s_halves) (defScope s_halves) [] [] (He.ga K "halves") fd
  f_value_of : ∃ fd, FunD K "value_of" "value_of" (defArgs s_value_of) (defBody s_value_of) (defScope s_value_of) [] [] (He.ga K "value_of") fd
  f_settled : ∃ fd, FunD K "settled" "settled" (defArgs s_settled) (defBody s_settled) (defScope s_settled) [] [] (He.ga K "settled") fd
  f_state : ∃ fd, FunD K "state" "state" (defArgs s_state) (defBody s_state) (defScope s_state) [] [] (He.ga K "state") fd
  f_after : ∃ fd, FunD K "after" "after" (defArgs s_after) (defBody s_after) (defScope s_after) [] [] (He.ga K "after") fd
  f_way_out : ∃ fd, FunD K "way_out" "way_out" (defArgs s_way_out) (defBody s_way_out) (defScope s_way_out) [] [] (He.ga K "way_out") fd
  f__law_pool : ∃ fd, FunD K "_law_pool" "_law_pool" (defArgs s__law_pool) (defBody s__law_pool) (defScope s__law_pool) [] [] (He.ga K "_law_pool") fd
  f__law_mixed : ∃ fd, FunD K "_law_mixed" "_law_mixed" (defArgs s__law_mixed) (defBody s__law_mixed) (defScope s__law_mixed) [] [] (He.ga K "_law_mixed") fd
  f__law_draw : ∃ fd, FunD K "_law_draw" "_law_draw" (defArgs s__law_draw) (defBody s__law_draw) (defScope s__law_draw) [] [] (He.ga K "_law_draw") fd
  f__law_letters : ∃ fd, FunD K "_law_letters" "_law_letters" (defArgs s__law_letters) (defBody s__law_letters) (defScope s__law_letters) [] [] (He.ga K "_law_letters") fd
  f__law_name : ∃ fd, FunD K "_law_name" "_law_name" (defArgs s__law_name) (defBody s__law_name) (defScope s__law_name) [] [] (He.ga K "_law_name") fd
  f__law_fresh : ∃ fd, FunD K "_law_fresh" "_law_fresh" (defArgs s__law_fresh) (defBody s__law_fresh) (defScope s__law_fresh) [] [] (He.ga K "_law_fresh") fd
  f__law_number : ∃ fd, FunD K "_law_number" "_law_number" (defArgs s__law_number) (defBody s__law_number) (defScope s__law_number) [] [] (He.ga K "_law_number") fd
  f__law_kind : ∃ fd, FunD K "_law_kind" "_law_kind" (defArgs s__law_kind) (defBody s__law_kind) (defScope s__law_kind) [] [] (He.ga K "_law_kind") fd
  f__law_lore : ∃ fd, FunD K "_law_lore" "_law_lore" (defArgs s__law_lore) (defBody s__law_lore) (defScope s__law_lore) [] [] (He.ga K "_law_lore") fd
  f__law_book : ∃ fd, FunD K "_law_book" "_law_book" (defArgs s__law_book) (defBody s__law_book) (defScope s__law_book) [] [] (He.ga K "_law_book") fd
  f__law_argument : ∃ fd, FunD K "_law_argument" "_law_argument" (defArgs s__law_argument) (defBody s__law_argument) (defScope s__law_argument) [] [] (He.ga K "_law_argument") fd
  f__law_action : ∃ fd, FunD K "_law_action" "_law_action" (defArgs s__law_action) (defBody s__law_action) (defScope s__law_action) [] [] (He.ga K "_law_action") fd
  f__law_answers : ∃ fd, FunD K "_law_answers" "_law_answers" (defArgs s__law_answers) (defBody s__law_answers) (defScope s__law_answers) [] [] (He.ga K "_law_answers") fd
  f__law_halves : ∃ fd, FunD K "_law_halves" "_law_halves" (defArgs s__law_halves) (defBody s__law_halves) (defScope s__law_halves) [] [] (He.ga K "_law_halves") fd
  f__law_settled : ∃ fd, FunD K "_law_settled" "_law_settled" (defArgs s__law_settled) (defBody s__law_settled) (defScope s__law_settled) [] [] (He.ga K "_law_settled") fd
  f__law_state : ∃ fd, FunD K "_law_state" "_law_state" (defArgs s__law_state) (defBody s__law_state) (defScope s__law_state) [] [] (He.ga K "_law_state") fd
  f__law_after : ∃ fd, FunD K "_law_after" "_law_after" (defArgs s__law_after) (defBody s__law_after) (defScope s__law_after) [] [] (He.ga K "_law_after") fd
  f__law_way : ∃ fd, FunD K "_law_way" "_law_way" (defArgs s__law_way) (defBody s__law_way) (defScope s__law_way) [] [] (He.ga K "_law_way") fd
  f__law_same : ∃ fd, FunD K "_law_same" "_law_same" (defArgs s__law_same) (defBody s__law_same) (defScope s__law_same) [] [] (He.ga K "_law_same") fd
  f__law_exit : ∃ fd, FunD K "_law_exit" "_law_exit" (defArgs s__law_exit) (defBody s__law_exit) (defScope s__law_exit) [] [] (He.ga K "_law_exit") fd
  f__law_put : ∃ fd, FunD K "_law_put" "_law_put" (defArgs s__law_put) (defBody s__law_put) (defScope s__law_put) [] [] (He.ga K "_law_put") fd
  f__law_unwound : ∃ fd, FunD K "_law_unwound" "_law_unwound" (defArgs s__law_unwound) (defBody s__law_unwound) (defScope s__law_unwound) [] [] (He.ga K "_law_unwound") fd
  f__law_part : ∃ fd, FunD K "_law_part" "_law_part" (defArgs s__law_part) (defBody s__law_part) (defScope s__law_part) [] [] (He.ga K "_law_part") fd
  f__law_goes : ∃ fd, FunD K "_law_goes" "_law_goes" (defArgs s__law_goes) (defBody s__law_goes) (defScope s__law_goes) [] [] (He.ga K "_law_goes") fd
  f__law_leaving : ∃ fd, FunD K "_law_leaving" "_law_leaving" (defArgs s__law_leaving) (defBody s__law_leaving) (defScope s__law_leaving) [] [] (He.ga K "_law_leaving") fd
  f__law_apart : ∃ fd, FunD K "_law_apart" "_law_apart" (defArgs s__law_apart) (defBody s__law_apart) (defScope s__law_apart) [] [] (He.ga K "_law_apart") fd
  f_law : ∃ fd, FunD K "law" "law" (defArgs s_law) (defBody s_law) (defScope s_law) [] [] (He.ga K "law") fd
  f_Book___init__ : ∃ fd, FunD K "__init__" "Book.__init__" (defArgs s_Book___init__) (defBody s_Book___init__) (defScope s_Book___init__) [.ref (He.dflAt ("Book", some "__init__") 0 K), .ref (He.dflAt ("Book", some "__init__") 1 K)] [] (He.ma K (He.ga K "Book") "__init__") fd
  f_Book___getitem__ : ∃ fd, FunD K "__getitem__" "Book.__getitem__" (defArgs s_Book___getitem__) (defBody s_Book___getitem__) (defScope s_Book___getitem__) [] [] (He.ma K (He.ga K "Book") "__getitem__") fd
  f_Book___setitem__ : ∃ fd, FunD K "__setitem__" "Book.__setitem__" (defArgs s_Book___setitem__) (defBody s_Book___setitem__) (defScope s_Book___setitem__) [] [] (He.ma K (He.ga K "Book") "__setitem__") fd
  f_Book___contains__ : ∃ fd, FunD K "__contains__" "Book.__contains__" (defArgs s_Book___contains__) (defBody s_Book___contains__) (defScope s_Book___contains__) [] [] (He.ma K (He.ga K "Book") "__contains__") fd
  f_Book___eq__ : ∃ fd, FunD K "__eq__" "Book.__eq__" (defArgs s_Book___eq__) (defBody s_Book___eq__) (defScope s_Book___eq__) [] [] (He.ma K (He.ga K "Book") "__eq__") fd
  f_Book_add_cell : ∃ fd, FunD K "add_cell" "Book.add_cell" (defArgs s_Book_add_cell) (defBody s_Book_add_cell) (defScope s_Book_add_cell) [] [] (He.ma K (He.ga K "Book") "add_cell") fd
  f_World___init__ : ∃ fd, FunD K "__init__" "World.__init__" (defArgs s_World___init__) (defBody s_World___init__) (defScope s_World___init__) [] [] (He.ma K (He.ga K "World") "__init__") fd
  f_Pile___init__ : ∃ fd, FunD K "__init__" "Pile.__init__" (defArgs s_Pile___init__) (defBody s_Pile___init__) (defScope s_Pile___init__) [] [] (He.ma K (He.ga K "Pile") "__init__") fd
  f_Pile___len__ : ∃ fd, FunD K "__len__" "Pile.__len__" (defArgs s_Pile___len__) (defBody s_Pile___len__) (defScope s_Pile___len__) [] [] (He.ma K (He.ga K "Pile") "__len__") fd
  f_Pile___iter__ : ∃ fd, FunD K "__iter__" "Pile.__iter__" (defArgs s_Pile___iter__) (defBody s_Pile___iter__) (defScope s_Pile___iter__) [] [] (He.ma K (He.ga K "Pile") "__iter__") fd
  f_Pile_change_limit : ∃ fd, FunD K "change_limit" "Pile.change_limit" (defArgs s_Pile_change_limit) (defBody s_Pile_change_limit) (defScope s_Pile_change_limit) [] [] (He.ma K (He.ga K "Pile") "change_limit") fd
  f_Pile_put : ∃ fd, FunD K "put" "Pile.put" (defArgs s_Pile_put) (defBody s_Pile_put) (defScope s_Pile_put) [] [] (He.ma K (He.ga K "Pile") "put") fd
  f_Pile_cut : ∃ fd, FunD K "cut" "Pile.cut" (defArgs s_Pile_cut) (defBody s_Pile_cut) (defScope s_Pile_cut) [] [] (He.ma K (He.ga K "Pile") "cut") fd
  f_Pile_lay : ∃ fd, FunD K "lay" "Pile.lay" (defArgs s_Pile_lay) (defBody s_Pile_lay) (defScope s_Pile_lay) [] [] (He.ma K (He.ga K "Pile") "lay") fd
  f_Pile_unwind : ∃ fd, FunD K "unwind" "Pile.unwind" (defArgs s_Pile_unwind) (defBody s_Pile_unwind) (defScope s_Pile_unwind) [] [] (He.ma K (He.ga K "Pile") "unwind") fd
  f_NoAnswer___init__ : ∃ fd, FunD K "__init__" "NoAnswer.__init__" (defArgs s_NoAnswer___init__) (defBody s_NoAnswer___init__) (defScope s_NoAnswer___init__) [] [] (He.ma K (He.ga K "NoAnswer") "__init__") fd
  c_Book : Cls K (He.ga K "Book")
  na_Book__kinds : NoAttr K (He.ga K "Book") "_kinds"
  na_Book__sizes : NoAttr K (He.ga K "Book") "_sizes"
  c_World : Cls K (He.ga K "World")
  na_World_answers : NoAttr K (He.ga K "World") "answers"
  na_World_place : NoAttr K (He.ga K "World") "place"
  c_Pile : Cls K (He.ga K "Pile")
  na_Pile__book : NoAttr K (He.ga K "Pile") "_book"
  na_Pile__halves : NoAttr K (He.ga K "Pile") "_halves"
  na_Pile__limit : NoAttr K (He.ga K "Pile") "_limit"
  m_Book_add_cell : Meth K (He.ga K "Book") "add_cell" (He.ma K (He.ga K "Book") "add_cell")
  m_Book___getitem__ : Meth K (He.ga K "Book") "__getitem__" (He.ma K (He.ga K "Book") "__getitem__")
  m_Book___setitem__ : Meth K (He.ga K "Book") "__setitem__" (He.ma K (He.ga K "Book") "__setitem__")
  m_Book___contains__ : Meth K (He.ga K "Book") "__contains__" (He.ma K (He.ga K "Book") "__contains__")
  m_Book___eq__ : Meth K (He.ga K "Book") "__eq__" (He.ma K (He.ga K "Book") "__eq__")
  m_Pile___len__ : Meth K (He.ga K "Pile") "__len__" (He.ma K (He.ga K "Pile") "__len__")
  m_Pile___iter__ : Meth K (He.ga K "Pile") "__iter__" (He.ma K (He.ga K "Pile") "__iter__")
  m_Pile_change_limit : Meth K (He.ga K "Pile") "change_limit" (He.ma K (He.ga K "Pile") "change_limit")
  m_Pile_put : Meth K (He.ga K "Pile") "put" (He.ma K (He.ga K "Pile") "put")
  m_Pile_cut : Meth K (He.ga K "Pile") "cut" (He.ma K (He.ga K "Pile") "cut")
  m_Pile_lay : Meth K (He.ga K "Pile") "lay" (He.ma K (He.ga K "Pile") "lay")
  m_Pile_unwind : Meth K (He.ga K "Pile") "unwind" (He.ma K (He.ga K "Pile") "unwind")
  m_NoAnswer___init__ : Meth K (He.ga K "NoAnswer") "__init__" (He.ma K (He.ga K "NoAnswer") "__init__")
  mk_World : Mk K (He.ga K "World") (He.ma K (He.ga K "World") "__init__")
  mk_Pile : Mk K (He.ga K "Pile") (He.ma K (He.ga K "Pile") "__init__")
  mk_Book : Mk K (He.ga K "Book") (He.ma K (He.ga K "Book") "__init__")
  e_Book0 : EmptyT K (He.dflAt ("Book", some "__init__") 0 K)
  e_Book1 : EmptyT K (He.dflAt ("Book", some "__init__") 1 K)
  ne_Book : NeC K (He.ga K "Book") (He.ma K (He.ga K "Book") "__eq__")
  ns_Book : PySem.W.noSeq K (He.ga K "Book") = true
  p_Book_cells : PropOf K (He.ga K "Book") "cells" (He.ma K (He.ga K "Book") "cells") (pgA K (He.ga K "Book") "cells" 0)
  p_Pile_limit : PropOf K (He.ga K "Pile") "limit" (He.ma K (He.ga K "Pile") "limit") (pgA K (He.ga K "Pile") "limit" 0)
  ps_Pile_limit : PropSet K (He.ga K "Pile") "limit" (He.ma K (He.ga K "Pile") "limit") (pgA K (He.ga K "Pile") "limit" 1)
  cv_Book_STEPS : CV K (He.ga K "Book") "STEPS" (.int 12)
  cv_Book_CELLS : CV K (He.ga K "Book") "CELLS" (.int 2)
  is_Book : IsC K (He.ga K "Book")
  is_World : IsC K (He.ga K "World")
  ox_NoAnswer : OexC K (He.ga K "NoAnswer")
  xf_NoAnswer : XfC K (He.ga K "NoAnswer")
  nr_NoAnswer : PySem.W.findIn K (.ref (He.ga K "NoAnswer")) "rows" = some none
  ex_NoAnswer : PySem.W.exmOne K (.ref (He.ga K "NoAnswer")) (.ref (He.ga K "NoAnswer")) = some true
  b_DeedError : BaseInit K (He.ga K "DeedError")
end U

set_option Elab.async false
set_option linter.all false
set_option maxRecDepth 100000
set_option maxHeartbeats 4000000
/-! a hook over a small part of the heap: the globals' dict, what it names, the classes' dicts, what these name, codes, defaults -/
namespace U
open PySem PySem.Spec PyProof.Rows L2
def refsN (o : Obj) : List Addr := match o.data with
  | .func fd => He.refV fd.code ++ (He.refV fd.defaults ++ He.refV fd.kwdefaults)
  | .cls cd => [cd.ns]
  | .fields vs => vs.toList.flatMap He.refV
  | .seq its _ => its.toList.flatMap He.refV
  | _ => []
def refsDict (o : Obj) : List Addr := match o.data with
  | .dict es _ => es.toList.flatMap fun e => He.refV e.val
  | _ => []
def stepN (g : Addr → Option Obj) (f : Obj → List Addr) (as : List Addr) : List Addr := as.flatMap fun a => match g a with
  | some o => f o
  | none => []
/-- addresses, forced one by one -/
def frAs {α : Type} : List Addr → List Addr → (List Addr → α) → α
  | [], acc, k => k acc
  | a :: r, acc, k => HandSHeadRun.frNat a fun a => frAs r (a :: acc) k
theorem frAs_eq {α : Type} (k : List Addr → α) : ∀ (l acc : List Addr), ∃ l', frAs l acc k = k l'
  | [], acc => ⟨acc, rfl⟩
  | a :: r, acc => by
    obtain ⟨l', e⟩ := frAs_eq k r (a :: acc)
    refine ⟨l', ?_⟩
    show HandSHeadRun.frNat a (fun a => frAs r (a :: acc) k) = _
    rw [HandSHeadRun.frNat_eq, e]
/-- the part, its spine and addresses forced -/
def frK {α : Type} (g : Addr → Option Obj) : List Addr → PySem.W.Frag → (PySem.W.Frag → α) → α
  | [], acc, k => k acc
  | a :: r, acc, k => match g a with
    | some o => frK g r ((a, o) :: acc) k
    | none => frK g r acc k
theorem frK_eq {α : Type} {g : Addr → Option Obj} {k : PySem.W.Frag → α} : ∀ (l : List Addr) (acc : PySem.W.Frag), (∀ a o, (a, o) ∈ acc → g a = some o) → ∃ K : PySem.W.Frag, frK g l acc k = k K ∧ ∀ a o, (a, o) ∈ K → g a = some o
  | [], acc, h => ⟨acc, rfl, h⟩
  | a :: r, acc, h => by
    cases e : g a with
    | none =>
      obtain ⟨K, e1, e2⟩ := frK_eq (g := g) (k := k) r acc h
      refine ⟨K, ?_, e2⟩
      show (match g a with | some o => frK g r ((a, o) :: acc) k | none => frK g r acc k) = _
      rw [e]
      exact e1
    | some o =>
      obtain ⟨K, e1, e2⟩ := frK_eq (g := g) (k := k) r ((a, o) :: acc) (fun b u hb => by
        rcases List.mem_cons.mp hb with q | q
        · injection q with q1 q2
          rw [q1, q2, e]
        · exact h b u q)
      refine ⟨K, ?_, e2⟩
      show (match g a with | some o => frK g r ((a, o) :: acc) k | none => frK g r acc k) = _
      rw [e]
      exact e1
theorem mem_of_lk {a : Addr} {o : Obj} : ∀ {l : List (Addr × Obj)}, l.lookup a = some o → (a, o) ∈ l
  | [], h => by cases h
  | (b, u) :: r, h => by
    have h2 : (match a == b with | true => some u | false => r.lookup a) = some o := h
    cases q : (a == b) with
    | true =>
      rw [q] at h2
      rw [beq_iff_eq.mp q, Option.some.inj h2]
      exact List.mem_cons_self
    | false =>
      rw [q] at h2
      exact List.mem_cons_of_mem _ (mem_of_lk h2)
/-- a def that stands at an address of its own: a property's -/
structure GetD where
  adr : PySem.W.Frag → Addr
  name : Str
  qual : Str
  params : Arguments
  body : List Stmt
  scope : Scope
def fnWA (K : PySem.W.Frag) (a : Addr) : He.FnW := match K.lookup a with
  | some ⟨_, _, .func fd, _⟩ => some (fd.name, fd.qualname, fd.params, fd.body, fd.scope, fd.globals, fd.closure, fd.builtins)
  | _ => none
def GetD.val (d : GetD) : He.FnW := some (d.name, d.qual, d.params, .stmts d.body, d.scope, mainGlobals, [], builtinsNs)
def GetD.ok (K : PySem.W.Frag) (d : GetD) : Bool := PySem.W.keepIn K (.ref (d.adr K)) && (match K.lookup (d.adr K) with
  | some ⟨_, _, .func fd, _⟩ => PySem.W.codeIn K fd.code d.qual && (He.dflB K fd.defaults [] && He.kwdB K fd.kwdefaults [])
  | _ => false)
theorem GetD.funD {K : PySem.W.Frag} {d : GetD} (e : fnWA K (d.adr K) = d.val) (c : d.ok K = true) : ∃ fd, FunD K d.name d.qual d.params d.body d.scope [] [] (d.adr K) fd := by
  obtain ⟨kp, c2⟩ := Bool.and_eq_true_iff.mp c
  unfold fnWA at e
  cases q : K.lookup (d.adr K) with
  | none =>
    rw [q] at c2
    cases c2
  | some o =>
    obtain ⟨oc, od, dt, osl⟩ := o
    rw [q] at c2 e
    cases dt with
    | func fd =>
      obtain ⟨n1, n2, n3, n4, n5, n6, n7, n8, n9, n10, n11, n12, n13, n14, n15⟩ := fd
      have e2 : (some (n1, n2, n3, n4, n5, n6, n7, n15) : He.FnW) = some (d.name, d.qual, d.params, .stmts d.body, d.scope, mainGlobals, [], builtinsNs) := e
      simp only [Option.some.injEq, Prod.mk.injEq] at e2
      obtain ⟨h1, h2, h3, h4, h5, h6, h7, h8⟩ := e2
      subst h1 h2 h3 h4 h5 h6 h7 h8
      have c3 : (PySem.W.codeIn K n13 d.qual && (He.dflB K n8 [] && He.kwdB K n9 [])) = true := c2
      obtain ⟨k1, k2⟩ := Bool.and_eq_true_iff.mp c3
      obtain ⟨k3, k4⟩ := Bool.and_eq_true_iff.mp k2
      exact ⟨_, ⟨oc, od, n8, n9, n10, n11, n12, n13, n14, osl, rfl, q, k1, He.dflB_ok k3, He.kwdB_ok k4⟩, kp⟩
    | _ => cases c2
abbrev AlY : Type := He.AlD × List He.FnW × Bool
def obsY (fa : List He.Fa) (fn : List He.DefD) (gt : List GetD) (ex : PySem.W.Frag → Bool) (K : PySem.W.Frag) : AlY := (He.obsD fa fn K, gt.map (fun d => fnWA K (d.adr K)), (gt.all fun d => d.ok K) && ex K)
/-- the levels -/
def asY {α : Type} (g : Addr → Option Obj) (k : List Addr → α) : α :=
  frAs (stepN g refsDict [mainGlobals]) [] fun l1 =>
  frAs (stepN g refsN l1) [] fun l2 =>
  frAs (stepN g refsDict l2) [] fun l3 =>
  frAs (stepN g refsN l3) [] fun l4 =>
  frAs (stepN g refsN l4) [] fun l5 => k (cStatics :: mainGlobals :: (l1 ++ (l2 ++ (l3 ++ (l4 ++ l5)))))
theorem asY_eq {α : Type} (g : Addr → Option Obj) (k : List Addr → α) : ∃ l, asY g k = k l := by
  unfold asY
  obtain ⟨l1, e1⟩ := frAs_eq (fun l1 => frAs (stepN g refsN l1) [] fun l2 => frAs (stepN g refsDict l2) [] fun l3 => frAs (stepN g refsN l3) [] fun l4 => frAs (stepN g refsN l4) [] fun l5 => k (cStatics :: mainGlobals :: (l1 ++ (l2 ++ (l3 ++ (l4 ++ l5)))))) (stepN g refsDict [mainGlobals]) []
  rw [e1]
  obtain ⟨l2, e2⟩ := frAs_eq (fun l2 => frAs (stepN g refsDict l2) [] fun l3 => frAs (stepN g refsN l3) [] fun l4 => frAs (stepN g refsN l4) [] fun l5 => k (cStatics :: mainGlobals :: (l1 ++ (l2 ++ (l3 ++ (l4 ++ l5)))))) (stepN g refsN l1) []
  rw [e2]
  obtain ⟨l3, e3⟩ := frAs_eq (fun l3 => frAs (stepN g refsN l3) [] fun l4 => frAs (stepN g refsN l4) [] fun l5 => k (cStatics :: mainGlobals :: (l1 ++ (l2 ++ (l3 ++ (l4 ++ l5)))))) (stepN g refsDict l2) []
  rw [e3]
  obtain ⟨l4, e4⟩ := frAs_eq (fun l4 => frAs (stepN g refsN l4) [] fun l5 => k (cStatics :: mainGlobals :: (l1 ++ (l2 ++ (l3 ++ (l4 ++ l5)))))) (stepN g refsN l3) []
  rw [e4]
  obtain ⟨l5, e5⟩ := frAs_eq (fun l5 => k (cStatics :: mainGlobals :: (l1 ++ (l2 ++ (l3 ++ (l4 ++ l5)))))) (stepN g refsN l4) []
  rw [e5]
  exact ⟨_, rfl⟩
def obsYG (fa : List He.Fa) (fn : List He.DefD) (gt : List GetD) (ex : PySem.W.Frag → Bool) (g : Addr → Option Obj) : AlY := asY g fun l => frK g l [] (obsY fa fn gt ex)
theorem obsYG_eq (fa : List He.Fa) (fn : List He.DefD) (gt : List GetD) (ex : PySem.W.Frag → Bool) (h : Heap) : ∃ K : PySem.W.Frag, obsYG fa fn gt ex h.get? = obsY fa fn gt ex K ∧ K.In h := by
  unfold obsYG
  obtain ⟨l, e⟩ := asY_eq h.get? (fun l => frK h.get? l [] (obsY fa fn gt ex))
  rw [e]
  obtain ⟨K, e1, e2⟩ := frK_eq (k := obsY fa fn gt ex) l [] (fun _ _ z => nomatch z) (g := h.get?)
  exact ⟨K, e1, fun a o q => e2 a o (mem_of_lk q)⟩
structure SaysY (fa : List He.Fa) (fn : List He.DefD) (gt : List GetD) (ex : PySem.W.Frag → Bool) (K : PySem.W.Frag) : Prop where
  d : He.SaysD fa fn K
  gv : gt.map (fun d => fnWA K (d.adr K)) = gt.map GetD.val
  gk : (gt.all fun d => d.ok K) = true
  more : ex K = true
theorem SaysY.get {fa : List He.Fa} {fn : List He.DefD} {gt : List GetD} {ex : PySem.W.Frag → Bool} {K : PySem.W.Frag} (c : SaysY fa fn gt ex K) (i : Nat) {d : GetD} (h : gt[i]? = some d := by rfl) : ∃ fd, FunD K d.name d.qual d.params d.body d.scope [] [] (d.adr K) fd := by
  have e2 : (gt.map fun d => fnWA K (d.adr K))[i]? = (gt.map GetD.val)[i]? := by rw [c.gv]
  rw [List.getElem?_map, List.getElem?_map, h] at e2
  exact GetD.funD (Option.some.inj e2) (List.all_eq_true.mp c.gk d (List.mem_of_getElem? h))
def hookY (fa : List He.Fa) (fn : List He.DefD) (gt : List GetD) (ex : PySem.W.Frag → Bool) : PySem.W.Hook where
  α := AlY
  obs := fun s => obsYG fa fn gt ex s.heap.get?
  val := fun _ => (He.valD fn, gt.map GetD.val, true)
  says := fun _ h => ∃ K : PySem.W.Frag, K.In h ∧ SaysY fa fn gt ex K
  of := fun _ s e => by
    obtain ⟨K, e1, e2⟩ := obsYG_eq fa fn gt ex s.heap
    have e3 : obsY fa fn gt ex K = (He.valD fn, gt.map GetD.val, true) := e1.symm.trans e
    have e4 : ((gt.all fun d => d.ok K) && ex K) = true := congrArg (fun z : AlY => z.2.2) e3
    obtain ⟨e5, e6⟩ := Bool.and_eq_true_iff.mp e4
    exact ⟨K, e2, ⟨congrArg (fun z : AlY => z.1) e3, congrArg (fun z : AlY => z.2.1) e3, e5, e6⟩⟩
  keeps := fun _ _ _ ⟨K, hK, c⟩ k => ⟨K, PySem.W.Frag.In.keeps hK k, c⟩
theorem obsYG_at {fa : List He.Fa} {fn : List He.DefD} {gt : List GetD} {ex : PySem.W.Frag → Bool} {g : Addr → Option Obj} {s : Shared} (h : ∀ a, g a = s.heap.get? a) : obsYG fa fn gt ex g = (hookY fa fn gt ex).obs s := by
  have e : g = s.heap.get? := funext h
  rw [e] <;> rfl
end U

set_option Elab.async false
set_option linter.all false
set_option maxRecDepth 100000
set_option maxHeartbeats 0
namespace U
open PySem PySem.Spec PyProof.Rows L2
abbrev R : PySem.W.OpenRow := PySem.W.OpenLaw.row PySem.Challenge.rw_struckbodies_k78_whole_unwound_in_parts
def dd_is_name : He.DefD := ⟨("is_name", none), "is_name", "is_name", defArgs s_is_name, defBody s_is_name, defScope s_is_name, [], []⟩
def dd_check_name : He.DefD := ⟨("check_name", none), "check_name", "check_name", defArgs s_check_name, defBody s_check_name, defScope s_check_name, [], []⟩
def dd_check_number : He.DefD := ⟨("check_number", none), "check_number", "check_number", defArgs s_check_number, defBody s_check_number, defScope s_check_number, [], []⟩
def dd_check_kind : He.DefD := ⟨("check_kind", none), "check_kind", "check_kind", defArgs s_check_kind, defBody s_check_kind, defScope s_check_kind, [], []⟩
def dd_copied : He.DefD := ⟨("copied", none), "copied", "copied", defArgs s_copied, defBody s_copied, defScope s_copied, [], []⟩
def dd_cell_names : He.DefD := ⟨("cell_names", none), "cell_names", "cell_names", defArgs s_cell_names, defBody s_cell_names, defScope s_cell_names, [], []⟩
def dd_check_argument : He.DefD := ⟨("check_argument", none), "check_argument", "check_argument", defArgs s_check_argument, defBody s_check_argument, defScope s_check_argument, [], []⟩
def dd_check_at : He.DefD := ⟨("check_at", none), "check_at", "check_at", defArgs s_check_at, defBody s_check_at, defScope s_check_at, [], []⟩
def dd_check_action : He.DefD := ⟨("check_action", none), "check_action", "check_action", defArgs s_check_action, defBody s_check_action, defScope s_check_action, [], []⟩
def dd_halves : He.DefD := ⟨("halves", none), "halves", "halves", defArgs s_halves, defBody s_halves, defScope s_halves, [], []⟩
def dd_value_of : He.DefD := ⟨("value_of", none), "value_of", "value_of", defArgs s_value_of, defBody s_value_of, defScope s_value_of, [], []⟩
def dd_settled : He.DefD := ⟨("settled", none), "settled", "settled", defArgs s_settled, defBody s_settled, defScope s_settled, [], []⟩
def dd_state : He.DefD := ⟨("state", none), "state", "state", defArgs s_state, defBody s_state, defScope s_state, [], []⟩
def dd_after : He.DefD := ⟨("after", none), "after", "after", defArgs s_after, defBody s_after, defScope s_after, [], []⟩
def dd_way_out : He.DefD := ⟨("way_out", none), "way_out", "way_out", defArgs s_way_out, defBody s_way_out, defScope s_way_out, [], []⟩
def dd__law_pool : He.DefD := ⟨("_law_pool", none), "_law_pool", "_law_pool", defArgs s__law_pool, defBody s__law_pool, defScope s__law_pool, [], []⟩
def dd__law_mixed : He.DefD := ⟨("_law_mixed", none), "_law_mixed", "_law_mixed", defArgs s__law_mixed, defBody s__law_mixed, defScope s__law_mixed, [], []⟩
def dd__law_draw : He.DefD := ⟨("_law_draw", none), "_law_draw", "_law_draw", defArgs s__law_draw, defBody s__law_draw, defScope s__law_draw, [], []⟩
def dd__law_letters : He.DefD := ⟨("_law_letters", none), "_law_letters", "_law_letters", defArgs s__law_letters, defBody s__law_letters, defScope s__law_letters, [], []⟩
def dd__law_name : He.DefD := ⟨("_law_name", none), "_law_name", "_law_name", defArgs s__law_name, defBody s__law_name, defScope s__law_name, [], []⟩
def dd__law_fresh : He.DefD := ⟨("_law_fresh", none), "_law_fresh", "_law_fresh", defArgs s__law_fresh, defBody s__law_fresh, defScope s__law_fresh, [], []⟩
def dd__law_number : He.DefD := ⟨("_law_number", none), "_law_number", "_law_number", defArgs s__law_number, defBody s__law_number, defScope s__law_number, [], []⟩
def dd__law_kind : He.DefD := ⟨("_law_kind", none), "_law_kind", "_law_kind", defArgs s__law_kind, defBody s__law_kind, defScope s__law_kind, [], []⟩
def dd__law_lore : He.DefD := ⟨("_law_lore", none), "_law_lore", "_law_lore", defArgs s__law_lore, defBody s__law_lore, defScope s__law_lore, [], []⟩
def dd__law_book : He.DefD := ⟨("_law_book", none), "_law_book", "_law_book", defArgs s__law_book, defBody s__law_book, defScope s__law_book, [], []⟩
def dd__law_argument : He.DefD := ⟨("_law_argument", none), "_law_argument", "_law_argument", defArgs s__law_argument, defBody s__law_argument, defScope s__law_argument, [], []⟩
def dd__law_action : He.DefD := ⟨("_law_action", none), "_law_action", "_law_action", defArgs s__law_action, defBody s__law_action, defScope s__law_action, [], []⟩
def dd__law_answers : He.DefD := ⟨("_law_answers", none), "_law_answers", "_law_answers", defArgs s__law_answers, defBody s__law_answers, defScope s__law_answers, [], []⟩
def dd__law_halves : He.DefD := ⟨("_law_halves", none), "_law_halves", "_law_halves", defArgs s__law_halves, defBody s__law_halves, defScope s__law_halves, [], []⟩
def dd__law_settled : He.DefD := ⟨("_law_settled", none), "_law_settled", "_law_settled", defArgs s__law_settled, defBody s__law_settled, defScope s__law_settled, [], []⟩
def dd__law_state : He.DefD := ⟨("_law_state", none), "_law_state", "_law_state", defArgs s__law_state, defBody s__law_state, defScope s__law_state, [], []⟩
def dd__law_after : He.DefD := ⟨("_law_after", none), "_law_after", "_law_after", defArgs s__law_after, defBody s__law_after, defScope s__law_after, [], []⟩
def dd__law_way : He.DefD := ⟨("_law_way", none), "_law_way", "_law_way", defArgs s__law_way, defBody s__law_way, defScope s__law_way, [], []⟩
def dd__law_same : He.DefD := ⟨("_law_same", none), "_law_same", "_law_same", defArgs s__law_same, defBody s__law_same, defScope s__law_same, [], []⟩
def dd__law_exit : He.DefD := ⟨("_law_exit", none), "_law_exit", "_law_exit", defArgs s__law_exit, defBody s__law_exit, defScope s__law_exit, [], []⟩
def dd__law_put : He.DefD := ⟨("_law_put", none), "_law_put", "_law_put", defArgs s__law_put, defBody s__law_put, defScope s__law_put, [], []⟩
def dd__law_unwound : He.DefD := ⟨("_law_unwound", none), "_law_unwound", "_law_unwound", defArgs s__law_unwound, defBody s__law_unwound, defScope s__law_unwound, [], []⟩
def dd__law_part : He.DefD := ⟨("_law_part", none), "_law_part", "_law_part", defArgs s__law_part, defBody s__law_part, defScope s__law_part, [], []⟩
def dd__law_goes : He.DefD := ⟨("_law_goes", none), "_law_goes", "_law_goes", defArgs s__law_goes, defBody s__law_goes, defScope s__law_goes, [], []⟩
def dd__law_leaving : He.DefD := ⟨("_law_leaving", none), "_law_leaving", "_law_leaving", defArgs s__law_leaving, defBody s__law_leaving, defScope s__law_leaving, [], []⟩
def dd__law_apart : He.DefD := ⟨("_law_apart", none), "_law_apart", "_law_apart", defArgs s__law_apart, defBody s__law_apart, defScope s__law_apart, [], []⟩
def dd_law : He.DefD := ⟨("law", none), "law", "law", defArgs s_law, defBody s_law, defScope s_law, [], []⟩
def dd_Book___init__ : He.DefD := ⟨("Book", some "__init__"), "__init__", "Book.__init__", defArgs s_Book___init__, defBody s_Book___init__, defScope s_Book___init__, [.adr (He.dflAt ("Book", some "__init__") 0), .adr (He.dflAt ("Book", some "__init__") 1)], []⟩
def dd_Book___getitem__ : He.DefD := ⟨("Book", some "__getitem__"), "__getitem__", "Book.__getitem__", defArgs s_Book___getitem__, defBody s_Book___getitem__, defScope s_Book___getitem__, [], []⟩
def dd_Book___setitem__ : He.DefD := ⟨("Book", some "__setitem__"), "__setitem__", "Book.__setitem__", defArgs s_Book___setitem__, defBody s_Book___setitem__, defScope s_Book___setitem__, [], []⟩
def dd_Book___contains__ : He.DefD := ⟨("Book", some "__contains__"), "__contains__", "Book.__contains__", defArgs s_Book___contains__, defBody s_Book___contains__, defScope s_Book___contains__, [], []⟩
def dd_Book___eq__ : He.DefD := ⟨("Book", some "__eq__"), "__eq__", "Book.__eq__", defArgs s_Book___eq__, defBody s_Book___eq__, defScope s_Book___eq__, [], []⟩
def dd_Book_add_cell : He.DefD := ⟨("Book", some "add_cell"), "add_cell", "Book.add_cell", defArgs s_Book_add_cell, defBody s_Book_add_cell, defScope s_Book_add_cell, [], []⟩
def dd_World___init__ : He.DefD := ⟨("World", some "__init__"), "__init__", "World.__init__", defArgs s_World___init__, defBody s_World___init__, defScope s_World___init__, [], []⟩
def dd_Pile___init__ : He.DefD := ⟨("Pile", some "__init__"), "__init__", "Pile.__init__", defArgs s_Pile___init__, defBody s_Pile___init__, defScope s_Pile___init__, [], []⟩
def dd_Pile___len__ : He.DefD := ⟨("Pile", some "__len__"), "__len__", "Pile.__len__", defArgs s_Pile___len__, defBody s_Pile___len__, defScope s_Pile___len__, [], []⟩
def dd_Pile___iter__ : He.DefD := ⟨("Pile", some "__iter__"), "__iter__", "Pile.__iter__", defArgs s_Pile___iter__, defBody s_Pile___iter__, defScope s_Pile___iter__, [], []⟩
def dd_Pile_change_limit : He.DefD := ⟨("Pile", some "change_limit"), "change_limit", "Pile.change_limit", defArgs s_Pile_change_limit, defBody s_Pile_change_limit, defScope s_Pile_change_limit, [], []⟩
def dd_Pile_put : He.DefD := ⟨("Pile", some "put"), "put", "Pile.put", defArgs s_Pile_put, defBody s_Pile_put, defScope s_Pile_put, [], []⟩
def dd_Pile_cut : He.DefD := ⟨("Pile", some "cut"), "cut", "Pile.cut", defArgs s_Pile_cut, defBody s_Pile_cut, defScope s_Pile_cut, [], []⟩
def dd_Pile_lay : He.DefD := ⟨("Pile", some "lay"), "lay", "Pile.lay", defArgs s_Pile_lay, defBody s_Pile_lay, defScope s_Pile_lay, [], []⟩
def dd_Pile_unwind : He.DefD := ⟨("Pile", some "unwind"), "unwind", "Pile.unwind", defArgs s_Pile_unwind, defBody s_Pile_unwind, defScope s_Pile_unwind, [], []⟩
def dd_NoAnswer___init__ : He.DefD := ⟨("NoAnswer", some "__init__"), "__init__", "NoAnswer.__init__", defArgs s_NoAnswer___init__, defBody s_NoAnswer___init__, defScope s_NoAnswer___init__, [], []⟩
def fnL : List He.DefD := [dd_is_name, dd_check_name, dd_check_number, dd_check_kind, dd_copied, dd_cell_names, dd_check_argument, dd_check_at, dd_check_action, dd_halves, dd_value_of, dd_settled, dd_state, dd_after, dd_way_out, dd__law_pool, dd__law_mixed, dd__law_draw, dd__law_letters, dd__law_name, dd__law_fresh, dd__law_number, dd__law_kind, dd__law_lore, dd__law_book, dd__law_argument, dd__law_action, dd__law_answers, dd__law_halves, dd__law_settled, dd__law_state, dd__law_after, dd__law_way, dd__law_same, dd__law_exit, dd__law_put, dd__law_unwound, dd__law_part, dd__law_goes, dd__law_leaving, dd__law_apart, dd_law, dd_Book___init__, dd_Book___getitem__, dd_Book___setitem__, dd_Book___contains__, dd_Book___eq__, dd_Book_add_cell, dd_World___init__, dd_Pile___init__, dd_Pile___len__, dd_Pile___iter__, dd_Pile_change_limit, dd_Pile_put, dd_Pile_cut, dd_Pile_lay, dd_Pile_unwind, dd_NoAnswer___init__]
def gg_Book_cells : GetD := ⟨fun K => (pgA K (He.ga K "Book") "cells" 0), "cells", "Book.cells", defArgs s_Book_cells, defBody s_Book_cells, defScope s_Book_cells⟩
def gg_Pile_limit : GetD := ⟨fun K => (pgA K (He.ga K "Pile") "limit" 0), "limit", "Pile.limit", defArgs s_Pile_limit, defBody s_Pile_limit, defScope s_Pile_limit⟩
def gg_Pile_limit_setter : GetD := ⟨fun K => (pgA K (He.ga K "Pile") "limit" 1), "limit", "Pile.limit", defArgs s_Pile_limit_setter, defBody s_Pile_limit_setter, defScope s_Pile_limit_setter⟩
def gtL : List GetD := [gg_Book_cells, gg_Pile_limit, gg_Pile_limit_setter]
def fa0 : List He.Fa := [.glo "is_name", .glo "check_name", .glo "check_number", .glo "check_kind", .glo "copied", .glo "cell_names", .glo "check_argument", .glo "check_at", .glo "check_action", .glo "halves", .glo "value_of", .glo "settled", .glo "state", .glo "after", .glo "way_out", .glo "_law_pool", .glo "_law_mixed", .glo "_law_draw", .glo "_law_letters", .glo "_law_name", .glo "_law_fresh", .glo "_law_number", .glo "_law_kind", .glo "_law_lore", .glo "_law_book"]
def fa1 : List He.Fa := [.glo "_law_argument", .glo "_law_action", .glo "_law_answers", .glo "_law_halves", .glo "_law_settled", .glo "_law_state", .glo "_law_after", .glo "_law_way", .glo "_law_same", .glo "_law_exit", .glo "_law_put", .glo "_law_unwound", .glo "_law_part", .glo "_law_goes", .glo "_law_leaving", .glo "_law_apart", .glo "law", .glo "DeedError", .glo "OtherBook", .glo "BadName", .glo "BadNumber", .glo "BadKind", .glo "BadAction", .glo "BadWorld", .glo "UnknownStep"]
def fa2 : List He.Fa := [.glo "UnknownCell", .glo "TooLarge", .glo "Clash", .glo "NoAnswer", .glo "Book", .glo "World", .glo "Pile", .free "len", .free "int", .free "str", .free "bool", .free "list", .free "tuple", .free "dict", .free "isinstance", .free "range", .free "enumerate", .free "sorted", .free "iter", .str "LETTERS" "abcdefghijklmnopqrstuvwxyz", .str "DIGITS" "0123456789", .int "LONGEST" 12, .int "GREATEST" 999, .glo "NUMBERED", .glo "NAMED"]
def fa3 : List He.Fa := [.glo "GUARDS", .glo "READS", .int "MANY" 3, .int "DEEP" 2, .str "DONE" "done", .str "ERROR" "error", .int "FIRST_LIMIT" 100, .int "GREATEST_LIMIT" 999, .cls "Book", .noat "Book" "_kinds", .noat "Book" "_sizes", .cls "World", .noat "World" "answers", .noat "World" "place", .cls "Pile", .noat "Pile" "_book", .noat "Pile" "_halves", .noat "Pile" "_limit", .meth "Book" "add_cell", .meth "Book" "__getitem__", .meth "Book" "__setitem__", .meth "Book" "__contains__", .meth "Book" "__eq__", .meth "Pile" "__len__", .meth "Pile" "__iter__"]
def fa4 : List He.Fa := [.meth "Pile" "change_limit", .meth "Pile" "put", .meth "Pile" "cut", .meth "Pile" "lay", .meth "Pile" "unwind", .meth "NoAnswer" "__init__", .mkr "World", .mkr "Pile", .mkr "Book"]
def faL : List He.Fa := fa0 ++ fa1 ++ fa2 ++ fa3 ++ fa4
def ex0 (K : PySem.W.Frag) : Bool := He.tupB K "NUMBERED" [.str "answer", .str "heal"]
def ex1 (K : PySem.W.Frag) : Bool := He.tupB K "NAMED" [.str "jump", .str "swap"]
def ex2 (K : PySem.W.Frag) : Bool := He.tupB K "GUARDS" [.str "done", .str "error", .str "always"]
def ex3 (K : PySem.W.Frag) : Bool := He.tupB K "READS" [.str "now", .str "late"]
def ex4 (K : PySem.W.Frag) : Bool := emptyB K (He.dflAt ("Book", some "__init__") 0 K)
def ex5 (K : PySem.W.Frag) : Bool := emptyB K (He.dflAt ("Book", some "__init__") 1 K)
def ex6 (K : PySem.W.Frag) : Bool := neB K (He.ga K "Book")
def ex7 (K : PySem.W.Frag) : Bool := PySem.W.noSeq K (He.ga K "Book")
def ex8 (K : PySem.W.Frag) : Bool := propB K (He.ga K "Book") "cells"
def ex9 (K : PySem.W.Frag) : Bool := propB K (He.ga K "Pile") "limit"
def ex10 (K : PySem.W.Frag) : Bool := psetB K (He.ga K "Pile") "limit"
def ex11 (K : PySem.W.Frag) : Bool := cvalB K (He.ga K "Book") "STEPS" (.int 12)
def ex12 (K : PySem.W.Frag) : Bool := cvalB K (He.ga K "Book") "CELLS" (.int 2)
def ex13 (K : PySem.W.Frag) : Bool := iscB K (He.ga K "Book")
def ex14 (K : PySem.W.Frag) : Bool := iscB K (He.ga K "World")
def ex15 (K : PySem.W.Frag) : Bool := oexB K (He.ga K "NoAnswer")
def ex16 (K : PySem.W.Frag) : Bool := xfB K (He.ga K "NoAnswer")
def ex17 (K : PySem.W.Frag) : Bool := PySem.W.findIn K (.ref (He.ga K "NoAnswer")) "rows" == some none
def ex18 (K : PySem.W.Frag) : Bool := exmB K (He.ga K "NoAnswer") (He.ga K "NoAnswer")
def ex19 (K : PySem.W.Frag) : Bool := baseB K (He.ga K "DeedError")
def exL : List (PySem.W.Frag → Bool) := [ex0, ex1, ex2, ex3, ex4, ex5, ex6, ex7, ex8, ex9, ex10, ex11, ex12, ex13, ex14, ex15, ex16, ex17, ex18, ex19]
def exB (K : PySem.W.Frag) : Bool := exL.all fun b => b K
abbrev hk : PySem.W.Hook := hookY faL fnL gtL exB
def ob (s : PySem.W.SharedT) : AlY := obsYG faL fnL gtL exB (HandSHeadRun.getT s)
theorem ob_eq (s : PySem.W.SharedT) : ob s = hk.obs s.abs := obsYG_at (HandSHeadRun.getT_eq s)
def ln0 : List PySem.Str := ["_wall", "DeedError", "OtherBook", "BadName", "BadNumber", "BadKind", "BadAction", "BadWorld", "UnknownStep", "UnknownCell", "TooLarge", "Clash", "NoAnswer", "LETTERS", "DIGITS", "LONGEST", "GREATEST", "is_name", "check_name", "check_number", "NUMBERED", "NAMED", "check_kind", "Book", "copied", "cell_names", "GUARDS", "READS", "MANY", "DEEP"]
def ln1 : List PySem.Str := ["check_argument", "check_at", "check_action", "halves", "value_of", "settled", "DONE", "ERROR", "state", "after", "way_out", "World", "FIRST_LIMIT", "GREATEST_LIMIT", "Pile", "_law_pool", "_law_mixed", "_law_draw", "_law_letters", "_law_name", "_law_fresh", "_law_number", "_law_kind", "_law_lore", "_law_book", "_law_argument", "_law_action", "_law_answers", "_law_halves", "_law_settled"]
def ln2 : List PySem.Str := ["_law_state", "_law_after", "_law_way", "_law_same", "_law_exit", "_law_put", "_law_unwound", "_law_part", "_law_goes", "_law_leaving", "_law_apart"]
def loose : List PySem.Str := ln0 ++ ln1 ++ ln2
theorem run (w : World) : HandSHeadRun.RunEq R (PySem.W.view R.prog [80]) hk ob 60000 loose w := by
  intro os
  kernel_rfl
theorem ex_ok {K : PySem.W.Frag} (c : SaysY faL fnL gtL exB K) (i : Nat) {b : PySem.W.Frag → Bool} (e : exL[i]? = some b := by rfl) : b K = true := by
  have q : (exL.all fun b => b K) = true := c.more
  exact List.all_eq_true.mp q b (List.mem_of_getElem? e)
theorem gs_ok {v : Option Value} {z : Str} (h : ∃ t, v = some (.str z t)) : ∃ u, v = some u ∧ RelV (.str z) u := by
  obtain ⟨t, e⟩ := h
  exact ⟨_, e, t, rfl⟩
theorem gi_ok {v : Option Value} {z : Int} (h : ∃ t, v = some (.int z t)) : ∃ u, v = some u ∧ RelV (.int z) u := by
  obtain ⟨t, e⟩ := h
  exact ⟨_, e, t, rfl⟩
theorem txt_of {h : Heap} {K : PySem.W.Frag} {mg : Str → Option Value} (X : K.In h) (G : h.Ns mainGlobals mg) (c : SaysY faL fnL gtL exB K) : Txt K mg := {
  g_is_name := He.glo_ok X G (c.d.fact 0 (f := .glo "is_name") rfl),
  g_check_name := He.glo_ok X G (c.d.fact 1 (f := .glo "check_name") rfl),
  g_check_number := He.glo_ok X G (c.d.fact 2 (f := .glo "check_number") rfl),
  g_check_kind := He.glo_ok X G (c.d.fact 3 (f := .glo "check_kind") rfl),
  g_copied := He.glo_ok X G (c.d.fact 4 (f := .glo "copied") rfl),
  g_cell_names := He.glo_ok X G (c.d.fact 5 (f := .glo "cell_names") rfl),
  g_check_argument := He.glo_ok X G (c.d.fact 6 (f := .glo "check_argument") rfl),
  g_check_at := He.glo_ok X G (c.d.fact 7 (f := .glo "check_at") rfl),
  g_check_action := He.glo_ok X G (c.d.fact 8 (f := .glo "check_action") rfl),
  g_halves := He.glo_ok X G (c.d.fact 9 (f := .glo "halves") rfl),
  g_value_of := He.glo_ok X G (c.d.fact 10 (f := .glo "value_of") rfl),
  g_settled := He.glo_ok X G (c.d.fact 11 (f := .glo "settled") rfl),
  g_state := He.glo_ok X G (c.d.fact 12 (f := .glo "state") rfl),
  g_after := He.glo_ok X G (c.d.fact 13 (f := .glo "after") rfl),
  g_way_out := He.glo_ok X G (c.d.fact 14 (f := .glo "way_out") rfl),
  g__law_pool := He.glo_ok X G (c.d.fact 15 (f := .glo "_law_pool") rfl),
  g__law_mixed := He.glo_ok X G (c.d.fact 16 (f := .glo "_law_mixed") rfl),
  g__law_draw := He.glo_ok X G (c.d.fact 17 (f := .glo "_law_draw") rfl),
  g__law_letters := He.glo_ok X G (c.d.fact 18 (f := .glo "_law_letters") rfl),
  g__law_name := He.glo_ok X G (c.d.fact 19 (f := .glo "_law_name") rfl),
  g__law_fresh := He.glo_ok X G (c.d.fact 20 (f := .glo "_law_fresh") rfl),
  g__law_number := He.glo_ok X G (c.d.fact 21 (f := .glo "_law_number") rfl),
  g__law_kind := He.glo_ok X G (c.d.fact 22 (f := .glo "_law_kind") rfl),
  g__law_lore := He.glo_ok X G (c.d.fact 23 (f := .glo "_law_lore") rfl),
  g__law_book := He.glo_ok X G (c.d.fact 24 (f := .glo "_law_book") rfl),
  g__law_argument := He.glo_ok X G (c.d.fact 25 (f := .glo "_law_argument") rfl),
  g__law_action := He.glo_ok X G (c.d.fact 26 (f := .glo "_law_action") rfl),
  g__law_answers := He.glo_ok X G (c.d.fact 27 (f := .glo "_law_answers") rfl),
  g__law_halves := He.glo_ok X G (c.d.fact 28 (f := .glo "_law_halves") rfl),
  g__law_settled := He.glo_ok X G (c.d.fact 29 (f := .glo "_law_settled") rfl),
  g__law_state := He.glo_ok X G (c.d.fact 30 (f := .glo "_law_state") rfl),
  g__law_after := He.glo_ok X G (c.d.fact 31 (f := .glo "_law_after") rfl),
  g__law_way := He.glo_ok X G (c.d.fact 32 (f := .glo "_law_way") rfl),
  g__law_same := He.glo_ok X G (c.d.fact 33 (f := .glo "_law_same") rfl),
  g__law_exit := He.glo_ok X G (c.d.fact 34 (f := .glo "_law_exit") rfl),
  g__law_put := He.glo_ok X G (c.d.fact 35 (f := .glo "_law_put") rfl),
  g__law_unwound := He.glo_ok X G (c.d.fact 36 (f := .glo "_law_unwound") rfl),
  g__law_part := He.glo_ok X G (c.d.fact 37 (f := .glo "_law_part") rfl),
  g__law_goes := He.glo_ok X G (c.d.fact 38 (f := .glo "_law_goes") rfl),
  g__law_leaving := He.glo_ok X G (c.d.fact 39 (f := .glo "_law_leaving") rfl),
  g__law_apart := He.glo_ok X G (c.d.fact 40 (f := .glo "_law_apart") rfl),
  g_law := He.glo_ok X G (c.d.fact 41 (f := .glo "law") rfl),
  g_DeedError := He.glo_ok X G (c.d.fact 42 (f := .glo "DeedError") rfl),
  g_OtherBook := He.glo_ok X G (c.d.fact 43 (f := .glo "OtherBook") rfl),
  g_BadName := He.glo_ok X G (c.d.fact 44 (f := .glo "BadName") rfl),
  g_BadNumber := He.glo_ok X G (c.d.fact 45 (f := .glo "BadNumber") rfl),
  g_BadKind := He.glo_ok X G (c.d.fact 46 (f := .glo "BadKind") rfl),
  g_BadAction := He.glo_ok X G (c.d.fact 47 (f := .glo "BadAction") rfl),
  g_BadWorld := He.glo_ok X G (c.d.fact 48 (f := .glo "BadWorld") rfl),
  g_UnknownStep := He.glo_ok X G (c.d.fact 49 (f := .glo "UnknownStep") rfl),
  g_UnknownCell := He.glo_ok X G (c.d.fact 50 (f := .glo "UnknownCell") rfl),
  g_TooLarge := He.glo_ok X G (c.d.fact 51 (f := .glo "TooLarge") rfl),
  g_Clash := He.glo_ok X G (c.d.fact 52 (f := .glo "Clash") rfl),
  g_NoAnswer := He.glo_ok X G (c.d.fact 53 (f := .glo "NoAnswer") rfl),
  g_Book := He.glo_ok X G (c.d.fact 54 (f := .glo "Book") rfl),
  g_World := He.glo_ok X G (c.d.fact 55 (f := .glo "World") rfl),
  g_Pile := He.glo_ok X G (c.d.fact 56 (f := .glo "Pile") rfl),
  n_len := He.free_ok X G (c.d.fact 57 (f := .free "len") rfl),
  n_int := He.free_ok X G (c.d.fact 58 (f := .free "int") rfl),
  n_str := He.free_ok X G (c.d.fact 59 (f := .free "str") rfl),
  n_bool := He.free_ok X G (c.d.fact 60 (f := .free "bool") rfl),
  n_list := He.free_ok X G (c.d.fact 61 (f := .free "list") rfl),
  n_tuple := He.free_ok X G (c.d.fact 62 (f := .free "tuple") rfl),
  n_dict := He.free_ok X G (c.d.fact 63 (f := .free "dict") rfl),
  n_isinstance := He.free_ok X G (c.d.fact 64 (f := .free "isinstance") rfl),
  n_range := He.free_ok X G (c.d.fact 65 (f := .free "range") rfl),
  n_enumerate := He.free_ok X G (c.d.fact 66 (f := .free "enumerate") rfl),
  n_sorted := He.free_ok X G (c.d.fact 67 (f := .free "sorted") rfl),
  n_iter := He.free_ok X G (c.d.fact 68 (f := .free "iter") rfl),
  v_LETTERS := gs_ok (He.str_ok X G (c.d.fact 69 (f := .str "LETTERS" "abcdefghijklmnopqrstuvwxyz") rfl)),
  v_DIGITS := gs_ok (He.str_ok X G (c.d.fact 70 (f := .str "DIGITS" "0123456789") rfl)),
  v_LONGEST := gi_ok (He.int_ok X G (c.d.fact 71 (f := .int "LONGEST" 12) rfl)),
  v_GREATEST := gi_ok (He.int_ok X G (c.d.fact 72 (f := .int "GREATEST" 999) rfl)),
  v_NUMBERED := ⟨_, He.glo_ok X G (c.d.fact 73 (f := .glo "NUMBERED") rfl), rfl⟩,
  q_NUMBERED := fun H => He.tupB_ok (vs := [.str "answer", .str "heal"]) (ex_ok c 0) H,
  v_NAMED := ⟨_, He.glo_ok X G (c.d.fact 74 (f := .glo "NAMED") rfl), rfl⟩,
  q_NAMED := fun H => He.tupB_ok (vs := [.str "jump", .str "swap"]) (ex_ok c 1) H,
  v_GUARDS := ⟨_, He.glo_ok X G (c.d.fact 75 (f := .glo "GUARDS") rfl), rfl⟩,
  q_GUARDS := fun H => He.tupB_ok (vs := [.str "done", .str "error", .str "always"]) (ex_ok c 2) H,
  v_READS := ⟨_, He.glo_ok X G (c.d.fact 76 (f := .glo "READS") rfl), rfl⟩,
  q_READS := fun H => He.tupB_ok (vs := [.str "now", .str "late"]) (ex_ok c 3) H,
  v_MANY := gi_ok (He.int_ok X G (c.d.fact 77 (f := .int "MANY" 3) rfl)),
  v_DEEP := gi_ok (He.int_ok X G (c.d.fact 78 (f := .int "DEEP" 2) rfl)),
  v_DONE := gs_ok (He.str_ok X G (c.d.fact 79 (f := .str "DONE" "done") rfl)),
  v_ERROR := gs_ok (He.str_ok X G (c.d.fact 80 (f := .str "ERROR" "error") rfl)),
  v_FIRST_LIMIT := gi_ok (He.int_ok X G (c.d.fact 81 (f := .int "FIRST_LIMIT" 100) rfl)),
  v_GREATEST_LIMIT := gi_ok (He.int_ok X G (c.d.fact 82 (f := .int "GREATEST_LIMIT" 999) rfl)),
  f_Book_cells := c.get 0 (d := gg_Book_cells) rfl,
  f_Pile_limit := c.get 1 (d := gg_Pile_limit) rfl,
  f_Pile_limit_setter := c.get 2 (d := gg_Pile_limit_setter) rfl,
  f_is_name := c.d.def_ 0 (d := dd_is_name) rfl,
  f_check_name := c.d.def_ 1 (d := dd_check_name) rfl,
  f_check_number := c.d.def_ 2 (d := dd_check_number) rfl,
  f_check_kind := c.d.def_ 3 (d := dd_check_kind) rfl,
  f_copied := c.d.def_ 4 (d := dd_copied) rfl,
  f_cell_names := c.d.def_ 5 (d := dd_cell_names) rfl,
  f_check_argument := c.d.def_ 6 (d := dd_check_argument) rfl,
  f_check_at := c.d.def_ 7 (d := dd_check_at) rfl,
  f_check_action := c.d.def_ 8 (d := dd_check_action) rfl,
  f_halves := c.d.def_ 9 (d := dd_halves) rfl,
  f_value_of := c.d.def_ 10 (d := dd_value_of) rfl,
  f_settled := c.d.def_ 11 (d := dd_settled) rfl,
  f_state := c.d.def_ 12 (d := dd_state) rfl,
  f_after := c.d.def_ 13 (d := dd_after) rfl,
  f_way_out := c.d.def_ 14 (d := dd_way_out) rfl,
  f__law_pool := c.d.def_ 15 (d := dd__law_pool) rfl,
  f__law_mixed := c.d.def_ 16 (d := dd__law_mixed) rfl,
  f__law_draw := c.d.def_ 17 (d := dd__law_draw) rfl,
  f__law_letters := c.d.def_ 18 (d := dd__law_letters) rfl,
  f__law_name := c.d.def_ 19 (d := dd__law_name) rfl,
  f__law_fresh := c.d.def_ 20 (d := dd__law_fresh) rfl,
  f__law_number := c.d.def_ 21 (d := dd__law_number) rfl,
  f__law_kind := c.d.def_ 22 (d := dd__law_kind) rfl,
  f__law_lore := c.d.def_ 23 (d := dd__law_lore) rfl,
  f__law_book := c.d.def_ 24 (d := dd__law_book) rfl,
  f__law_argument := c.d.def_ 25 (d := dd__law_argument) rfl,
  f__law_action := c.d.def_ 26 (d := dd__law_action) rfl,
  f__law_answers := c.d.def_ 27 (d := dd__law_answers) rfl,
  f__law_halves := c.d.def_ 28 (d := dd__law_halves) rfl,
  f__law_settled := c.d.def_ 29 (d := dd__law_settled) rfl,
  f__law_state := c.d.def_ 30 (d := dd__law_state) rfl,
  f__law_after := c.d.def_ 31 (d := dd__law_after) rfl,
  f__law_way := c.d.def_ 32 (d := dd__law_way) rfl,
  f__law_same := c.d.def_ 33 (d := dd__law_same) rfl,
  f__law_exit := c.d.def_ 34 (d := dd__law_exit) rfl,
  f__law_put := c.d.def_ 35 (d := dd__law_put) rfl,
  f__law_unwound := c.d.def_ 36 (d := dd__law_unwound) rfl,
  f__law_part := c.d.def_ 37 (d := dd__law_part) rfl,
  f__law_goes := c.d.def_ 38 (d := dd__law_goes) rfl,
  f__law_leaving := c.d.def_ 39 (d := dd__law_leaving) rfl,
  f__law_apart := c.d.def_ 40 (d := dd__law_apart) rfl,
  f_law := c.d.def_ 41 (d := dd_law) rfl,
  f_Book___init__ := c.d.def_ 42 (d := dd_Book___init__) rfl,
  f_Book___getitem__ := c.d.def_ 43 (d := dd_Book___getitem__) rfl,
  f_Book___setitem__ := c.d.def_ 44 (d := dd_Book___setitem__) rfl,
  f_Book___contains__ := c.d.def_ 45 (d := dd_Book___contains__) rfl,
  f_Book___eq__ := c.d.def_ 46 (d := dd_Book___eq__) rfl,
  f_Book_add_cell := c.d.def_ 47 (d := dd_Book_add_cell) rfl,
  f_World___init__ := c.d.def_ 48 (d := dd_World___init__) rfl,
  f_Pile___init__ := c.d.def_ 49 (d := dd_Pile___init__) rfl,
  f_Pile___len__ := c.d.def_ 50 (d := dd_Pile___len__) rfl,
  f_Pile___iter__ := c.d.def_ 51 (d := dd_Pile___iter__) rfl,
  f_Pile_change_limit := c.d.def_ 52 (d := dd_Pile_change_limit) rfl,
  f_Pile_put := c.d.def_ 53 (d := dd_Pile_put) rfl,
  f_Pile_cut := c.d.def_ 54 (d := dd_Pile_cut) rfl,
  f_Pile_lay := c.d.def_ 55 (d := dd_Pile_lay) rfl,
  f_Pile_unwind := c.d.def_ 56 (d := dd_Pile_unwind) rfl,
  f_NoAnswer___init__ := c.d.def_ 57 (d := dd_NoAnswer___init__) rfl,
  c_Book := He.cls_ok (c.d.fact 83 (f := .cls "Book") rfl),
  na_Book__kinds := He.noat_ok (c.d.fact 84 (f := .noat "Book" "_kinds") rfl),
  na_Book__sizes := He.noat_ok (c.d.fact 85 (f := .noat "Book" "_sizes") rfl),
  c_World := He.cls_ok (c.d.fact 86 (f := .cls "World") rfl),
  na_World_answers := He.noat_ok (c.d.fact 87 (f := .noat "World" "answers") rfl),
  na_World_place := He.noat_ok (c.d.fact 88 (f := .noat "World" "place") rfl),
  c_Pile := He.cls_ok (c.d.fact 89 (f := .cls "Pile") rfl),
  na_Pile__book := He.noat_ok (c.d.fact 90 (f := .noat "Pile" "_book") rfl),
  na_Pile__halves := He.noat_ok (c.d.fact 91 (f := .noat "Pile" "_halves") rfl),
  na_Pile__limit := He.noat_ok (c.d.fact 92 (f := .noat "Pile" "_limit") rfl),
  m_Book_add_cell := He.meth_ok (c.d.fact 93 (f := .meth "Book" "add_cell") rfl),
  m_Book___getitem__ := He.meth_ok (c.d.fact 94 (f := .meth "Book" "__getitem__") rfl),
  m_Book___setitem__ := He.meth_ok (c.d.fact 95 (f := .meth "Book" "__setitem__") rfl),
  m_Book___contains__ := He.meth_ok (c.d.fact 96 (f := .meth "Book" "__contains__") rfl),
  m_Book___eq__ := He.meth_ok (c.d.fact 97 (f := .meth "Book" "__eq__") rfl),
  m_Pile___len__ := He.meth_ok (c.d.fact 98 (f := .meth "Pile" "__len__") rfl),
  m_Pile___iter__ := He.meth_ok (c.d.fact 99 (f := .meth "Pile" "__iter__") rfl),
  m_Pile_change_limit := He.meth_ok (c.d.fact 100 (f := .meth "Pile" "change_limit") rfl),
  m_Pile_put := He.meth_ok (c.d.fact 101 (f := .meth "Pile" "put") rfl),
  m_Pile_cut := He.meth_ok (c.d.fact 102 (f := .meth "Pile" "cut") rfl),
  m_Pile_lay := He.meth_ok (c.d.fact 103 (f := .meth "Pile" "lay") rfl),
  m_Pile_unwind := He.meth_ok (c.d.fact 104 (f := .meth "Pile" "unwind") rfl),
  m_NoAnswer___init__ := He.meth_ok (c.d.fact 105 (f := .meth "NoAnswer" "__init__") rfl),
  mk_World := He.mkr_ok (c.d.fact 106 (f := .mkr "World") rfl),
  mk_Pile := He.mkr_ok (c.d.fact 107 (f := .mkr "Pile") rfl),
  mk_Book := He.mkr_ok (c.d.fact 108 (f := .mkr "Book") rfl),
  e_Book0 := emptyB_ok (ex_ok c 4),
  e_Book1 := emptyB_ok (ex_ok c 5),
  ne_Book := neB_ok (ex_ok c 6),
  ns_Book := (ex_ok c 7),
  p_Book_cells := propB_ok (ex_ok c 8),
  p_Pile_limit := propB_ok (ex_ok c 9),
  ps_Pile_limit := psetB_ok (ex_ok c 10),
  cv_Book_STEPS := cvalB_ok (ex_ok c 11),
  cv_Book_CELLS := cvalB_ok (ex_ok c 12),
  is_Book := iscB_ok (ex_ok c 13),
  is_World := iscB_ok (ex_ok c 14),
  ox_NoAnswer := oexB_ok (ex_ok c 15),
  xf_NoAnswer := xfB_ok (ex_ok c 16),
  nr_NoAnswer := beq_iff_eq.mp (ex_ok c 17),
  ex_NoAnswer := exmB_ok (ex_ok c 18),
  b_DeedError := baseB_ok (ex_ok c 19) }
end U

set_option Elab.async false
set_option linter.all false
set_option maxRecDepth 100000
set_option maxHeartbeats 0
namespace U
open PySem PySem.Spec PyProof.Rows L2
def sp_law (K : PySem.W.Frag) : Sp := fun vs H Q E => ∃ (a : Addr) (ns : List Int), vs = [.ref a] ∧ SqL K H a (ns.map V.int) ∧ ns.length ≤ 63 ∧ ∀ H', Q (.bl true) H'
def Facts : Prop := ∀ {P : Program} {w : World} {K : PySem.W.Frag} {h : Heap} {mg : Str → Option Value} {f : Addr} (X : K.In h) (G : h.Ns mainGlobals mg) (hfa : mg ("law" : Str) = some (.ref f)) (c : SaysY faL fnL gtL exB K),
    ∃ fd : FuncData, (∀ (s : Shared) (v : Value), BindsTo s fd ⟨[v], []⟩ [("script", v)]) ∧ ∀ base : Heap, K.In base → base.Ns mainGlobals mg → FnOk P w K mg base CX0 16 f fd ["script"] (sp_law K)
end U
section
open PySem PySem.W PySem.Calls PyProof.Rows
theorem U.end_of (facts : U.Facts) : PySem.Challenge.rw_struckbodies_k78_whole_unwound_in_parts.Holds := by
  w_on; o_law
  refine HandSHeadRun.head_any (r := OpenLaw.row PySem.Challenge.rw_struckbodies_k78_whole_unwound_in_parts) (q := view (OpenLaw.row PySem.Challenge.rw_struckbodies_k78_whole_unwound_in_parts).prog [80]) (H := U.hk) (ob := U.ob) (M := 60000) (loose := U.loose) (d := HandSHeadRun.topDef (OpenLaw.row PySem.Challenge.rw_struckbodies_k78_whole_unwound_in_parts).prog 80) (kwd := []) U.ob_eq
    (by kernel_rfl) (fun s => by kernel_rfl) U.run (by kernel_rfl) (by kernel_rfl) (by kernel_rfl) (by rfl) (by first | assumption | decide +kernel) (by decide +kernel) ⟨rfl, rfl, rfl, rfl, rfl, by decide +kernel⟩ ?hw ?hc
  case hw => w_witness2
  case hc =>
    refine L2.walk_ofE (l := PySem.Challenge.rw_struckbodies_k78_whole_unwound_in_parts) (n := 63) (k := 16) (x := "script") (CX := L2.CX0) rfl (by decide) (by kernel_rfl) ⟨rfl, by decide, by decide⟩ ?F (fun _ _ _ _ z => z)
    intro w mg fa h Y G hmg0
    obtain ⟨K, KX, c⟩ := Y
    have hmg : mg ("law" : PySem.Str) = some (.ref fa) := by
      have e : (HandSHeadRun.topDef (OpenLaw.row PySem.Challenge.rw_struckbodies_k78_whole_unwound_in_parts).prog 80).name = ("law" : PySem.Str) := by kernel_rfl
      rw [← e]
      exact hmg0
    obtain ⟨fd, hb, hF⟩ := facts (P := (PySem.Challenge.rw_struckbodies_k78_whole_unwound_in_parts).prog) (w := w) KX G hmg c
    exact ⟨K, fd, U.sp_law K, KX, hb, fun H a ns hl _ hS => ⟨a, ns, rfl, hS, hl, fun _ => rfl⟩, hF⟩
end

set_option Elab.async false
set_option linter.all false
set_option maxRecDepth 100000
set_option maxHeartbeats 8000000
namespace U
open PySem PySem.Spec PyProof.Rows L2 ClX
-- the slots, written out
local macro_rules | `(tactic| walk_at "st") => `(tactic| (refine x_start (by simp only [L2.start, List.map_cons, List.map_nil, List.length_cons, List.length_nil, List.replicate, Nat.reduceAdd, Nat.reduceSub, List.cons_append, List.nil_append, List.append_nil] <;> exact rfl) ?_; (try dsimp only [cxOf, Cx.nox, Cx.wish])))
-- H a = some o
local macro_rules | `(tactic| walk_at "hp") => `(tactic| first
  | with_reducible assumption
  | exact upd_same
  | ((with_reducible refine Ch.get0 (by assumption) ?_); walk_at "hp")
  | ((with_reducible refine Ch.get1 (by assumption) ?_ ?_); rotate_left 1; (walk_at "ne"); walk_at "hp")
  | ((with_reducible refine hp_up (by assumption) ?_); walk_at "hp"))
local macro_rules | `(tactic| walk_at "ne") => `(tactic| first
  | with_reducible assumption
  | ((with_reducible refine Ne.symm ?_); with_reducible assumption)
  | (refine ne_of_none ?_ (by assumption); walk_at "hp")
  | (refine Ne.symm (ne_of_none ?_ (by assumption)); walk_at "hp"))
local macro_rules | `(tactic| walk_at "sqL") => `(tactic| first
  | with_reducible assumption
  | (refine SqL.of ?_; walk_at "hp")
  | (refine Ch.sqL (by assumption) ?_ ?_; rotate_left 1; (first | exact List.not_mem_nil | (rw [List.mem_singleton]; walk_at "ne")); walk_at "sqL"))
local macro_rules | `(tactic| walk_at "sqT") => `(tactic| first
  | with_reducible assumption
  | (refine SqT.of ?_; walk_at "hp")
  | (refine Ch.sqT (by assumption) ?_; walk_at "sqT"))
-- an arithmetic side condition
local macro_rules | `(tactic| walk_at "ar") => `(tactic| first | with_reducible assumption | decide | omega | (focus (intro e; cases e; done)) | ((simp only [List.length_cons, List.length_nil]); omega))
-- one step of a reading
local macro_rules | `(tactic| walk_at "rd1") => `(tactic| first
  | with_reducible refine x_var rfl ?_
  | with_reducible refine x_c ?_
  | with_reducible refine x_seq ?_
  | with_reducible refine x_op ?_
  | with_reducible refine x_un ?_
  | with_reducible refine x_cons ?_
  | with_reducible refine x_nil ?_
  | with_reducible refine x_next ?_
  | with_reducible refine x_asg ?_
  | with_reducible refine x_name0 ?_
  | with_reducible refine x_name1 ?_
  | with_reducible refine x_name2 ?_
  | with_reducible refine x_name3 ?_
  | with_reducible refine x_name4 ?_
  | with_reducible refine x_name5 ?_
  | with_reducible refine x_name6 ?_
  | with_reducible refine x_name7 ?_
  | with_reducible refine x_name8 ?_
  | with_reducible refine x_name9 ?_
  | with_reducible refine x_name10 ?_
  | with_reducible refine x_name11 ?_
  | with_reducible refine x_name12 ?_
  | with_reducible refine x_name13 ?_
  | with_reducible refine x_name14 ?_
  | with_reducible refine x_name15 ?_
  | with_reducible refine x_name16 ?_
  | with_reducible refine x_name17 ?_
  | with_reducible refine x_name18 ?_
  | with_reducible refine x_name19 ?_
  | with_reducible refine x_name20 ?_
  | with_reducible refine x_name21 ?_
  | with_reducible refine x_aug0 ?_
  | with_reducible refine x_aug1 ?_
  | with_reducible refine x_aug2 ?_
  | with_reducible refine x_aug3 ?_
  | with_reducible refine x_aug4 ?_
  | with_reducible refine x_aug5 ?_
  | with_reducible refine x_aug6 ?_
  | with_reducible refine x_aug7 ?_
  | with_reducible refine x_aug8 ?_
  | with_reducible refine x_aug9 ?_
  | with_reducible refine x_aug10 ?_
  | with_reducible refine x_aug11 ?_
  | with_reducible refine x_aug12 ?_
  | with_reducible refine x_aug13 ?_
  | with_reducible refine x_aug14 ?_
  | with_reducible refine x_aug15 ?_
  | with_reducible refine x_aug16 ?_
  | with_reducible refine x_aug17 ?_
  | with_reducible refine x_aug18 ?_
  | with_reducible refine x_aug19 ?_
  | with_reducible refine x_aug20 ?_
  | with_reducible refine x_aug21 ?_
  | with_reducible refine x_ret ?_
  | with_reducible refine x_retN ?_
  | with_reducible refine x_drop ?_
  | with_reducible refine x_ifS ?_
  | with_reducible refine x_if ?_
  | with_reducible refine x_test ?_
  | with_reducible refine x_B ?_
  | with_reducible refine x_bl ?_
  | with_reducible refine x_blV ?_
  | with_reducible refine x_exI ?_
  | with_reducible refine x_and ?_
  | with_reducible refine x_or ?_
  | with_reducible refine x_not ?_
  | with_reducible refine x_andV ?_
  | with_reducible refine x_orV ?_
  | with_reducible refine x_notV ?_
  | with_reducible refine x_chain ?_
  | with_reducible refine x_CB ?_
  | with_reducible refine x_BM ?_
  | with_reducible refine x_BM0 ?_
  | with_reducible refine x_sl ?_
  | with_reducible refine x_po0 ?_
  | with_reducible refine x_po1 ?_
  | with_reducible refine x_tup ?_
  | with_reducible refine x_lst ?_
  | with_reducible refine x_gsub ?_
  | (with_reducible refine x_call ?_)
  | with_reducible refine ite_T ?_
  | ((with_reducible refine ite_d ?_ ?_); (walk_at "ar"))
  | ((with_reducible refine ite_dn ?_ ?_); (walk_at "ar"))
  | ((with_reducible refine ite_n ?_ ?_); (walk_at "ar"))
  | ((with_reducible refine ite_nn ?_ ?_); (walk_at "ar"))
  | with_reducible refine ite_F ?_
  | with_reducible refine ite_nT ?_
  | with_reducible refine ite_nF ?_
  | with_reducible refine x_addI ?_
  | with_reducible refine x_sub ?_
  | ((with_reducible refine x_mul ?_ ?_); (case' _ => (first | (exact .inr (by decide)) | (exact .inl (by decide)) | (exact .inr (by omega)) | (exact .inl (by omega)))))
  | ((with_reducible refine x_mod ?_ ?_); (walk_at "ar"))
  | ((with_reducible refine x_div ?_ ?_); (walk_at "ar"))
  | ((with_reducible refine x_pow ?_ ?_); (exact (by decide)))
  | with_reducible refine x_lt ?_
  | with_reducible refine x_le ?_
  | with_reducible refine x_gt ?_
  | with_reducible refine x_ge ?_
  | with_reducible refine x_eqI ?_
  | with_reducible refine x_eqS ?_
  | with_reducible refine x_eqB ?_
  | with_reducible refine x_neI ?_
  | with_reducible refine x_neS ?_
  | with_reducible refine x_isN ?_
  | with_reducible refine x_notN ?_
  | with_reducible refine x_inSg ?_
  | with_reducible refine x_notInSg ?_
  | with_reducible refine x_int ?_
  | with_reducible refine x_neg ?_
  | with_reducible refine x_for ?_
  | with_reducible refine x_iR1 ?_
  | with_reducible refine x_iR2 ?_
  | with_reducible refine x_iL ?_
  | with_reducible refine x_iT ?_
  | with_reducible refine x_iS ?_
  | with_reducible refine x_iSa ?_
  | with_reducible refine x_lc ?_
  | with_reducible refine x_yes ?_
  | with_reducible refine x_spA ?_
  | ((with_reducible refine x_iR1a ?_ ?_); ((constructor <;> walk_at "ar")))
  | ((with_reducible refine x_iR1c ?_ ?_); ((constructor <;> walk_at "ar")))
  | ((with_reducible refine x_iLa (xs := ?xs) ?h1 ?h2); (case h1 => walk_at "sqL"))
  | ((with_reducible refine x_iLc (xs := ?xs) ?h1 ?h2); (case h1 => walk_at "sqL"))
  | ((with_reducible refine x_iTa (xs := ?xs) ?h1 ?h2); (case h1 => walk_at "sqT"))
  | ((with_reducible refine x_iTc (xs := ?xs) ?h1 ?h2); (case h1 => walk_at "sqT"))
  | with_reducible refine x_iSc ?_
  | with_reducible refine x_fld ?_
  | with_reducible refine x_gcons ?_
  | with_reducible refine x_gnil ?_
  | with_reducible refine x_dnew ?_
  | ((with_reducible refine x_gtup (xs := ?xs) ?h1 ?h0 ?h2); (case h1 => walk_at "sqT"); (case h0 => rfl))
  | with_reducible refine x_sfld ?_
  | with_reducible refine x_cvalS ?_
  | with_reducible refine x_dgetS ?_
  | with_reducible refine x_dputS ?_
  | with_reducible refine x_subOS ?_
  | with_reducible refine x_putOS ?_
  | with_reducible refine x_psetS ?_
  | with_reducible refine x_propS ?_
  | with_reducible refine x_methR ?_
  | with_reducible refine x_methK ?_
  | with_reducible refine x_makeR ?_
  | ((with_reducible refine g_ix ?_); first
      | (refine x_ixL0 (xs := ?xs) (v := ?v) ?h1 (by decide) ?h3 ?h4; (case h1 => walk_at "sqL"); (case h3 => rfl))
      | (refine x_ixT0 (xs := ?xs) (v := ?v) ?h1 (by decide) ?h3 ?h4; (case h1 => walk_at "sqT"); (case h3 => rfl)))
  | ((with_reducible refine g_len ?_); first
      | (refine x_lenL (xs := ?xs) ?h1 ?h2; (case h1 => walk_at "sqL"))
      | (refine x_lenT (xs := ?xs) ?h1 ?h2; (case h1 => walk_at "sqT"))
      | (refine x_lenS ?h1 ?h2; (case h1 => walk_at "ar")))
  | ((with_reducible refine g_tyV ?_); first
      | (refine x_tyL (xs := ?xs) ?h1 ?h2; (case h1 => walk_at "sqL"))))
local macro_rules | `(tactic| walk_at "rd") => `(tactic| repeat walk_at "rd1")

def sp_check_number : Sp := fun vs H Q E => ∃ n : Int, vs = [.int n] ∧ 0 ≤ n ∧ n ≤ 999 ∧ Q (.int n) H
def sp__law_mixed : Sp := fun vs H Q E => ∃ a b l : Int, vs = [.int a, .int b, .int l] ∧ 0 < l ∧ ∀ d : Int, 0 ≤ d → d < l → Q (.int d) H
/-- the pool at p, its cells at c -/
structure Pl (H : Hp) (p c : Addr) : Prop where
  at_ : ∃ a b d e : Int, H p = some (.lst [.ref c, .int a, .int b, .int d, .int e]) ∧ 0 ≤ a
  cs : ∃ ns : List Int, H c = some (.lst (ns.map V.int)) ∧ ns.length ≤ 63
theorem Pl.ne {H : Hp} {p c : Addr} (h : Pl H p c) : c ≠ p := by
  obtain ⟨⟨a, b, d, e, h1, _⟩, ns, h2, _⟩ := h
  intro z
  rw [z, h1] at h2
  have q := Option.some.inj h2
  injection q with q
  cases ns with
  | nil => cases q
  | cons n ns => 
    rw [List.map_cons] at q
    injection q with q1 q2
    cases q1
theorem Pl.ch {S : List Addr} {H H' : Hp} {p c : Addr} (h : Pl H p c) (k : Ch S H H') (h1 : p ∉ S) (h2 : c ∉ S) : Pl H' p c := by
  obtain ⟨⟨a, b, d, e, h3, h4⟩, ns, h5, h6⟩ := h
  exact ⟨⟨a, b, d, e, k.st _ _ h1 h3, h4⟩, ns, k.st _ _ h2 h5, h6⟩
theorem Pl.ch0 {H H' : Hp} {p c : Addr} (h : Pl H p c) (k : Ch [] H H') : Pl H' p c := h.ch k (by simp) (by simp)
def sp__law_draw : Sp := fun vs H Q E => ∃ (p c : Addr) (l : Int), vs = [.ref p, .int l] ∧ Pl H p c ∧ 0 < l ∧ l < 1073741824 ∧ ∀ (d : Int) H', 0 ≤ d → d < l → Pl H' p c → Ch [p] H H' → Q (.int d) H'
theorem use_draw {H : Hp} {Q : VK} {E : XK} {p c : Addr} {l : Int} (hp : Pl H p c) (h0 : 0 < l) (h1 : l < 1073741824) (q : ∀ (d : Int) H', 0 ≤ d → d < l → Pl H' p c → Ch [p] H H' → Q (.int d) H') : sp__law_draw [.ref p, .int l] H Q E := ⟨p, c, l, rfl, hp, h0, h1, q⟩
theorem use_mixed {H : Hp} {Q : VK} {E : XK} {a b l : Int} (h0 : 0 < l) (q : ∀ (d : Int), 0 ≤ d → d < l → Q (.int d) H) : sp__law_mixed [.int a, .int b, .int l] H Q E := ⟨a, b, l, rfl, h0, q⟩
section
variable {P : Program} {w : World} {K : PySem.W.Frag} {mg : Str → Option Value} {base : Heap}
theorem ok_check_number (T : Txt K mg)  : FD P w K mg base CX0 1 (He.ga K "check_number") ["number"] sp_check_number := by
  refine FD.mk0 T.f_check_number sc_check_number (fun vs H Q E h => ?_) (fun _ _ _ _ _ _ us hl => match us, hl with | [_], _ => rfl) (fun cdv A outer s H vs Q E hr h => ⟨_, (pss_cons (ps_if (pt_not (pt_chain u_le u_le pe_int (pv 0) (pe_gc (by rfl) T.v_GREATEST))) pss_never pss_nil)
  (pss_one (ps_ret (pv 0)))), ?_⟩)
  · obtain ⟨n, rfl, _⟩ := h
    rfl
  · obtain ⟨n, rfl, h0, h1, k⟩ := h
    walk_at "st"
    walk_at "rd"
    exact k
theorem ok__law_mixed (T : Txt K mg)  : FD P w K mg base CX0 1 (He.ga K "_law_mixed") ["cell", "turn", "limit"] sp__law_mixed := by
  refine FD.mk0 T.f__law_mixed sc__law_mixed (fun vs H Q E h => ?_) (fun _ _ _ _ _ _ us hl => match us, hl with | [_, _, _], _ => rfl) (fun cdv A outer s H vs Q E hr h => ⟨_, (pss_cons (ps_set (i := 3) sc__law_mixed.nd rfl (.inl rfl) (pe_op u_mod (pe_callTy c_int (by rfl) T.n_int bb_int (pa_cons (pe_op u_add (pe_op u_add (pe_op u_mul (pv 0) pe_int) (pe_op u_mul (pv 1) pe_int)) pe_int) pa_nil)) pe_int))
  (pss_cons (ps_set (i := 4) sc__law_mixed.nd rfl (.inl rfl) (pe_op u_mod (pe_callTy c_int (by rfl) T.n_int bb_int (pa_cons (pe_op u_add (pe_op u_add (pe_op u_mul (pv 3) pe_int) (pe_op u_mul (pv 0) pe_int)) (pe_op u_mul (pv 1) pe_int)) pa_nil)) pe_int))
  (pss_cons (ps_set (i := 5) sc__law_mixed.nd rfl (.inl rfl) (pe_op u_mod (pe_callTy c_int (by rfl) T.n_int bb_int (pa_cons (pe_op u_add (pe_op u_mul (pv 4) pe_int) (pe_op u_div (pv 3) pe_int)) pa_nil)) pe_int))
  (pss_one (ps_ret (pe_op u_mod (pe_callTy c_int (by rfl) T.n_int bb_int (pa_cons (pv 5) pa_nil)) (pv 2))))))), ?_⟩)
  · obtain ⟨a, b, l, rfl, _⟩ := h
    rfl
  · obtain ⟨a, b, l, rfl, h0, k⟩ := h
    walk_at "st"
    walk_at "rd"
    exact k _ (Int.emod_nonneg _ (by omega)) (Int.emod_lt_of_pos _ h0)
theorem ok__law_draw (T : Txt K mg)  : FD P w K mg base CX0 2 (He.ga K "_law_draw") ["pool", "limit"] sp__law_draw := by
  refine FD.mk0 T.f__law_draw sc__law_draw (fun vs H Q E h => ?_) (fun _ _ _ _ _ _ us hl => match us, hl with | [_, _], _ => rfl) (fun cdv A outer s H vs Q E hr h => ⟨_, (pss_cons (ps_if (pt_cmpR u_gt (pe_ix ix_seq (pv 0) pe_int (by intro _ _; rfl)) pe_int (nomark _)) (pss_cons (ps_set (i := 2) sc__law_draw.nd rfl (.inl rfl) (pe_op u_mod (pe_callTy c_int (by rfl) T.n_int bb_int (pa_cons (pe_ix ix_seq (pv 0) pe_int (by intro _ _; rfl)) pa_nil)) (pv 1)))
  (pss_cons (ps_asg (pe_op u_div (pe_ix ix_seq (pv 0) pe_int (by intro _ _; rfl)) (pv 1)) (pg_sub (pv 0) pe_int set_list))
  (pss_one (ps_ret (pv 2))))) pss_nil)
  (pss_cons (ps_if (pt_cmpR u_gt (pe_ix ix_seq (pv 0) pe_int (by intro _ _; rfl)) pe_int (nomark _)) (pss_cons (ps_asg (pe_op u_sub (pe_ix ix_seq (pv 0) pe_int (by intro _ _; rfl)) pe_int) (pg_sub (pv 0) pe_int set_list))
  (pss_one (ps_ret (pe_callD (ok__law_mixed T) hr (by first | decide | omega) (by rfl) T.g__law_mixed pass0 (pa_cons (pe_ix ix_seq (pv 0) pe_int (by intro _ _; rfl)) (pa_cons (pe_ix ix_seq (pv 0) pe_int (by intro _ _; rfl)) (pa_cons (pv 1) pa_nil))))))) pss_nil)
  (pss_cons (ps_if (pt_cmpR u_ge (pe_ix ix_seq (pv 0) pe_int (by intro _ _; rfl)) (pe_callB c_len (by rfl) T.n_len bb_len (pa_cons (pe_ix ix_seq (pv 0) pe_int (by intro _ _; rfl)) pa_nil)) (nomark _)) (pss_one (ps_ret pe_int)) pss_nil)
  (pss_cons (ps_set (i := 3) sc__law_draw.nd rfl (.inl rfl) (pe_ix ix_seq (pe_ix ix_seq (pv 0) pe_int (by intro _ _; rfl)) (pe_ix ix_seq (pv 0) pe_int (by intro _ _; rfl)) (by intro _ _; rfl)))
  (pss_cons (ps_asg (pe_op u_add (pe_ix ix_seq (pv 0) pe_int (by intro _ _; rfl)) pe_int) (pg_sub (pv 0) pe_int set_list))
  (pss_cons (ps_if (pt_cmpR u_lt (pv 3) pe_int (nomark _)) (pss_one (ps_set (i := 3) sc__law_draw.nd rfl (.inl rfl) (pe_op u_sub (pe_un un_neg pe_int) (pv 3)))) pss_nil)
  (pss_cons (ps_if (pt_cmpR u_ge (pv 3) (pe_op u_pow pe_int pe_int) (nomark _)) (pss_cons (ps_asg (pe_op u_div (pv 3) (pv 1)) (pg_sub (pv 0) pe_int set_list))
  (pss_one (ps_ret (pe_op u_mod (pe_callTy c_int (by rfl) T.n_int bb_int (pa_cons (pv 3) pa_nil)) (pv 1))))) pss_nil)
  (pss_cons (ps_asg (pv 3) (pg_sub (pv 0) pe_int set_list))
  (pss_cons (ps_asg pe_int (pg_sub (pv 0) pe_int set_list))
  (pss_one (ps_ret (pe_callD (ok__law_mixed T) hr (by first | decide | omega) (by rfl) T.g__law_mixed pass0 (pa_cons (pv 3) (pa_cons pe_int (pa_cons (pv 1) pa_nil))))))))))))))), ?_⟩)
  · obtain ⟨p, c, l, rfl, _⟩ := h
    rfl
  · obtain ⟨p, c, l, rfl, hp, h0, h1, k⟩ := h
    obtain ⟨⟨a, b, d, e, h2, h3⟩, ns, h4, h5⟩ := id hp
    have ncp := hp.ne
    walk_at "st"
    walk_at "rd"
    have lpos : ∀ x : Int, 0 ≤ x % l ∧ x % l < l := fun x => ⟨Int.emod_nonneg _ (by omega), Int.emod_lt_of_pos _ h0⟩
    refine ite_by (fun hb => ?_) (fun hb => ?_)
    · walk_at "rd"
      refine x_set2 h2 fun H1 e1 c1 => ?_
      walk_at "rd"
      exact k _ H1 (lpos _).1 (lpos _).2 ⟨⟨_, _, _, _, e1, h3⟩, ns, c1.get1 h4 ncp, h5⟩ c1
    walk_at "rd"
    refine ite_by (fun he => ?_) (fun he => ?_)
    · walk_at "rd"
      refine x_set4 h2 fun H1 e1 c1 => ?_
      walk_at "rd"
      exact use_mixed h0 fun d' d0 d1 => k d' H1 d0 d1 ⟨⟨_, _, _, _, e1, h3⟩, ns, c1.get1 h4 ncp, h5⟩ c1
    walk_at "rd"
    refine ite_by (fun hl => ?_) (fun hl => ?_)
    · walk_at "rd"
      exact k 0 H (Int.le_refl 0) h0 hp (Ch.refl H).any
    rw [List.length_map] at hl
    have ha : a.toNat < ns.length := by omega
    have hx : (ns.map V.int)[a.toNat]? = some (V.int (ns[a.toNat])) := by rw [List.getElem?_map, List.getElem?_eq_getElem ha]; rfl
    generalize ns[a.toNat] = n at hx
    walk_at "rd"
    refine x_ixL0 (SqL.of h4) h3 hx ?_
    walk_at "rd"
    refine x_set1 h2 fun H1 e1 c1 => ?_
    have h41 := c1.get1 h4 ncp
    -- the rest, whatever the number is
    have rest : ∀ n : Int, tSeq (tIfS (tTest (tOp rGeI (tVar 3) (tOp rPowI (tC (.int 10)) (tC (.int 18))))) (tSeq (tAsg (tOp rDivI (tVar 3) (tVar 1)) (gSub (tVar 0) (tC (.int 2)) rSetL)) (tRet (tOp rModI (tCB rIntC (tCons (tVar 3) tNil)) (tVar 1)))) tNext)
        (tSeq (tAsg (tVar 3) (gSub (tVar 0) (tC (.int 3)) rSetL)) (tSeq (tAsg (tC (.int 7)) (gSub (tVar 0) (tC (.int 4)) rSetL)) (tRet (tCall sp__law_mixed [] E0 (tCons (tVar 3) (tCons (tC (.int 7)) (tCons (tVar 1) tNil)))))))
        ⟨fun _ H' => Q .non H', Q, fun _ _ => False, fun _ _ => False⟩ [some (.ref p), some (.int l), none, some (.int n)] H1 := fun n => by
      walk_at "rd"
      refine ite_by (fun hn => ?_) (fun hn => ?_)
      · walk_at "rd"
        refine x_set2 e1 fun H2 e2 c2 => ?_
        walk_at "rd"
        exact k _ H2 (lpos _).1 (lpos _).2 ⟨⟨_, _, _, _, e2, by omega⟩, ns, c2.get1 h41 ncp, h5⟩ (c1.seq c2)
      · walk_at "rd"
        refine x_set3 e1 fun H2 e2 c2 => ?_
        walk_at "rd"
        refine x_set4 e2 fun H3 e3 c3 => ?_
        walk_at "rd"
        exact use_mixed h0 fun d' d0 d1 => k d' H3 d0 d1 ⟨⟨_, _, _, _, e3, by omega⟩, ns, c3.get1 (c2.get1 h41 ncp) ncp, h5⟩ ((c1.seq c2).seq c3)
    walk_at "rd"
    refine ite_by (fun hn => ?_) (fun hn => ?_)
    · repeat (first | with_reducible exact rest _ | walk_at "rd1")
    · repeat (first | with_reducible exact rest _ | walk_at "rd1")
end
def sp_is_name : Sp := fun vs H Q E => ∃ z : Str, vs = [.str z] ∧ z.length ≤ sizeLine ∧ Q (.bl (okName z.cps.toList)) H
def sp_check_name : Sp := fun vs H Q E => ∃ z : Str, vs = [.str z] ∧ IsName z ∧ Q (.str z) H
def sp__law_letters : Sp := fun vs H Q E => vs = [] ∧ Q (.str sLow) H
def sp__law_name : Sp := fun vs H Q E => ∃ (p c : Addr), vs = [.ref p] ∧ Pl H p c ∧ ∀ z H', IsName z → Pl H' p c → Ch [p] H H' → Q (.str z) H'
section
variable {P : Program} {w : World} {K : PySem.W.Frag} {mg : Str → Option Value} {base : Heap}
theorem ok_is_name (T : Txt K mg)  : FD P w K mg base CX0 1 (He.ga K "is_name") ["text"] sp_is_name := by
  refine FD.mk0 T.f_is_name sc_is_name (fun vs H Q E h => ?_) (fun _ _ _ _ _ _ us hl => match us, hl with | [_], _ => rfl) (fun cdv A outer s H vs Q E hr h => ⟨_, (pss_cons (ps_if (PW.pt (pw_or (pt_cmpR (u_eq (hu64 hr)) (pv 0) pe_str (nomark _)) (pw_or (pt_cmpR u_gt (pe_callB c_len (by rfl) T.n_len bb_len (pa_cons (pv 0) pa_nil)) (pe_gc (by rfl) T.v_LONGEST) (nomark _)) (pw_or1 (pt_cmpR u_notin (pe_ix ix_seq (pv 0) pe_int (by intro _ _; rfl)) (pe_gc (by rfl) T.v_LETTERS) (by rfl)))))) (pss_one (ps_ret pe_bl)) pss_nil)
  (pss_cons (ps_for PassesOwn.never rfl (pi_str (pv 0)) (pg_name (i := 1) sc_is_name.nd rfl (.inl rfl)) (pss_one (ps_if (PW.pt (pw_and (pt_cmpR u_notin (pv 1) (pe_gc (by rfl) T.v_LETTERS) (by rfl)) (pw_and1 (pt_cmpR u_notin (pv 1) (pe_gc (by rfl) T.v_DIGITS) (by rfl))))) (pss_one (ps_ret pe_bl)) pss_nil)))
  (pss_one (ps_ret pe_bl)))), ?_⟩)
  · obtain ⟨z, rfl, _⟩ := h
    rfl
  · obtain ⟨z, rfl, hz, k⟩ := h
    have kk : ∀ b : Bool, b = okName z.cps.toList → Q (.bl b) H := fun b e => e ▸ k
    walk_at "st"
    walk_at "rd"
    refine ite_by (fun e => ?_) (fun e => ?_)
    · walk_at "rd"
      exact kk _ (by rw [e]; rfl)
    walk_at "rd"
    obtain ⟨c, cs, ec⟩ : ∃ c cs, z.cps.toList = c :: cs := by
      cases q : z.cps.toList with
      | nil => exact absurd (str_ext (b := (Str.ofString "" : Str)) (by rw [q]; rfl)) e
      | cons c cs => exact ⟨c, cs, rfl⟩
    refine ite_by (fun h1 => ?_) (fun h1 => ?_)
    · walk_at "rd"
      refine kk _ ?_
      rw [str_len, ec] at h1
      rw [ec]
      rw [okName_cons, decide_eq_false (by omega)]
      rfl
    walk_at "rd"
    refine x_ixS (k := 0) hz rfl (by rw [ec]; rfl) ?_
    walk_at "rd"
    rw [str_len, ec] at h1
    refine ite_nby (fun h2 => ?_) (fun h2 => ?_)
    rotate_left 1
    · walk_at "rd"
      refine kk _ ?_
      rw [ec, okName_cons, show isLow c = false from by
        cases q : isLow c with
        | false => rfl
        | true => exact absurd (mem_low.mpr q) h2]
      rw [Bool.false_and, Bool.and_false]
    have h2' : isLow c = true := mem_low.mp h2
    walk_at "rd"
    refine goS z (fun i σ H' => H' = H ∧ ∃ o, σ = [some (.str z), o] ∧ ∀ d ∈ z.cps.toList.take i, isAln d = true) ⟨rfl, _, rfl, fun d hd => by simp at hd⟩ (fun i d σ H' hd hI => ?_) (fun σ H' hI => ?_)
    · obtain ⟨rfl, o, rfl, ha⟩ := hI
      have hdm : d ∈ z.cps.toList := List.mem_of_getElem? hd
      walk_at "rd"
      have bad : isAln d = false → false = okName z.cps.toList := fun q => by
        rw [ec] at hdm ⊢
        rw [okName_cons, show (c :: cs).all isAln = false from by
          cases q2 : (c :: cs).all isAln with
          | false => rfl
          | true =>
            have := List.all_eq_true.mp q2 d hdm
            rw [q] at this
            cases this]
        rw [Bool.and_false, Bool.and_false]
      have good : isAln d = true → ∀ e ∈ z.cps.toList.take (i + 1), isAln e = true := fun q e he => by
        rw [List.take_add_one, hd] at he
        rcases List.mem_append.mp he with q1 | q1
        · exact ha e q1
        · have : e = d := by simpa using q1
          rw [this]
          exact q
      refine ite_nby (fun h3 => ?_) (fun h3 => ?_)
      · walk_at "rd"
        exact ⟨rfl, _, rfl, good (low_aln (mem_low.mp h3))⟩
      · walk_at "rd"
        refine ite_nby (fun h4 => ?_) (fun h4 => ?_)
        · walk_at "rd"
          refine ⟨rfl, _, rfl, good ?_⟩
          unfold isAln
          rw [Bool.or_eq_true, decide_eq_true_eq]
          exact .inr (mem_dig.mp h4)
        · walk_at "rd"
          refine kk _ (bad ?_)
          cases q : isAln d with
          | false => rfl
          | true =>
            unfold isAln at q
            rw [Bool.or_eq_true, decide_eq_true_eq] at q
            rcases q with q | q
            · exact absurd (mem_low.mpr q) h3
            · exact absurd (mem_dig.mpr q) h4
    · obtain ⟨rfl, o, rfl, ha⟩ := hI
      walk_at "rd"
      refine kk _ ?_
      rw [List.take_length] at ha
      rw [ec] at ha ⊢
      rw [okName_cons, h2', List.all_eq_true.mpr ha, decide_eq_true (by omega)]
      rfl
theorem ok_check_name (T : Txt K mg)  : FD P w K mg base CX0 2 (He.ga K "check_name") ["name"] sp_check_name := by
  refine FD.mk0 T.f_check_name sc_check_name (fun vs H Q E h => ?_) (fun _ _ _ _ _ _ us hl => match us, hl with | [_], _ => rfl) (fun cdv A outer s H vs Q E hr h => ⟨_, (pss_cons (ps_if (pt_not (pt_val (pe_callD (ok_is_name T) hr (by first | decide | omega) (by rfl) T.g_is_name pass0 (pa_cons (pv 0) pa_nil)))) pss_never pss_nil)
  (pss_one (ps_ret (pv 0)))), ?_⟩)
  · obtain ⟨z, rfl, _⟩ := h
    rfl
  · obtain ⟨z, rfl, hz, k⟩ := h
    walk_at "st"
    walk_at "rd"
    refine ⟨z, rfl, sz_of (by have := hz.length; omega), ?_⟩
    rw [show okName z.cps.toList = true from hz]
    walk_at "rd"
    exact k
theorem ok__law_letters (T : Txt K mg)  : FD P w K mg base CX0 1 (He.ga K "_law_letters") [] sp__law_letters := by
  refine FD.mk0 T.f__law_letters sc__law_letters (fun vs H Q E h => ?_) (fun _ _ _ _ _ _ us hl => match us, hl with | [], _ => rfl) (fun cdv A outer s H vs Q E hr h => ⟨_, (pss_one (ps_ret pe_str)), ?_⟩)
  · obtain ⟨rfl, _⟩ := h
    rfl
  · obtain ⟨rfl, k⟩ := h
    walk_at "st"
    walk_at "rd"
    exact k
theorem ok__law_name (T : Txt K mg)  : FD P w K mg base CX0 3 (He.ga K "_law_name") ["pool"] sp__law_name := by
  refine FD.mk0 T.f__law_name sc__law_name (fun vs H Q E h => ?_) (fun _ _ _ _ _ _ us hl => match us, hl with | [_], _ => rfl) (fun cdv A outer s H vs Q E hr h => ⟨_, (pss_cons (ps_set (i := 1) sc__law_name.nd rfl (.inl rfl) (pe_op u_add (pe_callD0 (ok__law_letters T) hr (by first | decide | omega) (by rfl) T.g__law_letters pass0) pe_str))
  (pss_cons (ps_set (i := 2) sc__law_name.nd rfl (.inl rfl) (pe_ix ix_seq (pv 1) (pe_callD (ok__law_draw T) hr (by first | decide | omega) (by rfl) T.g__law_draw pass0 (pa_cons (pv 0) (pa_cons pe_int pa_nil))) (by intro _ _; rfl)))
  (pss_cons (ps_set (i := 3) sc__law_name.nd rfl (.inl rfl) (pe_callD (ok__law_draw T) hr (by first | decide | omega) (by rfl) T.g__law_draw pass0 (pa_cons (pv 0) (pa_cons pe_int pa_nil))))
  (pss_cons (ps_if (pt_cmpR (u_eq (hu64 hr)) (pe_callD (ok__law_draw T) hr (by first | decide | omega) (by rfl) T.g__law_draw pass0 (pa_cons (pv 0) (pa_cons pe_int pa_nil))) pe_int (nomark _)) (pss_one (ps_set (i := 3) sc__law_name.nd rfl (.inl rfl) (pe_callD (ok__law_draw T) hr (by first | decide | omega) (by rfl) T.g__law_draw pass0 (pa_cons (pv 0) (pa_cons pe_int pa_nil))))) pss_nil)
  (pss_cons (ps_for PassesOwn.never rfl (pi_range1 (by rfl) T.n_range (pa_cons (pv 3) pa_nil)) (pg_name (i := 4) sc__law_name.nd rfl (.inl rfl)) (pss_one (ps_set (i := 2) sc__law_name.nd rfl (.inl rfl) (pe_op u_add (pv 2) (pe_ix ix_seq (pv 1) (pe_callD (ok__law_draw T) hr (by first | decide | omega) (by rfl) T.g__law_draw pass0 (pa_cons (pv 0) (pa_cons pe_int pa_nil))) (by intro _ _; rfl))))))
  (pss_one (ps_ret (pv 2)))))))), ?_⟩)
  · obtain ⟨p, c, rfl, _⟩ := h
    rfl
  · obtain ⟨p, c, rfl, hp, k⟩ := h
    walk_at "st"
    walk_at "rd"
    refine ⟨rfl, ?_⟩
    walk_at "rd"
    refine x_addS (by decide +kernel) ?_
    walk_at "rd"
    refine use_draw hp (by decide) (by decide) fun d H1 d0 d1 hp c1 => ?_
    obtain ⟨e, he, hl⟩ := low_at' (k := d.toNat) (by omega)
    refine x_ixS (k := d.toNat) (by decide +kernel) (by omega) he ?_
    walk_at "rd"
    refine use_draw hp (by decide) (by decide) fun m1 H2 m10 m11 hp c2 => ?_
    walk_at "rd"
    refine use_draw hp (by decide) (by decide) fun b H3 _ _ hp c3 => ?_
    -- the loop, whatever more is
    have rest : ∀ (m : Int) H4, 0 ≤ m → m < 12 → Pl H4 p c → Ch [p] H H4 → tSeq (tFor (iRng1 (tCons (tVar 3) tNil)) (gName 4) (tAsg (tOp (rAdd K) (tVar 2) (tOp (rIx K) (tVar 1) (tCall sp__law_draw [] E0 (tCons (tVar 0) (tCons (tC (.int 36)) tNil))))) (gName 2))) (tRet (tVar 2))
        ⟨fun _ H' => Q .non H', Q, fun _ _ => False, fun _ _ => False⟩ [some (.ref p), some (.str (sLow ++ sDig)), some (.str ⟨#[e]⟩), some (.int m), none] H4 := fun m H4 m0 m1 hp c4 => by
      walk_at "rd"
      refine goR (fun i σ H' => ∃ z o, σ = [some (.ref p), some (.str (sLow ++ sDig)), some (.str z), some (.int m), o] ∧ IsName z ∧ z.length = i + 1 ∧ Pl H' p c ∧ Ch [p] H H') ⟨_, _, rfl, isName_one hl, rfl, hp, c4⟩ (fun i σ H' hi hI => ?_) (fun σ H' hI => ?_)
      · obtain ⟨z, o, rfl, hz, hzl, hp, cc⟩ := hI
        walk_at "rd"
        refine use_draw hp (by decide) (by decide) fun d H5 d0 d1 hp c5 => ?_
        obtain ⟨x, hx, hxl⟩ := aln_at' (k := d.toNat) (by omega)
        refine x_ixS (k := d.toNat) (by decide +kernel) (by omega) hx ?_
        refine x_addS (sz_of ?_) ?_
        · show z.length + 1 ≤ 100000
          omega
        walk_at "rd"
        refine ⟨_, _, rfl, isName_app hz (by omega) hxl, ?_, hp, cc.seq c5⟩
        rw [str_len, app_list, toList_one, List.length_append, ← str_len, hzl]
        rfl
      · obtain ⟨z, o, rfl, hz, hzl, hp, cc⟩ := hI
        walk_at "rd"
        exact k _ _ hz hp cc
    walk_at "rd"
    refine ite_by (fun _ => ?_) (fun _ => ?_)
    · walk_at "rd"
      refine use_draw hp (by decide) (by decide) fun m2 H4 m20 m21 hp c4 => ?_
      repeat (first | with_reducible exact rest _ _ m20 m21 hp (((c1.seq c2).seq c3).seq c4) | walk_at "rd1")
    · repeat (first | with_reducible exact rest _ _ m10 (by omega) hp ((c1.seq c2).seq c3) | walk_at "rd1")
end
inductive Kd where
  | plain | answer (n : Int) | jump (z : Str) | heal (n : Int) | swap (z : Str)
def Kd.d : Kd → PyData
  | .plain => .tuple [.str "plain"]
  | .answer n => .tuple [.str "answer", .int n]
  | .jump z => .tuple [.str "jump", .str z]
  | .heal n => .tuple [.str "heal", .int n]
  | .swap z => .tuple [.str "swap", .str z]
def Kd.Ok : Kd → Prop
  | .plain => True
  | .answer n => 0 ≤ n ∧ n ≤ 999
  | .jump z => IsName z
  | .heal n => 0 ≤ n ∧ n ≤ 999
  | .swap z => IsName z
def sp__law_number : Sp := fun vs H Q E => ∃ (p c : Addr), vs = [.ref p] ∧ Pl H p c ∧ ∀ (n : Int) H', 0 ≤ n → n ≤ 999 → Pl H' p c → Ch [p] H H' → Q (.int n) H'
def sp__law_kind (K : PySem.W.Frag) : Sp := fun vs H Q E => ∃ (p c : Addr), vs = [.ref p] ∧ Pl H p c ∧ ∀ (k : Kd) (q : V) H', k.Ok → Dt K H' q k.d → Pl H' p c → Ch [p] H H' → Q q H'
def sp__law_fresh : Sp := fun vs H Q E => ∃ (p c u : Addr) (us : List Str), vs = [.ref p, .ref u] ∧ Pl H p c ∧ H u = some (.lst (us.map V.str)) ∧ u ≠ p ∧ us.length ≤ 35 ∧ ∀ z H', IsName z → z ∉ us → Pl H' p c → Ch [p] H H' → Q (.str z) H'
theorem use_name {H : Hp} {Q : VK} {E : XK} {p c : Addr} (hp : Pl H p c) (q : ∀ z H', IsName z → Pl H' p c → Ch [p] H H' → Q (.str z) H') : sp__law_name [.ref p] H Q E := ⟨p, c, rfl, hp, q⟩
theorem use_number {H : Hp} {Q : VK} {E : XK} {p c : Addr} (hp : Pl H p c) (q : ∀ (n : Int) H', 0 ≤ n → n ≤ 999 → Pl H' p c → Ch [p] H H' → Q (.int n) H') : sp__law_number [.ref p] H Q E := ⟨p, c, rfl, hp, q⟩
theorem use_kind {K : PySem.W.Frag} {H : Hp} {Q : VK} {E : XK} {p c : Addr} (hp : Pl H p c) (q : ∀ (k : Kd) (q : V) H', k.Ok → Dt K H' q k.d → Pl H' p c → Ch [p] H H' → Q q H') : sp__law_kind K [.ref p] H Q E := ⟨p, c, rfl, hp, q⟩
theorem use_fresh {H : Hp} {Q : VK} {E : XK} {p c u : Addr} {us : List Str} (hp : Pl H p c) (hu : H u = some (.lst (us.map V.str))) (n : u ≠ p) (hl : us.length ≤ 35) (q : ∀ z H', IsName z → z ∉ us → Pl H' p c → Ch [p] H H' → Q (.str z) H') : sp__law_fresh [.ref p, .ref u] H Q E := ⟨p, c, u, us, rfl, hp, hu, n, hl, q⟩
theorem two_d {K : PySem.W.Frag} {H : Hp} {p : Addr} {x y : V} {d e : PyData} (h : H p = some (.tup [x, y])) (h1 : Dt K H x d) (h2 : Dt K H y e) : Dt K H (.ref p) (.tuple [d, e]) := .tup (SqT.of h) (.cons h1 (.cons h2 .nil))
section
variable {P : Program} {w : World} {K : PySem.W.Frag} {mg : Str → Option Value} {base : Heap}
theorem ok__law_number (T : Txt K mg)  : FD P w K mg base CX0 3 (He.ga K "_law_number") ["pool"] sp__law_number := by
  refine FD.mk0 T.f__law_number sc__law_number (fun vs H Q E h => ?_) (fun _ _ _ _ _ _ us hl => match us, hl with | [_], _ => rfl) (fun cdv A outer s H vs Q E hr h => ⟨_, (pss_cons (ps_if (pt_cmpR (u_eq (hu64 hr)) (pe_callD (ok__law_draw T) hr (by first | decide | omega) (by rfl) T.g__law_draw pass0 (pa_cons (pv 0) (pa_cons pe_int pa_nil))) pe_int (nomark _)) (pss_one (ps_ret (pe_callD (ok__law_draw T) hr (by first | decide | omega) (by rfl) T.g__law_draw pass0 (pa_cons (pv 0) (pa_cons pe_int pa_nil))))) pss_nil)
  (pss_one (ps_ret (pe_callD (ok__law_draw T) hr (by first | decide | omega) (by rfl) T.g__law_draw pass0 (pa_cons (pv 0) (pa_cons pe_int pa_nil)))))), ?_⟩)
  · obtain ⟨p, c, rfl, _⟩ := h
    rfl
  · obtain ⟨p, c, rfl, hp, k⟩ := h
    walk_at "st"
    walk_at "rd"
    refine use_draw hp (by decide) (by decide) fun d H1 _ _ hp c1 => ?_
    walk_at "rd"
    refine ite_by (fun _ => ?_) (fun _ => ?_)
    · walk_at "rd"
      exact use_draw hp (by decide) (by decide) fun n H2 n0 n1 hp c2 => k n H2 n0 (by omega) hp (c1.seq c2)
    · walk_at "rd"
      exact use_draw hp (by decide) (by decide) fun n H2 n0 n1 hp c2 => k n H2 n0 (by omega) hp (c1.seq c2)
theorem ok__law_kind (T : Txt K mg)  : FD P w K mg base CX0 4 (He.ga K "_law_kind") ["pool"] (sp__law_kind K) := by
  refine FD.mk0 T.f__law_kind sc__law_kind (fun vs H Q E h => ?_) (fun _ _ _ _ _ _ us hl => match us, hl with | [_], _ => rfl) (fun cdv A outer s H vs Q E hr h => ⟨_, (pss_cons (ps_set (i := 1) sc__law_kind.nd rfl (.inl rfl) (pe_callD (ok__law_draw T) hr (by first | decide | omega) (by rfl) T.g__law_draw pass0 (pa_cons (pv 0) (pa_cons pe_int pa_nil))))
  (pss_cons (ps_if (pt_cmpR (u_eq (hu64 hr)) (pv 1) pe_int (nomark _)) (pss_one (ps_ret (pe_tup (pa_cons pe_str (pa_cons (pe_callD (ok__law_number T) hr (by first | decide | omega) (by rfl) T.g__law_number pass0 (pa_cons (pv 0) pa_nil)) pa_nil))))) pss_nil)
  (pss_cons (ps_if (pt_cmpR (u_eq (hu64 hr)) (pv 1) pe_int (nomark _)) (pss_one (ps_ret (pe_tup (pa_cons pe_str (pa_cons (pe_callD (ok__law_name T) hr (by first | decide | omega) (by rfl) T.g__law_name pass0 (pa_cons (pv 0) pa_nil)) pa_nil))))) pss_nil)
  (pss_cons (ps_if (PW.pt (pw_or (pt_cmpR (u_eq (hu64 hr)) (pv 1) pe_int (nomark _)) (pw_or1 (pt_cmpR (u_eq (hu64 hr)) (pv 1) pe_int (nomark _))))) (pss_one (ps_ret (pe_tup (pa_cons pe_str (pa_cons (pe_callD (ok__law_number T) hr (by first | decide | omega) (by rfl) T.g__law_number pass0 (pa_cons (pv 0) pa_nil)) pa_nil))))) pss_nil)
  (pss_cons (ps_if (pt_cmpR (u_eq (hu64 hr)) (pv 1) pe_int (nomark _)) (pss_one (ps_ret (pe_tup (pa_cons pe_str (pa_cons (pe_callD (ok__law_name T) hr (by first | decide | omega) (by rfl) T.g__law_name pass0 (pa_cons (pv 0) pa_nil)) pa_nil))))) pss_nil)
  (pss_one (ps_ret (pe_tup (pa_cons pe_str pa_nil))))))))), ?_⟩)
  · obtain ⟨p, c, rfl, _⟩ := h
    rfl
  · obtain ⟨p, c, rfl, hp, k⟩ := h
    walk_at "st"
    walk_at "rd"
    refine use_draw hp (by decide) (by decide) fun d H1 d0 d1 hp c1 => ?_
    walk_at "rd"
    refine ite_by (fun _ => ?_) (fun _ => ?_)
    · walk_at "rd"
      refine use_number hp fun n H2 n0 n1 hp c2 => ?_
      walk_at "rd"
      refine nT fun q H3 hq h3 c3 => ?_
      exact k (.answer n) _ H3 ⟨n0, n1⟩ (two_d h3 (.str _) (.int _)) (hp.ch0 c3) ((c1.seq c2).nilR c3)
    walk_at "rd"
    refine ite_by (fun _ => ?_) (fun _ => ?_)
    · walk_at "rd"
      refine use_name hp fun z H2 hz hp c2 => ?_
      walk_at "rd"
      refine nT fun q H3 hq h3 c3 => ?_
      exact k (.jump z) _ H3 hz (two_d h3 (.str _) (.str _)) (hp.ch0 c3) ((c1.seq c2).nilR c3)
    walk_at "rd"
    have heal : ∀ Q' : VK, (∀ n q H3, 0 ≤ n → n ≤ 999 → Dt K H3 q (Kd.heal n).d → Pl H3 p c → Ch [p] H H3 → Q' q H3) → tTup (tCons (tC (.str "heal")) (tCons (tCall sp__law_number [] E0 (tCons (tVar 0) tNil)) tNil)) [some (.ref p), some (.int d)] H1 Q' := fun Q' kk => by
      walk_at "rd"
      refine use_number hp fun n H2 n0 n1 hp c2 => ?_
      walk_at "rd"
      refine nT fun q H3 hq h3 c3 => ?_
      exact kk n _ H3 n0 n1 (two_d h3 (.str _) (.int _)) (hp.ch0 c3) ((c1.seq c2).nilR c3)
    refine ite_by (fun _ => ?_) (fun _ => ?_)
    · walk_at "rd1"
      walk_at "rd1"
      exact heal _ fun n q H3 n0 n1 hd hp cc => k (.heal n) q H3 ⟨n0, n1⟩ hd hp cc
    walk_at "rd"
    refine ite_by (fun _ => ?_) (fun _ => ?_)
    · walk_at "rd1"
      exact heal _ fun n q H3 n0 n1 hd hp cc => k (.heal n) q H3 ⟨n0, n1⟩ hd hp cc
    walk_at "rd"
    refine ite_by (fun _ => ?_) (fun _ => ?_)
    · walk_at "rd"
      refine use_name hp fun z H2 hz hp c2 => ?_
      walk_at "rd"
      refine nT fun q H3 hq h3 c3 => ?_
      exact k (.swap z) _ H3 hz (two_d h3 (.str _) (.str _)) (hp.ch0 c3) ((c1.seq c2).nilR c3)
    walk_at "rd"
    refine nT fun q H3 hq h3 c3 => ?_
    exact k .plain _ H3 trivial (.tup (SqT.of h3) (.cons (.str _) .nil)) (hp.ch0 c3) (c1.nilR c3)
theorem ok__law_fresh (T : Txt K mg)  : FD P w K mg base CX0 4 (He.ga K "_law_fresh") ["pool", "used"] sp__law_fresh := by
  refine FD.mk0 T.f__law_fresh sc__law_fresh (fun vs H Q E h => ?_) (fun _ _ _ _ _ _ us hl => match us, hl with | [_, _], _ => rfl) (fun cdv A outer s H vs Q E hr h => ⟨_, (pss_cons (ps_set (i := 2) sc__law_fresh.nd rfl (.inl rfl) (pe_callD (ok__law_name T) hr (by first | decide | omega) (by rfl) T.g__law_name pass0 (pa_cons (pv 0) pa_nil)))
  (pss_cons (ps_if (pt_cmpR u_notin (pv 2) (pv 1) (by rfl)) (pss_one (ps_ret (pv 2))) pss_nil)
  (pss_cons (ps_for PassesOwn.never rfl (pi_str (pe_op u_add (pe_callD0 (ok__law_letters T) hr (by first | decide | omega) (by rfl) T.g__law_letters pass0) pe_str)) (pg_name (i := 3) sc__law_fresh.nd rfl (.inl rfl)) (pss_one (ps_if (pt_cmpR u_notin (pe_op u_add (pe_slice u_slice (pv 2) po_none (po_some pe_int)) (pv 3)) (pv 1) (by rfl)) (pss_one (ps_ret (pe_op u_add (pe_slice u_slice (pv 2) po_none (po_some pe_int)) (pv 3)))) pss_nil)))
  (pss_one (ps_ret (pv 2)))))), ?_⟩)
  · obtain ⟨p, c, u, us, rfl, _⟩ := h
    rfl
  · obtain ⟨p, c, u, us, rfl, hp, hu, nu, hl, k⟩ := h
    walk_at "st"
    walk_at "rd"
    refine use_name hp fun z H1 hz hp c1 => ?_
    have hu1 := c1.get1 hu nu
    walk_at "rd"
    refine x_notInL (SqL.of hu1) rfl (flat_str us) ?_
    rw [inV_str]
    walk_at "rd"
    refine ite_nby (fun h1 => ?_) (fun h1 => ?_)
    rotate_left 1
    · walk_at "rd"
      exact k z H1 hz h1 hp c1
    walk_at "rd"
    refine ⟨rfl, ?_⟩
    walk_at "rd"
    refine x_addS (by decide +kernel) ?_
    walk_at "rd"
    obtain ⟨ny, ly⟩ := isName_take hz (cut11 z)
    refine goS (sLow ++ sDig) (fun i σ H' => H' = H1 ∧ ∃ o, σ = [some (.ref p), some (.ref u), some (.str z), o] ∧ ∀ x ∈ (sLow ++ sDig : Str).cps.toList.take i, (cutS z none (some 11) ++ ⟨#[x]⟩) ∈ us) ⟨rfl, _, rfl, fun x hx => by simp at hx⟩ (fun i x σ H' hx hI => ?_) (fun σ H' hI => ?_)
    · obtain ⟨rfl, o, rfl, ha⟩ := hI
      have hxa : isAln x = true := by
        have := List.mem_of_getElem? hx
        rw [sAln_eq] at this
        exact mem_aln.mp this
      walk_at "rd"
      refine x_slS (sz_of (by have := hz.length; omega)) ?_
      walk_at "rd"
      refine x_addS (sz_of (by show (cutS z none (some 11)).length + 1 ≤ 100000; omega)) ?_
      walk_at "rd"
      refine x_notInL (SqL.of hu1) rfl (flat_str us) ?_
      rw [inV_str]
      walk_at "rd"
      refine ite_nby (fun h2 => ?_) (fun h2 => ?_)
      · walk_at "rd"
        refine ⟨rfl, _, rfl, fun y hy => ?_⟩
        rw [List.take_add_one, hx] at hy
        rcases List.mem_append.mp hy with q | q
        · exact ha y q
        · have e : y = x := by simpa using q
          rw [e]
          exact h2
      · walk_at "rd"
        refine x_slS (sz_of (by have := hz.length; omega)) ?_
        walk_at "rd"
        refine x_addS (sz_of (by show (cutS z none (some 11)).length + 1 ≤ 100000; omega)) ?_
        exact k _ _ (isName_app ny (by omega) hxa) h2 hp c1
    · obtain ⟨rfl, o, rfl, ha⟩ := hI
      rw [List.take_length] at ha
      exfalso
      have q := len_of_sub (l := (sLow ++ sDig : Str).cps.toList.map fun x => cutS z none (some 11) ++ ⟨#[x]⟩) (m := us) ?_ fun y hy => ?_
      · rw [List.length_map, sAln_eq, aln_list] at q
        simp at q
        omega
      · exact nodup_map (fun x y e => app_one_inj e) aln_nodup
      · obtain ⟨x, hx, rfl⟩ := List.mem_map.mp hy
        exact ha x hx
end
theorem strOk_name {z : Str} (h : IsName z) : PyData.strOk z = true := by
  obtain ⟨c, cs, e, h1, h2, h3⟩ := h.inv
  unfold PyData.strOk
  rw [← Array.all_toList, e]
  refine List.all_eq_true.mpr fun d hd => ?_
  have q := h3 d hd
  unfold isAln isLow at q
  rw [Bool.or_eq_true, decide_eq_true_eq, decide_eq_true_eq] at q
  rw [decide_eq_true_eq]
  omega
theorem kd_shaped (k : Kd) (h : k.Ok) : SeqAt.shaped k.d = true := by
  cases k <;> simp [Kd.d, SeqAt.shaped, PyData.canLay0, PyData.canLayAll0, PyData.depth, PyData.depthAll]
  all_goals first | decide +kernel | (refine ⟨by decide +kernel, ?_⟩; exact strOk_name h)
theorem kd_plain (k : Kd) (e : PyData.eqv k.d (.tuple [.str "plain"]) = true) : k = .plain := by
  cases k <;> simp [Kd.d, PyData.eqv, PyData.eqvAll] at e ⊢
theorem kd_plain2 : PyData.eqv Kd.plain.d (.tuple [.str "plain"]) = true := by
  simp [Kd.d, PyData.eqv, PyData.eqvAll]
theorem kd_nplain (k : Kd) (h : k ≠ .plain) : PyData.eqv k.d (.tuple [.str "plain"]) = false := by
  cases e : PyData.eqv k.d (.tuple [.str "plain"]) with
  | false => rfl
  | true => exact absurd (kd_plain k e) h
theorem plain_shaped : SeqAt.shaped (.tuple [.str "plain"]) = true := kd_shaped .plain trivial
/-- a kind with a second entry: numbered or named -/
theorem kd_two {K : PySem.W.Frag} {H : Hp} {v : V} {k : Kd} (h : k ≠ .plain) (ok : k.Ok) (hd : Dt K H v k.d) :
    ∃ (a : Addr) (g : Str), v = .ref a ∧ ((g = "answer" ∨ g = "heal") ∧ (∃ n : Int, SqT K H a [.str g, .int n] ∧ 0 ≤ n ∧ n ≤ 999) ∨ (g = "jump" ∨ g = "swap") ∧ ∃ z, SqT K H a [.str g, .str z] ∧ IsName z) := by
  cases k with
  | plain => exact absurd rfl h
  | answer n =>
    cases hd with
    | tup hs ha =>
      cases ha with
      | cons a1 a2 =>
        cases a1
        cases a2 with
        | cons a3 a4 =>
          cases a3
          cases a4
          exact ⟨_, _, rfl, .inl ⟨.inl rfl, n, hs, ok.1, ok.2⟩⟩
  | heal n =>
    cases hd with
    | tup hs ha =>
      cases ha with
      | cons a1 a2 =>
        cases a1
        cases a2 with
        | cons a3 a4 =>
          cases a3
          cases a4
          exact ⟨_, _, rfl, .inl ⟨.inr rfl, n, hs, ok.1, ok.2⟩⟩
  | jump z =>
    cases hd with
    | tup hs ha =>
      cases ha with
      | cons a1 a2 =>
        cases a1
        cases a2 with
        | cons a3 a4 =>
          cases a3
          cases a4
          exact ⟨_, _, rfl, .inr ⟨.inl rfl, z, hs, ok⟩⟩
  | swap z =>
    cases hd with
    | tup hs ha =>
      cases ha with
      | cons a1 a2 =>
        cases a1
        cases a2 with
        | cons a3 a4 =>
          cases a3
          cases a4
          exact ⟨_, _, rfl, .inr ⟨.inr rfl, z, hs, ok⟩⟩
theorem hu0 {A : Around} {k : Nat} (hr : Room k A) : A.units < cLine := Nat.lt_of_le_of_lt (Nat.le_add_right _ _) hr.units
/-- a book: its two dicts -/
def BkA (K : PySem.W.Frag) (H : Hp) (b dx d1 d2 : Addr) (kvs svs : List (Key × V)) : Prop := H b = some (.ins (He.ga K "Book") dx [("_kinds", .ref d1), ("_sizes", .ref d2)]) ∧ H d1 = some (.dK kvs) ∧ H d2 = some (.dK svs) ∧ d1 ≠ d2
def Bk (K : PySem.W.Frag) (H : Hp) (b : Addr) (kvs svs : List (Key × V)) : Prop := ∃ dx d1 d2, H b = some (.ins (He.ga K "Book") dx [("_kinds", .ref d1), ("_sizes", .ref d2)]) ∧ H d1 = some (.dK kvs) ∧ H d2 = some (.dK svs) ∧ d1 ≠ d2
/-- not a part of a book -/
def NB : HO → Bool
  | .dK _ => false
  | .ins _ _ ((f, _) :: _) => decide (f ≠ "_kinds")
  | _ => true
theorem Bk.ch {K : PySem.W.Frag} {H H' : Hp} {S : List Addr} {b : Addr} {kvs svs : List (Key × V)} (h : Bk K H b kvs svs) (c : Ch S H H') (n : ∀ x ∈ S, ∀ o, H x = some o → NB o = true) : Bk K H' b kvs svs := by
  obtain ⟨dx, d1, d2, h1, h2, h3, ne⟩ := h
  have off : ∀ {x : Addr} {o : HO}, H x = some o → NB o = false → x ∉ S := fun {x o} e q m => by
    rw [n x m o e] at q
    cases q
  exact ⟨dx, d1, d2, c.st _ _ (off h1 (by simp [NB])) h1, c.st _ _ (off h2 rfl) h2, c.st _ _ (off h3 rfl) h3, ne⟩
theorem Bk.ch0 {K : PySem.W.Frag} {H H' : Hp} {b : Addr} {kvs svs : List (Key × V)} (h : Bk K H b kvs svs) (c : Ch [] H H') : Bk K H' b kvs svs := h.ch c fun x m => by cases m
def IsD (K : PySem.W.Frag) (H : Hp) (v : V) (kvs : List (Key × V)) : Prop := (∃ T, v = .ref T ∧ EmptyT K T ∧ kvs = []) ∨ ∃ a, v = .ref a ∧ H a = some (.dK kvs)
theorem use_dict {K : PySem.W.Frag} {H : Hp} {Q : VK} {v : V} {kvs : List (Key × V)} (h : IsD K H v kvs) (q : ∀ p H', H p = none → H' p = some (.dK kvs) → Ch [] H H' → Q (.ref p) H') : rDictU K [v] H Q := by
  rcases h with ⟨T, rfl, e, rfl⟩ | ⟨a, rfl, e⟩
  · exact .inl ⟨T, rfl, e, q⟩
  · exact .inr ⟨a, kvs, rfl, e, q⟩
theorem IsD.ch {K : PySem.W.Frag} {H H' : Hp} {S : List Addr} {v : V} {kvs : List (Key × V)} (h : IsD K H v kvs) (c : Ch S H H') (n : ∀ x ∈ S, ∀ o, H x = some o → NB o = true) : IsD K H' v kvs := by
  rcases h with ⟨T, rfl, e, rfl⟩ | ⟨a, rfl, e⟩
  · exact .inl ⟨T, rfl, e, rfl⟩
  · exact .inr ⟨a, rfl, c.st _ _ (fun m => by have := n a m _ e; cases this) e⟩
def sp_check_kind (K : PySem.W.Frag) : Sp := fun vs H Q E => ∃ (v : V) (k : Kd), vs = [v] ∧ k.Ok ∧ Dt K H v k.d ∧ ∀ H', Ch [] H H' → Q v H'
def sp_Book___init__ (K : PySem.W.Frag) : Sp := fun vs H Q E => ∃ (x dx : Addr) (k s : V) (kvs svs : List (Key × V)), vs = [.ref x, k, s] ∧ H x = some (.ins (He.ga K "Book") dx []) ∧ IsD K H k kvs ∧ IsD K H s svs ∧ ∀ H' d1 d2, H d1 = none → H d2 = none → BkA K H' x dx d1 d2 kvs svs → Ch [x] H H' → Q .non H'
def sp_Book___contains__ (K : PySem.W.Frag) : Sp := fun vs H Q E => ∃ (b : Addr) (z : Str) (kvs svs : List (Key × V)), vs = [.ref b, .str z] ∧ Bk K H b kvs svs ∧ Q (.bl (valV kvs (.inr z)).isSome) H
def sp_Book___getitem__ (K : PySem.W.Frag) : Sp := fun vs H Q E => ∃ (b : Addr) (z : Str) (v : V) (kvs svs : List (Key × V)), vs = [.ref b, .str z] ∧ Bk K H b kvs svs ∧ valV kvs (.inr z) = some v ∧ Q v H
def sp_Book___setitem__ (K : PySem.W.Frag) : Sp := fun vs H Q E => ∃ (b dx d1 d2 : Addr) (z : Str) (v : V) (k : Kd) (kvs svs : List (Key × V)), vs = [.ref b, .str z, v] ∧ IsName z ∧ k.Ok ∧ Dt K H v k.d ∧ BkA K H b dx d1 d2 kvs svs ∧ valV kvs (.inr z) = none ∧ kvs.length < 12 ∧
  ∀ H', BkA K H' b dx d1 d2 (kvs ++ [(.inr z, v)]) svs → Ch [d1] H H' → Q .non H'
def sp_Book_add_cell (K : PySem.W.Frag) : Sp := fun vs H Q E => ∃ (b dx d1 d2 : Addr) (z : Str) (n : Int) (kvs svs : List (Key × V)), vs = [.ref b, .str z, .int n] ∧ IsName z ∧ (n = 2 ∨ n = 3) ∧ BkA K H b dx d1 d2 kvs svs ∧ valV svs (.inr z) = none ∧ svs.length < 2 ∧
  ∀ H', BkA K H' b dx d1 d2 kvs (svs ++ [(.inr z, .int n)]) → Ch [d2] H H' → Q .non H'
def sp_Book___eq__ (K : PySem.W.Frag) : Sp := fun vs H Q E => ∃ (a b : Addr) (kvs svs : List (Key × V)), vs = [.ref a, .ref b] ∧ Bk K H a kvs svs ∧ Bk K H b kvs svs ∧ (kvs.map (·.1)).Nodup ∧ (∀ p ∈ kvs, flatR p.2 = true) ∧ (svs.map (·.1)).Nodup ∧ (∀ p ∈ svs, flatR p.2 = true) ∧ Q (.bl true) H
section
variable {P : Program} {w : World} {K : PySem.W.Frag} {mg : Str → Option Value} {base : Heap}
theorem use_cname {H : Hp} {Q : VK} {E : XK} {z : Str} (h : IsName z) (q : Q (.str z) H) : sp_check_name [.str z] H Q E := ⟨z, rfl, h, q⟩
theorem use_cnum {H : Hp} {Q : VK} {E : XK} {n : Int} (h0 : 0 ≤ n) (h1 : n ≤ 999) (q : Q (.int n) H) : sp_check_number [.int n] H Q E := ⟨n, rfl, h0, h1, q⟩
theorem ok_check_kind (T : Txt K mg)  : FD P w K mg base CX0 3 (He.ga K "check_kind") ["kind"] (sp_check_kind K) := by
  refine FD.mk0 T.f_check_kind sc_check_kind (fun vs H Q E h => ?_) (fun _ _ _ _ _ _ us hl => match us, hl with | [_], _ => rfl) (fun cdv A outer s H vs Q E hr h => ⟨_, (pss_cons (ps_if (pt_cmpR (u_eq (hu64 hr)) (pv 0) (pe_tup (pa_cons pe_str pa_nil)) (nomark _)) (pss_one (ps_ret (pv 0))) pss_nil)
  (pss_cons (ps_if (PW.pt (pw_or (pt_cmpR (u_ne (hu64 hr)) (pe_callB c_len (by rfl) T.n_len bb_len (pa_cons (pv 0) pa_nil)) pe_int (nomark _)) (pw_or1 (PW.pt (pw_and (pt_cmpR u_notin (pe_ix ix_seq (pv 0) pe_int (by intro _ _; rfl)) (pe_gc (by rfl) T.v_NUMBERED) (by rfl)) (pw_and1 (pt_cmpR u_notin (pe_ix ix_seq (pv 0) pe_int (by intro _ _; rfl)) (pe_gc (by rfl) T.v_NAMED) (by rfl)))))))) pss_never pss_nil)
  (pss_cons (ps_if (pt_cmpR u_in (pe_ix ix_seq (pv 0) pe_int (by intro _ _; rfl)) (pe_gc (by rfl) T.v_NUMBERED) (by rfl)) (pss_one (ps_expr (pe_callD (ok_check_number T) hr (by first | decide | omega) (by rfl) T.g_check_number pass0 (pa_cons (pe_ix ix_seq (pv 0) pe_int (by intro _ _; rfl)) pa_nil)))) (pss_one (ps_expr (pe_callD (ok_check_name T) hr (by first | decide | omega) (by rfl) T.g_check_name pass0 (pa_cons (pe_ix ix_seq (pv 0) pe_int (by intro _ _; rfl)) pa_nil)))))
  (pss_one (ps_ret (pv 0)))))), ?_⟩)
  · obtain ⟨v, k, rfl, _⟩ := h
    rfl
  · obtain ⟨v, k, rfl, ok, hd, kk⟩ := h
    walk_at "st"
    walk_at "rd"
    refine nT fun q H1 hq h1 c1 => ?_
    have hd1 := hd.ch c1
    refine x_eqDat (e := .tuple [.str "plain"]) hd1 (.tup (SqT.of h1) (.cons (.str _) .nil)) (kd_shaped k ok) plain_shaped ?_
    walk_at "rd"
    by_cases hp : k = .plain
    · subst hp
      rw [kd_plain2]
      walk_at "rd"
      exact kk _ c1
    rw [kd_nplain k hp]
    walk_at "rd"
    obtain ⟨a, g, rfl, q⟩ := kd_two hp ok hd1
    have hN := T.q_NUMBERED H1
    have hM := T.q_NAMED H1
    rcases q with ⟨hg, n, hs, n0, n1⟩ | ⟨hg, z, hs, hz⟩
    · walk_at "rd"
      rcases hg with rfl | rfl
      · refine x_notInT hN rfl rfl ?_
        rw [show inV (.str "answer") [.str "answer", .str "heal"] = true from rfl]
        walk_at "rd"
        refine x_inT hN rfl rfl ?_
        rw [show inV (.str "answer") [.str "answer", .str "heal"] = true from rfl]
        walk_at "rd"
        refine use_cnum n0 n1 ?_
        walk_at "rd"
        exact kk _ c1
      · refine x_notInT hN rfl rfl ?_
        rw [show inV (.str "heal") [.str "answer", .str "heal"] = true from rfl]
        walk_at "rd"
        refine x_inT hN rfl rfl ?_
        rw [show inV (.str "heal") [.str "answer", .str "heal"] = true from rfl]
        walk_at "rd"
        refine use_cnum n0 n1 ?_
        walk_at "rd"
        exact kk _ c1
    · walk_at "rd"
      rcases hg with rfl | rfl
      · refine x_notInT hN rfl rfl ?_
        rw [show inV (.str "jump") [.str "answer", .str "heal"] = false from rfl]
        walk_at "rd"
        refine x_notInT hM rfl rfl ?_
        rw [show inV (.str "jump") [.str "jump", .str "swap"] = true from rfl]
        walk_at "rd"
        refine x_inT hN rfl rfl ?_
        rw [show inV (.str "jump") [.str "answer", .str "heal"] = false from rfl]
        walk_at "rd"
        refine use_cname hz ?_
        walk_at "rd"
        exact kk _ c1
      · refine x_notInT hN rfl rfl ?_
        rw [show inV (.str "swap") [.str "answer", .str "heal"] = false from rfl]
        walk_at "rd"
        refine x_notInT hM rfl rfl ?_
        rw [show inV (.str "swap") [.str "jump", .str "swap"] = true from rfl]
        walk_at "rd"
        refine x_inT hN rfl rfl ?_
        rw [show inV (.str "swap") [.str "answer", .str "heal"] = false from rfl]
        walk_at "rd"
        refine use_cname hz ?_
        walk_at "rd"
        exact kk _ c1
end
section
variable {P : Program} {w : World} {K : PySem.W.Frag} {mg : Str → Option Value} {base : Heap}
theorem okI_Book (T : Txt K mg) : ∃ fd, FunD K "__init__" "Book.__init__" (defArgs s_Book___init__) (defBody s_Book___init__) (defScope s_Book___init__) [.ref (He.dflAt ("Book", some "__init__") 0 K), .ref (He.dflAt ("Book", some "__init__") 1 K)] [] (He.ma K (He.ga K "Book") "__init__") fd ∧
    FnOk P w K mg base CX0 2 (He.ma K (He.ga K "Book") "__init__") fd ["self", "kinds", "sizes"] (sp_Book___init__ K) := by
  obtain ⟨fd, F⟩ := T.f_Book___init__
  refine ⟨fd, F, F.ok sc_Book___init__ (fun vs H Q E h => ?_) fun cdv A outer s H vs Q E hr h => ?_⟩
  · obtain ⟨x, dx, k, s, kvs, svs, rfl, _⟩ := h
    rfl
  have key : ∃ t, PSs (cxOf CX0 P w K mg base N_Book___init__ "Book.__init__" (defScope s_Book___init__) (He.ma K (He.ga K "Book") "__init__") cdv A outer s H E).nox (defBody s_Book___init__) t ∧ t ⟨fun _ H' => Q .non H', Q, fun _ _ => False, fun _ _ => False⟩ (start N_Book___init__ vs) H := by
    refine ⟨_, (pss_cons (ps_fld (pv 0) (pe_callTy (c_dict rfl) (by rfl) T.n_dict bb_dict (pa_cons (pv 1) pa_nil)) rfl)
  (pss_one (ps_fld (pv 0) (pe_callTy (c_dict rfl) (by rfl) T.n_dict bb_dict (pa_cons (pv 2) pa_nil)) rfl))), ?_⟩
    obtain ⟨x, dx, k, s, kvs, svs, rfl, hx, h1, h2, kk⟩ := h
    walk_at "st"
    walk_at "rd"
    refine use_dict h1 fun d1 H1 hd1 hk c1 => ?_
    have hx1 := c1.get0 hx
    walk_at "rd"
    refine x_sfldB hx1 T.c_Book T.na_Book__kinds (by decide) fun H2 hx2 c2 => ?_
    have hk2 := c2.get1 hk (ne_of hk hx1 (by simp))
    have h2' := (h2.ch c1 fun x m => by cases m).ch c2 fun y m o e => by
      rw [List.mem_singleton.mp m, hx1] at e
      cases e
      rfl
    walk_at "rd"
    refine use_dict h2' fun d2 H3 hd2 hs c3 => ?_
    have hx3 := c3.get0 hx2
    have hk3 := c3.get0 hk2
    walk_at "rd"
    refine x_sfldB hx3 T.c_Book T.na_Book__sizes (by simp [putF]) fun H4 hx4 c4 => ?_
    walk_at "rd"
    refine kk H4 d1 d2 hd1 (c1.free0 (c2.free hd2 (by simpa using Ne.symm (ne_of_none hx2 hd2)))) ⟨hx4, c4.get1 hk3 (ne_of hk3 hx3 (by simp)), c4.get1 hs (ne_of hs hx3 (by simp)), fun e => ?_⟩ (c1.nilL (c2.seq (c3.nilL c4)))
    rw [e, hd2] at hk2
    cases hk2
  obtain ⟨t, h1, h2⟩ := key
  exact ⟨t, h1.nox, h2⟩
theorem ok_Book___contains__ (T : Txt K mg)  : FD P w K mg base CX0 2 (He.ma K (He.ga K "Book") "__contains__") ["self", "name"] (sp_Book___contains__ K) := by
  refine FD.mk0 T.f_Book___contains__ sc_Book___contains__ (fun vs H Q E h => ?_) (fun _ _ _ _ _ _ us hl => match us, hl with | [_, _], _ => rfl) (fun cdv A outer s H vs Q E hr h => ⟨_, (pss_one (ps_ret (pe_cmpR (u_inD (hu_of hr)) (pv 1) (pe_fld (pv 0) (by rfl)) (by rfl)))), ?_⟩)
  · obtain ⟨b, z, kvs, svs, rfl, _⟩ := h
    rfl
  · obtain ⟨b, z, kvs, svs, rfl, ⟨dx, d1, d2, h1, h2, h3, ne⟩, kk⟩ := h
    walk_at "st"
    walk_at "rd"
    refine x_fldB h1 T.c_Book T.na_Book__kinds rfl ?_
    exact x_inD h2 kk
theorem ok_Book___getitem__ (T : Txt K mg)  : FD P w K mg base CX0 2 (He.ma K (He.ga K "Book") "__getitem__") ["self", "name"] (sp_Book___getitem__ K) := by
  refine FD.mk0 T.f_Book___getitem__ sc_Book___getitem__ (fun vs H Q E h => ?_) (fun _ _ _ _ _ _ us hl => match us, hl with | [_, _], _ => rfl) (fun cdv A outer s H vs Q E hr h => ⟨_, (pss_cons (ps_if (pt_cmpR (u_notinD (hu_of hr)) (pv 1) (pe_fld (pv 0) (by rfl)) (by rfl)) pss_never pss_nil)
  (pss_one (ps_ret (pe_dget (hu_of hr) (pe_fld (pv 0) rfl) (pv 1) (fun _ _ => rfl))))), ?_⟩)
  · obtain ⟨b, z, v, kvs, svs, rfl, _⟩ := h
    rfl
  · obtain ⟨b, z, v, kvs, svs, rfl, ⟨dx, d1, d2, h1, h2, h3, ne⟩, hv, kk⟩ := h
    walk_at "st"
    walk_at "rd"
    refine x_fldB h1 T.c_Book T.na_Book__kinds rfl ?_
    refine x_notInDy h2 hv ?_
    walk_at "rd"
    refine x_fldB h1 T.c_Book T.na_Book__kinds rfl ?_
    walk_at "rd"
    exact x_dget h2 hv kk
theorem ok_Book___setitem__ (T : Txt K mg)  : FD P w K mg base CX0 4 (He.ma K (He.ga K "Book") "__setitem__") ["self", "name", "kind"] (sp_Book___setitem__ K) := by
  refine FD.mk0 T.f_Book___setitem__ sc_Book___setitem__ (fun vs H Q E h => ?_) (fun _ _ _ _ _ _ us hl => match us, hl with | [_, _, _], _ => rfl) (fun cdv A outer s H vs Q E hr h => ⟨_, (pss_cons (ps_expr (pe_callD (ok_check_name T) hr (by first | decide | omega) (by rfl) T.g_check_name pass0 (pa_cons (pv 1) pa_nil)))
  (pss_cons (ps_expr (pe_callD (ok_check_kind T) hr (by first | decide | omega) (by rfl) T.g_check_kind pass0 (pa_cons (pv 2) pa_nil)))
  (pss_cons (ps_if (PW.pt (pw_and (pt_cmpR (u_notinD (hu_of hr)) (pv 1) (pe_fld (pv 0) (by rfl)) (by rfl)) (pw_and1 (pt_cmpR (u_eq (hu64 hr)) (pe_callB c_lenD (by rfl) T.n_len bb_len (pa_cons (pe_fld (pv 0) rfl) pa_nil)) (pe_cval (pe_glob (v := .ref (He.ga K "Book")) (by rfl) T.g_Book rfl)) (nomark _))))) pss_never pss_nil)
  (pss_one (ps_dput (hu_of hr) (pe_fld (pv 0) (by rfl)) (pv 1) (pv 2) rfl))))), ?_⟩)
  · obtain ⟨b, dx, d1, d2, z, v, k, kvs, svs, rfl, _⟩ := h
    rfl
  · obtain ⟨b, dx, d1, d2, z, v, k, kvs, svs, rfl, hz, ok, hd, ⟨h1, h2, h3, ne⟩, hn, hl, kk⟩ := h
    walk_at "st"
    walk_at "rd"
    refine use_cname hz ?_
    walk_at "rd"
    refine ⟨v, k, rfl, ok, hd, fun H1 c1 => ?_⟩
    have h1' := c1.get0 h1
    have h2' := c1.get0 h2
    have h3' := c1.get0 h3
    walk_at "rd"
    refine x_fldB h1' T.c_Book T.na_Book__kinds rfl ?_
    refine x_notInDn h2' hn ?_
    walk_at "rd"
    refine x_fldB h1' T.c_Book T.na_Book__kinds rfl ?_
    walk_at "rd"
    refine ⟨d1, kvs, rfl, h2', ?_⟩
    walk_at "rd"
    refine x_cval T.cv_Book_STEPS ?_
    walk_at "rd"
    refine x_fldB h1' T.c_Book T.na_Book__kinds rfl ?_
    walk_at "rd"
    refine x_dput h2' (by have := sizeLine_eq; omega) hn fun H2 h2'' c2 => ?_
    walk_at "rd"
    exact kk H2 ⟨c2.get1 h1' (ne_of h1' h2' (by simp)), h2'', c2.get1 h3' (Ne.symm ne), ne⟩ (c1.nilL c2)
theorem ok_Book_add_cell (T : Txt K mg)  : FD P w K mg base CX0 4 (He.ma K (He.ga K "Book") "add_cell") ["self", "name", "size"] (sp_Book_add_cell K) := by
  refine FD.mk0 T.f_Book_add_cell sc_Book_add_cell (fun vs H Q E h => ?_) (fun _ _ _ _ _ _ us hl => match us, hl with | [_, _, _], _ => rfl) (fun cdv A outer s H vs Q E hr h => ⟨_, (pss_cons (ps_expr (pe_callD (ok_check_name T) hr (by first | decide | omega) (by rfl) T.g_check_name pass0 (pa_cons (pv 1) pa_nil)))
  (pss_cons (ps_if (pt_cmpR u_notin (pv 2) (pe_tup (pa_cons pe_int (pa_cons pe_int pa_nil))) (by rfl)) pss_never pss_nil)
  (pss_cons (ps_if (pt_cmpR (u_inD (hu_of hr)) (pv 1) (pe_fld (pv 0) (by rfl)) (by rfl)) pss_never pss_nil)
  (pss_cons (ps_if (pt_cmpR (u_eq (hu64 hr)) (pe_callB c_lenD (by rfl) T.n_len bb_len (pa_cons (pe_fld (pv 0) rfl) pa_nil)) (pe_cval (pe_glob (v := .ref (He.ga K "Book")) (by rfl) T.g_Book rfl)) (nomark _)) pss_never pss_nil)
  (pss_one (ps_dput (hu_of hr) (pe_fld (pv 0) (by rfl)) (pv 1) (pv 2) rfl)))))), ?_⟩)
  · obtain ⟨b, dx, d1, d2, z, n, kvs, svs, rfl, _⟩ := h
    rfl
  · obtain ⟨b, dx, d1, d2, z, n, kvs, svs, rfl, hz, hn2, ⟨h1, h2, h3, ne⟩, hn, hl, kk⟩ := h
    walk_at "st"
    walk_at "rd"
    refine use_cname hz ?_
    walk_at "rd"
    refine nT fun q H1 hq hqt c1 => ?_
    have h1' := c1.get0 h1
    have h2' := c1.get0 h2
    have h3' := c1.get0 h3
    refine x_notInT (SqT.of hqt) rfl rfl ?_
    rw [show inV (.int n) [.int 2, .int 3] = true from by rcases hn2 with rfl | rfl <;> rfl]
    walk_at "rd"
    refine x_fldB h1' T.c_Book T.na_Book__sizes rfl ?_
    refine x_inDn h3' hn ?_
    walk_at "rd"
    refine x_fldB h1' T.c_Book T.na_Book__sizes rfl ?_
    walk_at "rd"
    refine ⟨d2, svs, rfl, h3', ?_⟩
    walk_at "rd"
    refine x_cval T.cv_Book_CELLS ?_
    walk_at "rd"
    refine x_fldB h1' T.c_Book T.na_Book__sizes rfl ?_
    walk_at "rd"
    refine x_dput h3' (by have := sizeLine_eq; omega) hn fun H2 h3'' c2 => ?_
    walk_at "rd"
    exact kk H2 ⟨c2.get1 h1' (ne_of h1' h3' (by simp)), c2.get1 h2' ne, h3'', ne⟩ (c1.nilL c2)
theorem ok_Book___eq__ (T : Txt K mg)  : FD P w K mg base CX0 2 (He.ma K (He.ga K "Book") "__eq__") ["self", "other"] (sp_Book___eq__ K) := by
  refine FD.mk0 T.f_Book___eq__ sc_Book___eq__ (fun vs H Q E h => ?_) (fun _ _ _ _ _ _ us hl => match us, hl with | [_, _], _ => rfl) (fun cdv A outer s H vs Q E hr h => ⟨_, (pss_one (ps_ret (pe_and (pe_callB call_isi (by rfl) T.n_isinstance bb_isinstance (pa_cons (pv 1) (pa_cons (pe_glob (v := .ref (He.ga K "Book")) (by rfl) T.g_Book rfl) pa_nil))) (pe_and (pe_cmpR (u_eqDI (hu0 hr)) (pe_fld (pv 0) (by rfl)) (pe_fld (pv 1) (by rfl)) (nomark _)) (pe_one (pe_cmpR (u_eqDI (hu0 hr)) (pe_fld (pv 0) (by rfl)) (pe_fld (pv 1) (by rfl)) (nomark _))))))), ?_⟩)
  · obtain ⟨a, b, kvs, svs, rfl, _⟩ := h
    rfl
  · obtain ⟨a, b, kvs, svs, rfl, ⟨dx, d1, d2, h1, h2, h3, ne⟩, ⟨dy, e1, e2, g1, g2, g3, ne'⟩, nk, fk, ns, fs, kk⟩ := h
    walk_at "st"
    walk_at "rd"
    refine x_isC g1 T.c_Book T.is_Book ?_
    walk_at "rd"
    refine x_fldB h1 T.c_Book T.na_Book__kinds rfl ?_
    walk_at "rd"
    refine x_fldB g1 T.c_Book T.na_Book__kinds rfl ?_
    refine x_eqDI h2 g2 nk fk ?_
    walk_at "rd"
    refine x_fldB h1 T.c_Book T.na_Book__sizes rfl ?_
    walk_at "rd"
    refine x_fldB g1 T.c_Book T.na_Book__sizes rfl ?_
    refine x_eqDI h3 g3 ns fs ?_
    walk_at "rd"
    exact kk
end
section
variable {P : Program} {w : World} {K : PySem.W.Frag} {mg : Str → Option Value} {base : Heap}
theorem okB0 (T : Txt K mg) : FnR P w K mg base CX0 2 (He.ma K (He.ga K "Book") "__init__") (fun vs H Q E => sp_Book___init__ K (vs ++ [.ref (He.dflAt ("Book", some "__init__") 0 K), .ref (He.dflAt ("Book", some "__init__") 1 K)]) H Q E) := by
  obtain ⟨fd, F, O⟩ := okI_Book (P := P) (w := w) (base := base) T
  obtain ⟨ds, h1, h2⟩ := F.binds1 (ps := ["self", "kinds", "sizes"]) 1 0 (by simp) rfl fun T kV doc pm an cdv ct us its h1 h2 => match us, its, h1, h2 with | [_], [_, _], _, _ => ⟨_, rfl, rfl⟩
  exact O.raw h2 h1
theorem okB2 (T : Txt K mg) : FnR P w K mg base CX0 2 (He.ma K (He.ga K "Book") "__init__") (sp_Book___init__ K) := by
  obtain ⟨fd, F, O⟩ := okI_Book (P := P) (w := w) (base := base) T
  obtain ⟨ds, h1, h2⟩ := F.binds1 (ps := ["self", "kinds", "sizes"]) 3 2 (by simp) rfl fun T kV doc pm an cdv ct us its h1 h2 => match us, its, h1, h2 with | [_, _, _], [_, _], _, _ => ⟨_, rfl, rfl⟩
  exact (O.raw h2 h1).imp fun vs H Q E h => by rw [show ([V.ref (He.dflAt ("Book", some "__init__") 0 K), V.ref (He.dflAt ("Book", some "__init__") 1 K)] : List V).drop 2 = [] from rfl, List.append_nil]; exact h
theorem cps_anti {a b : Str} (h1 : ¬ a.cps.toList < b.cps.toList) (h2 : ¬ b.cps.toList < a.cps.toList) : a = b := by
  apply str_ext
  exact List.le_antisymm (show a.cps.toList ≤ b.cps.toList from h2) (show b.cps.toList ≤ a.cps.toList from h1)
/-- the cells, ordered -/
def CsOk (cs : List (Str × Int)) : Prop := cs = [] ∨ (∃ a, cs = [a]) ∨ ∃ a b, cs = [a, b] ∧ a.1 ≠ b.1 ∧ ¬ b.1.cps.toList < a.1.cps.toList
def csD (cs : List (Str × Int)) : List (Str × PyData) := cs.map fun p => (p.1, .int p.2)
def ceD (p : Str × Int) : PyData := .tuple [.str p.1, .int p.2]
theorem cs_sorted {cs : List (Str × Int)} (h : CsOk cs) {ys : List Str} (p : ys.Perm (cs.map (·.1))) (s : sortedS ys = true) : ys = cs.map (·.1) := by
  rcases h with rfl | ⟨a, rfl⟩ | ⟨a, b, rfl, ne, nl⟩
  · exact List.Perm.eq_nil p
  · exact List.Perm.eq_singleton p
  · have hl := p.length_eq
    match ys, hl with
    | [x, y], _ =>
      have hx : x ∈ [a.1, b.1] := p.mem_iff.mp (by simp)
      have hx' : x = a.1 ∨ x = b.1 := by simpa using hx
      rcases hx' with rfl | rfl
      · have q := List.Perm.eq_singleton (List.Perm.cons_inv p)
        simp only [List.map_cons, List.map_nil, q]
      · have q := List.Perm.eq_singleton (List.Perm.cons_inv (p.trans (List.Perm.swap _ _ _)))
        injection q with q _
        subst q
        have s' : (!ltCps a.1.cps.toList b.1.cps.toList && true) = true := s
        rw [ltCps_eq, Bool.and_true, Bool.not_eq_true', decide_eq_false_iff_not] at s'
        exact absurd (cps_anti s' nl) ne
theorem csD_keys (cs : List (Str × Int)) : (csD cs).map (·.1) = cs.map (·.1) := by
  unfold csD
  rw [List.map_map]
  rfl
theorem cs_nodup {cs : List (Str × Int)} (h : CsOk cs) : (cs.map (·.1)).Nodup := by
  rcases h with rfl | ⟨a, rfl⟩ | ⟨a, b, rfl, ne, nl⟩ <;> simp
  exact ne
theorem cs_len {cs : List (Str × Int)} (h : CsOk cs) : cs.length ≤ 2 := by
  rcases h with rfl | ⟨a, rfl⟩ | ⟨a, b, rfl, ne, nl⟩ <;> simp
def sp_copied (K : PySem.W.Frag) : Sp := fun vs H Q E => ∃ (b : Addr) (kvs svs : List (Key × V)), vs = [.ref b] ∧ Bk K H b kvs svs ∧ ∀ x H', H x = none → Bk K H' x kvs svs → Ch [] H H' → Q (.ref x) H'
def sp_Book_cells (K : PySem.W.Frag) : Sp := fun vs H Q E => ∃ (b : Addr) (kvs svs : List (Key × V)) (cs : List (Str × Int)), vs = [.ref b] ∧ Bk K H b kvs svs ∧ DvA K H svs (csD cs) ∧ CsOk cs ∧ ∀ t H', Dt K H' t (.tuple (cs.map ceD)) → Ch [] H H' → Q t H'
def sp_cell_names (K : PySem.W.Frag) : Sp := fun vs H Q E => ∃ (b : Addr) (kvs svs : List (Key × V)) (cs : List (Str × Int)), vs = [.ref b] ∧ Bk K H b kvs svs ∧ DvA K H svs (csD cs) ∧ CsOk cs ∧ ∀ l H', H l = none → H' l = some (.lst (cs.map fun p => .str p.1)) → Ch [] H H' → Q (.ref l) H'
theorem ok_copied (T : Txt K mg)  : FD P w K mg base CX0 4 (He.ga K "copied") ["book"] (sp_copied K) := by
  refine FD.mk0 T.f_copied sc_copied (fun vs H Q E h => ?_) (fun _ _ _ _ _ _ us hl => match us, hl with | [_], _ => rfl) (fun cdv A outer s H vs Q E hr h => ⟨_, (pss_one (ps_ret (StX.pe_makeR T.mk_Book (okB2 T) (hr.mono (by decide)) (by rfl) T.g_Book pass0 (pa_cons (pe_fld (pv 0) (by rfl)) (pa_cons (pe_fld (pv 0) (by rfl)) pa_nil))))), ?_⟩)
  · obtain ⟨b, kvs, svs, rfl, _⟩ := h
    rfl
  · obtain ⟨b, kvs, svs, rfl, hb, kk⟩ := h
    obtain ⟨dx, d1, d2, h1, h2, h3, ne⟩ := id hb
    walk_at "st"
    walk_at "rd"
    refine x_fldB h1 T.c_Book T.na_Book__kinds rfl ?_
    walk_at "rd"
    refine x_fldB h1 T.c_Book T.na_Book__sizes rfl ?_
    walk_at "rd"
    refine nO fun x dy H1 hx hi c1 => ?_
    refine ⟨x, dy, .ref d1, .ref d2, kvs, svs, rfl, hi, .inr ⟨d1, rfl, c1.get0 h2⟩, .inr ⟨d2, rfl, c1.get0 h3⟩, fun H2 e1 e2 _ _ hB c2 => ⟨rfl, ?_⟩⟩
    exact kk x H2 hx ⟨dy, e1, e2, hB⟩ ((c1.nilL c2).drop hx)
theorem ok_Book_cells (T : Txt K mg)  : FD P w K mg base CX0 2 (pgA K (He.ga K "Book") "cells" 0) ["self"] (sp_Book_cells K) := by
  refine FD.mk0 T.f_Book_cells sc_Book_cells (fun vs H Q E h => ?_) (fun _ _ _ _ _ _ us hl => match us, hl with | [_], _ => rfl) (fun cdv A outer s H vs Q E hr h => ⟨_, (pss_one (ps_ret (pe_callTy c_tuple (by rfl) T.n_tuple bb_tuple (pa_cons (pe_lc (own := [("name", 1)]) rfl sc_Book_cells.nd (pi_list (pe_callB (c_sortD rfl) (by rfl) T.n_sorted bb_sorted (pa_cons (pe_fld (pv 0) (by rfl)) pa_nil))) (blkOk_by (N := N_Book_cells) (sc := defScope s_Book_cells) (by decide +kernel)) (fun _ _ _ _ _ => (pg_name (i := 1) sc_Book_cells.nd rfl (.inl rfl))) (fun _ _ _ _ _ => pts_nil) (fun _ _ _ _ _ => (pe_tup (pa_cons (pv 1) (pa_cons (pe_dget (by exact hu_of hr) (pe_fldE (K := K) (by rfl) (pv 0) (by rfl)) (pv 1) (by intro _ _; rfl)) pa_nil))))) pa_nil)))), ?_⟩)
  · obtain ⟨b, kvs, svs, cs, rfl, _⟩ := h
    rfl
  · obtain ⟨b, kvs, svs, cs, rfl, hb, hv, hc, kk⟩ := h
    obtain ⟨dx, d1, d2, h1, h2, h3, ne⟩ := id hb
    walk_at "st"
    walk_at "rd"
    refine x_fldB h1 T.c_Book T.na_Book__sizes rfl ?_
    walk_at "rd"
    have hl2 := cs_len hc
    refine ⟨d2, svs, cs.map (·.1), rfl, .inl h3, by rw [hv.keys, csD_keys], by rw [List.length_map]; omega, fun ys q hp hs hq => ?_⟩
    have e := cs_sorted hc hp hs
    subst e
    have c1 : Ch [] H (upd H q (.lst ((cs.map (·.1)).map V.str))) := Ch.new hq
    generalize hH1 : upd H q (.lst ((cs.map (·.1)).map V.str)) = H1 at c1
    have hq1 : H1 q = some (.lst ((cs.map (·.1)).map V.str)) := by rw [← hH1]; exact upd_same
    walk_at "rd"
    refine fun D hD => ?_
    refine lcL ((cs.map (·.1)).map V.str) hD (fun i acc H2 => Ch [] H1 H2 ∧ DtA K H2 acc ((cs.take i).map ceD) ∧ acc.length = i) (fun H2 hD2 c2 => ⟨c2, by simp; exact .nil, rfl⟩) (fun i acc H2 _ hI => hI.1.sqL (SqL.of hq1) (by simp)) (fun i x acc H2 hx hI hA => ?_) (fun acc H2 hI hA => ?_)
    · obtain ⟨c2, ha, hi⟩ := hI
      obtain ⟨p, hp2, rfl⟩ : ∃ p, cs[i]? = some p ∧ x = .str p.1 := by
        rw [List.getElem?_map, List.getElem?_map] at hx
        cases e : cs[i]? with
        | none => rw [e] at hx; cases hx
        | some p => rw [e] at hx; exact ⟨p, rfl, (Option.some.inj hx).symm⟩
      have hlt : i < cs.length := (List.getElem?_eq_some_iff.mp hp2).1
      have hmem : (p.1, PyData.int p.2) ∈ csD cs := List.mem_map.mpr ⟨p, List.mem_of_getElem? hp2, rfl⟩
      walk_at "rd"
      have h1' := c2.get0 (c1.get0 h1)
      have h3' := c2.get0 (c1.get0 h3)
      obtain ⟨v, hval, hvd⟩ : ∃ v, valV svs (.inr p.1) = some v ∧ v = .int p.2 := by
        have e1 := lookup_some (by rw [csD_keys]; exact cs_nodup hc) hmem
        rcases hv.get (z := p.1) with ⟨_, q2⟩ | ⟨v, d, q1, q2, q3⟩
        · rw [q2] at e1; cases e1
        · rw [q2] at e1
          cases e1
          cases q3
          exact ⟨_, q1, rfl⟩
      subst hvd
      refine x_fldB h1' T.c_Book T.na_Book__sizes rfl ?_
      walk_at "rd"
      refine x_dget h3' hval ?_
      walk_at "rd"
      refine nT fun t H3 ht h3t c3 => ?_
      have hA3 := c3.get0 hA
      refine x_lcE hA3 (by have := sizeLine_eq; omega) fun H5 h5 c5 => ⟨?_, ?_, ?_⟩
      · exact (((c2.nilR c3)).nilL c5).drop hD
      · have e3 : (cs.take (i + 1)).map ceD = (cs.take i).map ceD ++ [ceD p] := by rw [List.take_add_one, hp2]; simp
        rw [e3]
        exact ((ha.ch c3).ch c5).snoc ((two_d h3t (.str _) (.int _)).ch c5)
      · simp [hi]
    · obtain ⟨c2, ha, hi⟩ := hI
      walk_at "rd"
      refine x_tupL (SqL.of hA) fun t H3 ht h3t c3 => ?_
      refine kk _ H3 (.tup (SqT.of h3t) ?_) ((c1.nilL c2).nilR c3)
      have e3 : cs.take ((cs.map (·.1)).map V.str).length = cs := by rw [List.length_map, List.length_map, List.take_length]
      rw [e3] at ha
      exact ha.ch c3
end
theorem Ch.fresh {S : List Addr} {x : Addr} {H H1 H2 : Hp} (a : Ch S H H1) (b : Ch [x] H1 H2) (n : H x = none) : Ch S H H2 :=
  ((a.trans b).mono (S' := x :: S) fun y hy => (List.mem_append.mp hy).elim (fun m => List.mem_cons_of_mem _ m) fun m => by rw [List.mem_singleton.mp m]; exact List.mem_cons_self).drop n
theorem Pl.off {H : Hp} {p c x : Addr} (h : Pl H p c) (n : H x = none) : x ≠ p ∧ x ≠ c := by
  obtain ⟨_, _, _, _, hp, _⟩ := h.at_
  obtain ⟨_, hc, _⟩ := h.cs
  exact ⟨Ne.symm (ne_of_none hp n), Ne.symm (ne_of_none hc n)⟩
theorem Pl.ch1 {H H' : Hp} {p c x : Addr} (h : Pl H p c) (k : Ch [x] H H') (n : x ≠ p ∧ x ≠ c) : Pl H' p c := h.ch k (by simpa using Ne.symm n.1) (by simpa using Ne.symm n.2)
def ksD (ks : List (Str × Kd)) : List (Str × PyData) := ks.map fun p => (p.1, p.2.d)
/-- the lore at lo, off the addresses Z -/
def Lr (K : PySem.W.Frag) (H : Hp) (Z : List Addr) (lo : Addr) (ks : List (Str × Kd)) (cs : List (Str × Int)) : Prop := ∃ (nl kd pl : Addr) (kvs : List (Key × V)) (ps : List V), H lo = some (.lst [.ref nl, .ref kd, .ref pl]) ∧ H nl = some (.lst (ks.map fun p => .str p.1)) ∧ H kd = some (.dK kvs) ∧ H pl = some (.lst ps) ∧
  DvA K H kvs (ksD ks) ∧ DtA K H ps (cs.map ceD) ∧ ∀ z ∈ Z, lo ≠ z ∧ nl ≠ z ∧ kd ≠ z ∧ pl ≠ z
theorem Lr.ch {K : PySem.W.Frag} {H H' : Hp} {S Z : List Addr} {lo : Addr} {ks : List (Str × Kd)} {cs : List (Str × Int)} (h : Lr K H Z lo ks cs) (c : Ch S H H') (d : ∀ s ∈ S, s ∈ Z) : Lr K H' Z lo ks cs := by
  obtain ⟨nl, kd, pl, kvs, ps, h1, h2, h3, h4, h5, h6, h7⟩ := h
  exact ⟨nl, kd, pl, kvs, ps, c.st _ _ (fun m => (h7 _ (d _ m)).1 rfl) h1, c.st _ _ (fun m => (h7 _ (d _ m)).2.1 rfl) h2, c.st _ _ (fun m => (h7 _ (d _ m)).2.2.1 rfl) h3, c.st _ _ (fun m => (h7 _ (d _ m)).2.2.2 rfl) h4, h5.ch c, h6.ch c, h7⟩
theorem Lr.ch0 {K : PySem.W.Frag} {H H' : Hp} {Z : List Addr} {lo : Addr} {ks : List (Str × Kd)} {cs : List (Str × Int)} (h : Lr K H Z lo ks cs) (c : Ch [] H H') : Lr K H' Z lo ks cs := h.ch c fun _ m => by cases m
theorem Lr.more {K : PySem.W.Frag} {H : Hp} {Z : List Addr} {lo z : Addr} {ks : List (Str × Kd)} {cs : List (Str × Int)} (h : Lr K H Z lo ks cs) (n : H z = none) : Lr K H (z :: Z) lo ks cs := by
  obtain ⟨nl, kd, pl, kvs, ps, h1, h2, h3, h4, h5, h6, h7⟩ := h
  refine ⟨nl, kd, pl, kvs, ps, h1, h2, h3, h4, h5, h6, fun y hy => ?_⟩
  rcases List.mem_cons.mp hy with e | hy
  · subst e
    exact ⟨ne_of_none h1 n, ne_of_none h2 n, ne_of_none h3 n, ne_of_none h4 n⟩
  · exact h7 y hy
/-- .. and something that is not so -/
theorem Lr.moreO {K : PySem.W.Frag} {H : Hp} {Z : List Addr} {lo z : Addr} {ks : List (Str × Kd)} {cs : List (Str × Int)} {C dx : Addr} {fs : List (Str × V)} (h : Lr K H Z lo ks cs) (n : H z = some (.ins C dx fs)) : Lr K H (z :: Z) lo ks cs := by
  obtain ⟨nl, kd, pl, kvs, ps, h1, h2, h3, h4, h5, h6, h7⟩ := h
  refine ⟨nl, kd, pl, kvs, ps, h1, h2, h3, h4, h5, h6, fun y hy => ?_⟩
  rcases List.mem_cons.mp hy with e | hy
  · subst e
    exact ⟨ne_of h1 n (by simp), ne_of h2 n (by simp), ne_of h3 n (by simp), ne_of h4 n (by simp)⟩
  · exact h7 y hy
structure LoOk (ks : List (Str × Kd)) (cs : List (Str × Int)) : Prop where
  ne : ks ≠ []
  le : ks.length ≤ 3
  nd : (ks.map (·.1)).Nodup
  ok : ∀ q ∈ ks, IsName q.1 ∧ q.2.Ok
  co : CsOk cs
  cn : ∀ q ∈ cs, IsName q.1 ∧ (q.2 = 2 ∨ q.2 = 3)
section
variable {P : Program} {w : World} {K : PySem.W.Frag} {mg : Str → Option Value} {base : Heap}
theorem ok_cell_names (T : Txt K mg)  : FD P w K mg base CX0 4 (He.ga K "cell_names") ["book"] (sp_cell_names K) := by
  refine FD.mk0 T.f_cell_names sc_cell_names (fun vs H Q E h => ?_) (fun _ _ _ _ _ _ us hl => match us, hl with | [_], _ => rfl) (fun cdv A outer s H vs Q E hr h => ⟨_, (pss_one (ps_ret (pe_lc (own := [("name", 1), ("size", 2)]) rfl sc_cell_names.nd (pi_tup (pe_propF (E := E0) (pv 0) T.c_Book T.p_Book_cells (ok_Book_cells T) (hr.mono (by decide)) (by rfl))) (blkOk_by (N := N_cell_names) (sc := defScope s_cell_names) (by decide +kernel)) (fun _ _ _ _ _ => (pg_tupE (n := 2) (K := K) (by rfl) rfl (pgs_cons (pg_name (i := 1) sc_cell_names.nd rfl (.inl rfl)) (pgs_cons (pg_name (i := 2) sc_cell_names.nd rfl (.inl rfl)) pgs_nil)))) (fun _ _ _ _ _ => pts_nil) (fun _ _ _ _ _ => (pv 1))))), ?_⟩)
  · obtain ⟨b, kvs, svs, cs, rfl, _⟩ := h
    rfl
  · obtain ⟨b, kvs, svs, cs, rfl, hb, hv, hc, kk⟩ := h
    obtain ⟨dx, d1, d2, h1, h2, h3, ne⟩ := id hb
    walk_at "st"
    walk_at "rd"
    refine x_obj h1 ?_
    refine ⟨b, kvs, svs, cs, rfl, hb, hv, hc, fun t H1 ht c1 => ?_⟩
    cases ht with
    | @tup t xs _ hs ha =>
    walk_at "rd"
    have hxl : xs.length = cs.length := by rw [ha.length, List.length_map]
    have hl2 := cs_len hc
    refine fun D hD => lcTG xs hD (fun i acc H2 => Ch [] H1 H2 ∧ acc = (cs.take i).map fun p => .str p.1) (fun H2 hD2 c2 => ⟨c2, rfl⟩) (fun i acc H2 _ hI => hI.1.sqT hs) (fun i x acc H2 hx hI hA => ?_) (fun acc H2 hI hA => ?_)
    · obtain ⟨c2, hacc⟩ := hI
      obtain ⟨d, hd, hxd⟩ := ha.get hx
      obtain ⟨p, hp, rfl⟩ : ∃ p, cs[i]? = some p ∧ d = ceD p := by
        rw [List.getElem?_map] at hd
        cases e : cs[i]? with
        | none => rw [e] at hd; cases hd
        | some p => rw [e] at hd; exact ⟨p, rfl, (Option.some.inj hd).symm⟩
      have hlt : i < cs.length := (List.getElem?_eq_some_iff.mp hp).1
      have hxd2 := hxd.ch c2
      cases hxd2 with
      | @tup a ys _ hs2 ha2 =>
      cases ha2 with
      | cons q1 q2 =>
      cases q1
      cases q2 with
      | cons q3 q4 =>
      cases q3
      cases q4
      have hw : wipe [some (.ref b), none, none] (List.map (fun x => x.snd) [(Str.ofString "name", 1), (Str.ofString "size", 2)]) = [some (.ref b), none, none] := rfl
      rw [hw]
      walk_at "rd"
      refine ⟨rfl, ?_⟩
      walk_at "rd"
      refine x_lcE hA (by have := sizeLine_eq; rw [hacc, List.length_map, List.length_take]; omega) fun H5 h5 c5 => ⟨(c2.nilL c5).drop hD, ?_⟩
      rw [hacc, List.take_add_one, hp]
      simp
    · obtain ⟨c2, hacc⟩ := hI
      rw [hxl, List.take_length] at hacc
      subst hacc
      exact kk D H2 (c1.free0 hD) hA (c1.nilL c2)
def sp__law_lore (K : PySem.W.Frag) : Sp := fun vs H Q E => ∃ (p c : Addr), vs = [.ref p, .int 3, .int 2] ∧ Pl H p c ∧ ∀ lo ks cs H', Lr K H' [p] lo ks cs → LoOk ks cs → Pl H' p c → Ch [p] H H' → Q (.ref lo) H'
def sp__law_book (K : PySem.W.Frag) : Sp := fun vs H Q E => ∃ (lo : Addr) (Z : List Addr) (ks : List (Str × Kd)) (cs : List (Str × Int)), vs = [.ref lo] ∧ Lr K H Z lo ks cs ∧ LoOk ks cs ∧ ∀ b H' kvs svs, H b = none → Bk K H' b kvs svs → DvA K H' kvs (ksD ks) → DvA K H' svs (csD cs) → Ch [] H H' → Q (.ref b) H'
theorem ksD_keys (ks : List (Str × Kd)) : (ksD ks).map (·.1) = ks.map (·.1) := by
  unfold ksD
  rw [List.map_map]
  rfl
theorem ce_inv {K : PySem.W.Frag} {H : Hp} {v : V} {q : Str × Int} (h : Dt K H v (ceD q)) : ∃ a, v = .ref a ∧ SqT K H a [.str q.1, .int q.2] := by
  cases h with
  | @tup a ys _ hs2 ha2 =>
  cases ha2 with
  | cons q1 q2 =>
  cases q1
  cases q2 with
  | cons q3 q4 =>
  cases q3
  cases q4
  exact ⟨a, rfl, hs2⟩
theorem ok__law_lore (T : Txt K mg)  : FD P w K mg base CX0 6 (He.ga K "_law_lore") ["pool", "steps", "cells"] (sp__law_lore K) := by
  refine FD.mk0 T.f__law_lore sc__law_lore (fun vs H Q E h => ?_) (fun _ _ _ _ _ _ us hl => match us, hl with | [_, _, _], _ => rfl) (fun cdv A outer s H vs Q E hr h => ⟨_, (pss_cons (ps_set (i := 3) sc__law_lore.nd rfl (.inl rfl) (pe_lst pa_nil))
  (pss_cons (ps_set (i := 4) sc__law_lore.nd rfl (.inl rfl) pe_dnewK)
  (pss_cons (ps_for PassesOwn.never rfl (pi_range1 (by rfl) T.n_range (pa_cons (pe_op u_add pe_int (pe_callD (ok__law_draw T) hr (by first | decide | omega) (by rfl) T.g__law_draw pass0 (pa_cons (pv 0) (pa_cons (pv 1) pa_nil)))) pa_nil)) (pg_name (i := 5) sc__law_lore.nd rfl (.inl rfl)) (pss_cons (ps_set (i := 6) sc__law_lore.nd rfl (.inl rfl) (pe_callD (ok__law_fresh T) hr (by first | decide | omega) (by rfl) T.g__law_fresh pass0 (pa_cons (pv 0) (pa_cons (pv 3) pa_nil))))
  (pss_cons (ps_expr (pe_bm PySem.F.plainAttrs_list PySem.F.slot_list_append PySem.F.type_list_append mt_append (pv 3) (pa_cons (pv 6) pa_nil)))
  (pss_one (ps_dput (hu_of hr) (pv 4) (pv 6) (pe_callD (ok__law_kind T) hr (by first | decide | omega) (by rfl) T.g__law_kind pass0 (pa_cons (pv 0) pa_nil)) rfl)))))
  (pss_cons (ps_set (i := 7) sc__law_lore.nd rfl (.inl rfl) (pe_lst pa_nil))
  (pss_cons (ps_for PassesOwn.never rfl (pi_range1 (by rfl) T.n_range (pa_cons (pe_callD (ok__law_draw T) hr (by first | decide | omega) (by rfl) T.g__law_draw pass0 (pa_cons (pv 0) (pa_cons (pe_op u_add (pv 2) pe_int) pa_nil))) pa_nil)) (pg_name (i := 5) sc__law_lore.nd rfl (.inl rfl)) (pss_cons (ps_set (i := 6) sc__law_lore.nd rfl (.inl rfl) (pe_callD (ok__law_fresh T) hr (by first | decide | omega) (by rfl) T.g__law_fresh pass0 (pa_cons (pv 0) (pa_cons (pe_lc (own := [("pair", 8)]) rfl sc__law_lore.nd (pi_list (pv 7)) (blkOk_by (N := N__law_lore) (sc := defScope s__law_lore) (by decide +kernel)) (fun _ _ _ _ _ => (pg_name (i := 8) sc__law_lore.nd rfl (.inl rfl))) (fun _ _ _ _ _ => pts_nil) (fun _ _ _ _ _ => (pe_ix (ix_seqE (K := K) (by rfl)) (pv 8) pe_int (by intro _ _; rfl)))) pa_nil))))
  (pss_one (ps_expr (pe_bm PySem.F.plainAttrs_list PySem.F.slot_list_append PySem.F.type_list_append mt_append (pv 7) (pa_cons (pe_tup (pa_cons (pv 6) (pa_cons (pe_op u_add pe_int (pe_callD (ok__law_draw T) hr (by first | decide | omega) (by rfl) T.g__law_draw pass0 (pa_cons (pv 0) (pa_cons pe_int pa_nil)))) pa_nil))) pa_nil))))))
  (pss_cons (ps_if (PW.pt (pw_and (pt_cmpR (u_eq (hu64 hr)) (pe_callB c_len (by rfl) T.n_len bb_len (pa_cons (pv 7) pa_nil)) pe_int (nomark _)) (pw_and1 (pt_cmpR u_ltS (pe_ix ix_seq (pe_ix ix_seq (pv 7) pe_int (by intro _ _; rfl)) pe_int (by intro _ _; rfl)) (pe_ix ix_seq (pe_ix ix_seq (pv 7) pe_int (by intro _ _; rfl)) pe_int (by intro _ _; rfl)) (nomark _))))) (pss_one (ps_set (i := 7) sc__law_lore.nd rfl (.inl rfl) (pe_lst (pa_cons (pe_ix ix_seq (pv 7) pe_int (by intro _ _; rfl)) (pa_cons (pe_ix ix_seq (pv 7) pe_int (by intro _ _; rfl)) pa_nil))))) pss_nil)
  (pss_one (ps_ret (pe_lst (pa_cons (pv 3) (pa_cons (pv 4) (pa_cons (pv 7) pa_nil)))))))))))), ?_⟩)
  · obtain ⟨p, c, rfl, _⟩ := h
    rfl
  · obtain ⟨p, c, rfl, hp, kk⟩ := h
    walk_at "st"
    walk_at "rd"
    refine nL fun nl H1 hnl h1 c1 => ?_
    walk_at "rd"
    refine nD fun kd H2 hkd h2 c2 => ?_
    have hp2 := (hp.ch0 c1).ch0 c2
    walk_at "rd"
    refine use_draw hp2 (by decide) (by decide) fun d H3 d0 d1 hp3 c3 => ?_
    walk_at "rd"
    have hno := hp.off hnl
    have hko := (hp.ch0 c1).off hkd
    have hnp := hno.1
    have hkp := hko.1
    have hkn : kd ≠ nl := fun e => by
      rw [e, h1] at hkd
      cases hkd
    have hkH : H kd = none := c1.free0 hkd
    have c03 : Ch [p] H H3 := (c1.nilL c2).nilL c3
    have hn3 := c3.get1 (c2.get0 h1) hnp
    have hk3 := c3.get1 h2 hkp
    refine goR (fun i σ H' => ∃ (ks : List (Str × Kd)) (kvs : List (Key × V)) (o5 o6 : Option V), σ = [some (.ref p), some (.int 3), some (.int 2), some (.ref nl), some (.ref kd), o5, o6, none, none] ∧ Ch [p] H H' ∧ Pl H' p c ∧ H' nl = some (.lst ((ks.map (·.1)).map V.str)) ∧ H' kd = some (.dK kvs) ∧ DvA K H' kvs (ksD ks) ∧ ks.length = i ∧ (ks.map (·.1)).Nodup ∧ ∀ q ∈ ks, IsName q.1 ∧ q.2.Ok)
      ⟨[], [], none, none, rfl, c03, hp3, hn3, hk3, trivial, rfl, List.nodup_nil, fun q hq => by cases hq⟩ (fun i σ H' hi hI => ?_) (fun σ H' hI => ?_)
    · obtain ⟨ks, kvs, o5, o6, rfl, c4, hp4, hn4, hk4, hv4, hlen, nd, ok⟩ := hI
      walk_at "rd"
      refine use_fresh hp4 hn4 hnp (by rw [List.length_map]; omega) fun z H5 hz hzn hp5 c5 => ?_
      have hn5 := c5.get1 hn4 hnp
      have hk5 := c5.get1 hk4 hkp
      walk_at "rd"
      refine x_append hn5 (by have := sizeLine_eq; rw [List.length_map, List.length_map]; omega) fun H6 hn6 c6 => ?_
      walk_at "rd"
      have hp6 := hp5.ch1 c6 hno
      refine use_kind hp6 fun k q H7 hkok hkd7 hp7 c7 => ?_
      have hn7 := c7.get1 hn6 hnp
      have hk7 := c7.get1 (c6.get1 hk5 hkn) hkp
      walk_at "rd"
      have hv7 := ((hv4.ch c5).ch c6).ch c7
      have hnone : valV kvs (.inr z) = none := by
        rcases hv7.get (z := z) with ⟨q1, _⟩ | ⟨v, d, q1, q2, _⟩
        · exact q1
        · rw [lookup_none (by rw [ksD_keys]; exact hzn)] at q2
          cases q2
      refine x_dput hk7 (by have := sizeLine_eq; rw [hv7.length]; unfold ksD; rw [List.length_map]; omega) hnone fun H8 hk8 c8 => ?_
      walk_at "rd"
      refine ⟨ks ++ [(z, k)], _, _, _, rfl, ?_, hp7.ch1 c8 hko, ?_, hk8, ?_, ?_, ?_, ?_⟩
      · exact (((c4.seq c5).fresh c6 hnl).seq c7).fresh c8 hkH
      · rw [c8.get1 hn7 (Ne.symm hkn)]
        simp
      · have e : ksD (ks ++ [(z, k)]) = ksD ks ++ [(z, k.d)] := by unfold ksD; rw [List.map_append]; rfl
        rw [e]
        exact (hv7.ch c8).snoc (hkd7.ch c8)
      · rw [List.length_append, List.length_singleton, hlen]
      · rw [List.map_append]
        exact List.nodup_append.mpr ⟨nd, by simp, fun a ha b hb => by
          have : b = z := by simpa using hb
          rw [this]
          exact fun e => hzn (by rw [← e]; exact ha)⟩
      · intro q hq
        rcases List.mem_append.mp hq with m | m
        · exact ok q m
        · have e : q = (z, k) := by simpa using m
          rw [e]
          exact ⟨hz, hkok⟩
    · obtain ⟨ks, kvs, o5, o6, rfl, c4, hp4, hn4, hk4, hv4, hlen, nd, ok⟩ := hI
      walk_at "rd"
      refine nL fun pl H5 hpl h5 c5 => ?_
      have hpo := hp4.off hpl
      have hplH : H pl = none := c4.free hpl (by simpa using hpo.1)
      have hpn : pl ≠ nl := Ne.symm (ne_of_none hn4 hpl)
      have hpk : pl ≠ kd := Ne.symm (ne_of_none hk4 hpl)
      walk_at "rd"
      refine use_draw (hp4.ch0 c5) (by decide) (by decide) fun m H6 m0 m1 hp6 c6 => ?_
      walk_at "rd"
      have c06 : Ch [p] H H6 := (c4.nilR c5).seq c6
      have hn6 := c6.get1 (c5.get0 hn4) hnp
      have hk6 := c6.get1 (c5.get0 hk4) hkp
      have hl6 := c6.get1 h5 hpo.1
      have hv6 := (hv4.ch c5).ch c6
      refine goR (fun i σ H' => ∃ (cs : List (Str × Int)) (ps : List V) (o5 o6 : Option V), σ = [some (.ref p), some (.int 3), some (.int 2), some (.ref nl), some (.ref kd), o5, o6, some (.ref pl), none] ∧ Ch [p] H H' ∧ Pl H' p c ∧ H' nl = some (.lst (ks.map fun q => .str q.1)) ∧ H' kd = some (.dK kvs) ∧ DvA K H' kvs (ksD ks) ∧ H' pl = some (.lst ps) ∧ DtA K H' ps (cs.map ceD) ∧ cs.length = i ∧ (cs.map (·.1)).Nodup ∧ ∀ q ∈ cs, IsName q.1 ∧ (q.2 = 2 ∨ q.2 = 3))
        ⟨[], [], _, _, rfl, c06, hp6, by rw [hn6, List.map_map]; rfl, hk6, hv6, hl6, .nil, rfl, List.nodup_nil, fun q hq => by cases hq⟩ (fun i σ H' hi hI => ?_) (fun σ H' hI => ?_)
      · obtain ⟨cs, ps, o5, o6, rfl, c7, hp7, hn7, hk7, hv7, hl7, ha7, hlen2, nd2, ok2⟩ := hI
        have hpsl : ps.length = cs.length := by rw [ha7.length, List.length_map]
        walk_at "rd"
        refine fun D hD => lcL ps hD (fun j acc H2 => Ch [] H' H2 ∧ acc = (cs.take j).map fun q => .str q.1) (fun H2 hD2 c8 => ⟨c8, rfl⟩) (fun j acc H2 _ hJ => hJ.1.sqL (SqL.of hl7) (by simp)) (fun j x acc H2 hx hJ hA => ?_) (fun acc H2 hJ hA => ?_)
        · obtain ⟨c8, hacc⟩ := hJ
          obtain ⟨d, hd, hxd⟩ := ha7.get hx
          obtain ⟨q, hq, rfl⟩ : ∃ q, cs[j]? = some q ∧ d = ceD q := by
            rw [List.getElem?_map] at hd
            cases e : cs[j]? with
            | none => rw [e] at hd; cases hd
            | some q => rw [e] at hd; exact ⟨q, rfl, (Option.some.inj hd).symm⟩
          have hlt : j < cs.length := (List.getElem?_eq_some_iff.mp hq).1
          have hxd2 := hxd.ch c8
          cases hxd2 with
          | @tup a ys _ hs2 ha2 =>
          cases ha2 with
          | cons q1 q2 =>
          cases q1
          cases q2 with
          | cons q3 q4 =>
          cases q3
          cases q4
          walk_at "rd"
          refine x_lcE hA (by have := sizeLine_eq; rw [hacc, List.length_map, List.length_take]; omega) fun H5 h5 c5 => ⟨(c8.nilL c5).drop hD, ?_⟩
          rw [hacc, List.take_add_one, hq]
          simp
        · obtain ⟨c8, hacc⟩ := hJ
          rw [hpsl, List.take_length] at hacc
          subst hacc
          walk_at "rd"
          have hp8 := hp7.ch0 c8
          refine use_fresh (us := cs.map (·.1)) hp8 (by rw [hA, List.map_map]; rfl) (hp7.off hD).1 (by rw [List.length_map]; omega) fun z H9 hz hzn hp9 c9 => ?_
          have hl9 := c9.get1 (c8.get0 hl7) hpo.1
          walk_at "rd"
          refine use_draw hp9 (by decide) (by decide) fun n H10 n0 n1 hp10 c10 => ?_
          walk_at "rd"
          refine nT fun t H11 ht h11 c11 => ?_
          have hl11 := c11.get0 (c10.get1 hl9 hpo.1)
          walk_at "rd"
          refine x_append hl11 (by have := sizeLine_eq; omega) fun H12 h12 c12 => ?_
          walk_at "rd"
          have cc : Ch [p] H' H11 := ((c8.nilL c9).seq c10).nilR c11
          refine ⟨cs ++ [(z, 2 + n)], _, _, _, rfl, (c7.seq cc).fresh c12 hplH, (hp10.ch0 c11).ch1 c12 hpo, c12.get1 (cc.get1 hn7 hnp) (Ne.symm hpn), c12.get1 (cc.get1 hk7 hkp) (Ne.symm hpk), (hv7.ch cc).ch c12, h12, ?_, by rw [List.length_append, List.length_singleton, hlen2], ?_, ?_⟩
          · rw [List.map_append]
            exact ((ha7.ch cc).ch c12).snoc ((two_d h11 (.str _) (.int _)).ch c12)
          · rw [List.map_append]
            exact List.nodup_append.mpr ⟨nd2, by simp, fun a ha b hb => by
              have : b = z := by simpa using hb
              rw [this]
              exact fun e => hzn (by rw [← e]; exact ha)⟩
          · intro q hq
            rcases List.mem_append.mp hq with m | m
            · exact ok2 q m
            · have e : q = (z, 2 + n) := by simpa using m
              rw [e]
              exact ⟨hz, by show 2 + n = 2 ∨ 2 + n = 3; omega⟩
      · obtain ⟨cs, ps, o5, o6, rfl, c7, hp7, hn7, hk7, hv7, hl7, ha7, hlen2, nd2, ok2⟩ := hI
        have hpsl : ps.length = cs.length := by rw [ha7.length, List.length_map]
        have fin : ∀ (cs' : List (Str × Int)) (pl' : Addr) (ps' : List V) H8, CsOk cs' → (∀ q ∈ cs', IsName q.1 ∧ (q.2 = 2 ∨ q.2 = 3)) → Ch [] H' H8 → H8 pl' = some (.lst ps') → DtA K H8 ps' (cs'.map ceD) → pl' ≠ p →
          tRet (tLst (tCons (tVar 3) (tCons (tVar 4) (tCons (tVar 7) tNil)))) ⟨fun x H' => Q V.non H', Q, fun _ _ => False, fun _ _ => False⟩ [some (.ref p), some (.int 3), some (.int 2), some (.ref nl), some (.ref kd), o5, o6, some (.ref pl'), none] H8 := fun cs' pl' ps' H8 co cn c8 hl8 ha8 hpp => by
          walk_at "rd"
          refine nL fun lo H9 hlo h9 c9 => ?_
          have hp8 := hp7.ch0 c8
          refine kk lo ks cs' H9 ⟨nl, kd, pl', kvs, ps', h9, c9.get0 (c8.get0 hn7), c9.get0 (c8.get0 hk7), c9.get0 hl8, (hv7.ch c8).ch c9, ha8.ch c9, fun y hy => ?_⟩ ⟨fun e => ?_, by omega, nd, ok, co, cn⟩ (hp8.ch0 c9) ((c7.nilR c8).nilR c9)
          · have e : y = p := by simpa using hy
            rw [e]
            exact ⟨(hp8.off hlo).1, hnp, hkp, hpp⟩
          · rw [e] at hlen
            simp at hlen
            omega
        walk_at "rd"
        refine ite_by (fun e2 => ?_) (fun e2 => ?_)
        · have e3 : cs.length = 2 := by omega
          match cs, e3, ha7, nd2, ok2, hpsl, fin with
          | [qa, qb], _, ha7, nd2, ok2, hpsl, fin =>
          obtain ⟨va, vb, rfl, hva, hvb⟩ : ∃ va vb, ps = [va, vb] ∧ Dt K H' va (ceD qa) ∧ Dt K H' vb (ceD qb) := by
            cases ha7 with
            | cons a1 a2 =>
            cases a2 with
            | cons a3 a4 =>
            cases a4
            exact ⟨_, _, rfl, a1, a3⟩
          obtain ⟨ra, rfl, hsa⟩ := ce_inv hva
          obtain ⟨rb, rfl, hsb⟩ := ce_inv hvb
          have hne : qa.1 ≠ qb.1 := by simpa using nd2
          walk_at "rd"
          refine x_ltS ?_
          walk_at "rd"
          refine ite_by (fun e4 => ?_) (fun e4 => ?_)
          · walk_at "rd"
            refine nL fun pl2 H8 hpl2 h8 c8 => ?_
            rw [show (gName 7 : TG) = gName 7 from rfl]
            exact fin [qb, qa] pl2 _ H8 (.inr (.inr ⟨qb, qa, rfl, Ne.symm hne, fun e5 => absurd (List.lt_asymm e4) (not_not_intro e5)⟩)) (fun q hq => ok2 q (by simpa [or_comm] using hq)) c8 h8 (.cons (hvb.ch c8) (.cons (hva.ch c8) .nil)) (hp7.off hpl2).1
          · exact fin [qa, qb] pl _ H' (.inr (.inr ⟨qa, qb, rfl, hne, e4⟩)) ok2 (Ch.refl _) hl7 ha7 hpo.1
        · refine ite_F ?_
          refine fin cs pl ps H' ?_ ok2 (Ch.refl _) hl7 ha7 hpo.1
          have : cs.length ≤ 1 := by omega
          match cs, this with
          | [], _ => exact .inl rfl
          | [a], _ => exact .inr (.inl ⟨a, rfl⟩)
theorem DvA.take {K : PySem.W.Frag} {H : Hp} : ∀ {kvs : List (Key × V)} {ks : List (Str × PyData)} (n : Nat), DvA K H kvs ks → DvA K H (kvs.take n) (ks.take n)
  | [], [], n, _ => by simp; trivial
  | (k, v) :: r, (z, d) :: s, 0, _ => trivial
  | (k, v) :: r, (z, d) :: s, n + 1, h => ⟨h.1, h.2.1, DvA.take n h.2.2⟩
  | [], _ :: _, _, h => h.elim
  | _ :: _, [], _, h => h.elim
theorem nodup_take_get {l : List Str} (h : l.Nodup) {i : Nat} {z : Str} (e : l[i]? = some z) : z ∉ l.take i := fun m => by
  have q : l = l.take i ++ l.drop i := (List.take_append_drop i l).symm
  rw [q, List.nodup_append] at h
  have hlt := (List.getElem?_eq_some_iff.mp e).1
  have md : z ∈ l.drop i := by
    rw [List.drop_eq_getElem_cons hlt, (List.getElem?_eq_some_iff.mp e).2]
    exact List.mem_cons_self
  exact h.2.2 z m z md rfl
theorem ok__law_book (T : Txt K mg)  : FD P w K mg base CX0 6 (He.ga K "_law_book") ["lore"] (sp__law_book K) := by
  refine FD.mk0 T.f__law_book sc__law_book (fun vs H Q E h => ?_) (fun _ _ _ _ _ _ us hl => match us, hl with | [_], _ => rfl) (fun cdv A outer s H vs Q E hr h => ⟨_, (pss_cons (ps_set (i := 1) sc__law_book.nd rfl (.inl rfl) (pe_makeR0 T.mk_Book (okB0 T) (hr.mono (by decide)) (by rfl) T.g_Book pass0))
  (pss_cons (ps_for PassesOwn.never rfl (pi_list (pe_ix ix_seq (pv 0) pe_int (by intro _ _; rfl))) (pg_name (i := 2) sc__law_book.nd rfl (.inl rfl)) (pss_one (ps_putO T.m_Book___setitem__ T.ns_Book (ok_Book___setitem__ T).raw (hr.mono (by decide)) (E := E0) pass0 (pv 1) (pv 2) (pe_dget (hu_of hr) (pe_ix ix_seq (pv 0) pe_int (by intro _ _; rfl)) (pv 2) (by intro _ _; rfl)) (by rfl))))
  (pss_cons (ps_for PassesOwn.never rfl (pi_list (pe_ix ix_seq (pv 0) pe_int (by intro _ _; rfl))) (pg_name (i := 3) sc__law_book.nd rfl (.inl rfl)) (pss_one (ps_expr (pe_methR (pv 1) T.c_Book T.m_Book_add_cell (ok_Book_add_cell T).raw (hr.mono (by decide)) pass0 (pa_cons (pe_ix ix_seq (pv 3) pe_int (by intro _ _; rfl)) (pa_cons (pe_ix ix_seq (pv 3) pe_int (by intro _ _; rfl)) pa_nil))))))
  (pss_one (ps_ret (pv 1)))))), ?_⟩)
  · obtain ⟨lo, Z, ks, cs, rfl, _⟩ := h
    rfl
  · obtain ⟨lo, Z, ks, cs, rfl, hL, ok, kk⟩ := h
    obtain ⟨nl, kd, pl, kvs0, ps, h1, h2, h3, h4, h5, h6, h7⟩ := hL
    walk_at "st"
    walk_at "rd"
    refine nO fun b dx H1 hb hi c1 => ?_
    refine ⟨b, dx, _, _, [], [], rfl, hi, .inl ⟨_, rfl, T.e_Book0, rfl⟩, .inl ⟨_, rfl, T.e_Book1, rfl⟩, fun H2 d1 d2 hd1 hd2 hB c2 => ⟨rfl, ?_⟩⟩
    have c02 : Ch [] H H2 := (c1.nilL c2).drop hb
    have n1 : H d1 = none := c1.free0 hd1
    have n2 : H d2 = none := c1.free0 hd2
    have hlo := c02.get0 h1
    walk_at "rd"
    refine goL (ks.map fun p => .str p.1) (fun i σ H' => ∃ (o2 : Option V) (kvs : List (Key × V)), σ = [some (.ref lo), some (.ref b), o2, none] ∧ Ch [] H H' ∧ BkA K H' b dx d1 d2 kvs [] ∧ DvA K H' kvs ((ksD ks).take i))
      ⟨none, [], rfl, c02, hB, by simp; trivial⟩ (fun i σ H' _ hI => ?_) (fun i x σ H' hx hI => ?_) (fun σ H' hI => ?_)
    · obtain ⟨o2, kvs, rfl, c, _⟩ := hI
      exact SqL.of (c.get0 h2)
    · obtain ⟨o2, kvs, rfl, c, hB, hv⟩ := hI
      obtain ⟨q, hq, rfl⟩ : ∃ q, ks[i]? = some q ∧ x = .str q.1 := by
        rw [List.getElem?_map] at hx
        cases e : ks[i]? with
        | none => rw [e] at hx; cases hx
        | some q => rw [e] at hx; exact ⟨q, rfl, (Option.some.inj hx).symm⟩
      have hlo' := c.get0 h1
      have hkd' := c.get0 h3
      have hmem : q ∈ ks := List.mem_of_getElem? hq
      have hlt : i < ks.length := (List.getElem?_eq_some_iff.mp hq).1
      obtain ⟨v, hval, hvd⟩ : ∃ v, valV kvs0 (.inr q.1) = some v ∧ Dt K H v q.2.d := by
        have e1 := lookup_some (ks := ksD ks) (z := q.1) (d := q.2.d) (by rw [ksD_keys]; exact ok.nd) (List.mem_map.mpr ⟨q, hmem, rfl⟩)
        rcases h5.get (z := q.1) with ⟨_, q2⟩ | ⟨v, d, q1, q2, q3⟩
        · rw [q2] at e1; cases e1
        · rw [q2] at e1
          cases e1
          exact ⟨_, q1, q3⟩
      have hlen : kvs.length ≤ i := by
        rw [hv.length, List.length_take]
        omega
      have hnone : valV kvs (.inr q.1) = none := by
        rcases hv.get (z := q.1) with ⟨q1, _⟩ | ⟨v, d, q1, q2, _⟩
        · exact q1
        · rw [lookup_none] at q2
          · cases q2
          · rw [List.map_take, ksD_keys]
            exact nodup_take_get ok.nd (by rw [List.getElem?_map, hq]; rfl)
      walk_at "rd"
      refine x_dget hkd' hval ?_
      walk_at "rd"
      have hle := ok.le
      refine x_obj hB.1 ?_
      refine ⟨b, dx, d1, d2, q.1, v, q.2, kvs, [], rfl, (ok.ok q hmem).1, (ok.ok q hmem).2, hvd.ch c, hB, hnone, by omega, fun H3 hB3 c3 => ?_⟩
      refine ⟨_, _, rfl, c.fresh c3 n1, hB3, ?_⟩
      have e : (ksD ks).take (i + 1) = (ksD ks).take i ++ [(q.1, q.2.d)] := by
        rw [List.take_add_one]
        unfold ksD
        rw [List.getElem?_map, hq]
        rfl
      rw [e]
      exact (hv.ch c3).snoc ((hvd.ch c).ch c3)
    · obtain ⟨o2, kvs, rfl, c, hB, hv⟩ := hI
      have hkk : DvA K H' kvs (ksD ks) := by
        rw [List.length_map, List.take_of_length_le (by unfold ksD; rw [List.length_map]; exact Nat.le_refl _)] at hv
        exact hv
      have hlo' := c.get0 h1
      have hl2 := cs_len ok.co
      have hpl : ps.length = cs.length := by rw [h6.length, List.length_map]
      walk_at "rd"
      refine goL ps (fun i σ H2 => ∃ (o3 : Option V) (svs : List (Key × V)), σ = [some (.ref lo), some (.ref b), o2, o3] ∧ Ch [] H H2 ∧ Ch [d2] H' H2 ∧ BkA K H2 b dx d1 d2 kvs svs ∧ DvA K H2 svs ((csD cs).take i))
        ⟨none, [], rfl, c, (Ch.refl _).any, hB, by simp; trivial⟩ (fun i σ H2 _ hI => ?_) (fun i x σ H2 hx hI => ?_) (fun σ H2 hI => ?_)
      · obtain ⟨o3, svs, rfl, c3, _⟩ := hI
        exact SqL.of (c3.get0 h4)
      · obtain ⟨o3, svs, rfl, c3, c4, hB3, hs3⟩ := hI
        obtain ⟨d, hd, hxd⟩ := h6.get hx
        obtain ⟨q, hq, rfl⟩ : ∃ q, cs[i]? = some q ∧ d = ceD q := by
          rw [List.getElem?_map] at hd
          cases e : cs[i]? with
          | none => rw [e] at hd; cases hd
          | some q => rw [e] at hd; exact ⟨q, rfl, (Option.some.inj hd).symm⟩
        have hmem : q ∈ cs := List.mem_of_getElem? hq
        have hlt : i < cs.length := (List.getElem?_eq_some_iff.mp hq).1
        obtain ⟨ra, rfl, hsa⟩ := ce_inv (hxd.ch c3)
        have hlen : svs.length ≤ i := by
          rw [hs3.length, List.length_take]
          omega
        have hnone : valV svs (.inr q.1) = none := by
          rcases hs3.get (z := q.1) with ⟨q1, _⟩ | ⟨v, d, q1, q2, _⟩
          · exact q1
          · rw [lookup_none] at q2
            · cases q2
            · rw [List.map_take, csD_keys]
              exact nodup_take_get (cs_nodup ok.co) (by rw [List.getElem?_map, hq]; rfl)
        walk_at "rd"
        refine x_objM hB3.1 rfl ?_
        walk_at "rd"
        refine ⟨b, dx, d1, d2, q.1, q.2, kvs, svs, rfl, (ok.cn q hmem).1, (ok.cn q hmem).2, hB3, hnone, by omega, fun H4 hB4 c5 => ?_⟩
        walk_at "rd"
        refine ⟨_, _, rfl, c3.fresh c5 n2, c4.seq c5, hB4, ?_⟩
        have e : (csD cs).take (i + 1) = (csD cs).take i ++ [(q.1, .int q.2)] := by
          rw [List.take_add_one]
          unfold csD
          rw [List.getElem?_map, hq]
          rfl
        rw [e]
        exact (hs3.ch c5).snoc (.int _)
      · obtain ⟨o3, svs, rfl, c3, c4, hB3, hs3⟩ := hI
        have hss : DvA K H2 svs (csD cs) := by
          rw [hpl, List.take_of_length_le (by unfold csD; rw [List.length_map]; exact Nat.le_refl _)] at hs3
          exact hs3
        walk_at "rd"
        exact kk b H2 kvs svs hb ⟨dx, d1, d2, hB3⟩ (hkk.ch c4) hss c3
end
inductive Ar where
  | non | num (n : Int) | now (z : Str) | late (z : Str)
def Ar.d : Ar → PyData
  | .non => .none
  | .num n => .int n
  | .now z => .tuple [.str "now", .str z]
  | .late z => .tuple [.str "late", .str z]
inductive Gd where
  | done | error | always
deriving DecidableEq
def Gd.s : Gd → Str
  | .done => "done"
  | .error => "error"
  | .always => "always"
inductive Act where
  | mk (g : Gd) (st : Str) (a : Ar) (fs : List Act)
def Act.g : Act → Gd
  | .mk g _ _ _ => g
def Act.st : Act → Str
  | .mk _ s _ _ => s
def Act.a : Act → Ar
  | .mk _ _ a _ => a
def Act.fs : Act → List Act
  | .mk _ _ _ f => f
mutual
def Act.d : Act → PyData
  | .mk g st a fs => .tuple [.str g.s, .str st, a.d, .tuple (Act.dAll fs)]
def Act.dAll : List Act → List PyData
  | [] => []
  | x :: r => x.d :: Act.dAll r
end
theorem dAll_map : ∀ l : List Act, Act.dAll l = l.map Act.d
  | [] => by rw [Act.dAll]; rfl
  | x :: r => by rw [Act.dAll, dAll_map r]; rfl
theorem Act.d_eq (x : Act) : x.d = .tuple [.str x.g.s, .str x.st, x.a.d, .tuple (x.fs.map Act.d)] := by
  cases x with
  | mk g st a fs => rw [Act.d, dAll_map]; rfl
def ArOk (C : List Str) : Ar → Prop
  | .non => True
  | .num n => 0 ≤ n ∧ n ≤ 999
  | .now z => z ∈ C
  | .late z => z ∈ C
/-- an action with further ones up to so many levels below it -/
def OkAct (N C : List Str) : Nat → Act → Prop
  | 0, x => x.st ∈ N ∧ ArOk C x.a ∧ x.fs = []
  | r + 1, x => x.st ∈ N ∧ ArOk C x.a ∧ x.fs.length ≤ 3 ∧ (x.fs ≠ [] → x.g ≠ .error) ∧ ∀ f ∈ x.fs, OkAct N C r f
theorem OkAct.st {N C : List Str} {r : Nat} {x : Act} (h : OkAct N C r x) : x.st ∈ N := by
  cases r with
  | zero => exact h.1
  | succ r => exact h.1
theorem OkAct.ar {N C : List Str} {r : Nat} {x : Act} (h : OkAct N C r x) : ArOk C x.a := by
  cases r with
  | zero => exact h.2.1
  | succ r => exact h.2.1
theorem OkAct.le {N C : List Str} {r : Nat} {x : Act} (h : OkAct N C r x) : x.fs.length ≤ 3 := by
  cases r with
  | zero => rw [h.2.2]; decide
  | succ r => exact h.2.2.1
theorem OkAct.ng {N C : List Str} {r : Nat} {x : Act} (h : OkAct N C r x) (n : x.fs ≠ []) : x.g ≠ .error ∧ 0 < r := by
  cases r with
  | zero => exact absurd h.2.2 n
  | succ r => exact ⟨h.2.2.2.1 n, Nat.succ_pos _⟩
theorem OkAct.sub {N C : List Str} {r : Nat} {x : Act} (h : OkAct N C r x) {f : Act} (m : f ∈ x.fs) : ∃ q, r = q + 1 ∧ OkAct N C q f := by
  cases r with
  | zero => rw [h.2.2] at m; cases m
  | succ r => exact ⟨r, rfl, h.2.2.2.2 f m⟩
theorem gd_ok (g : Gd) : PyData.strOk g.s = true := by cases g <;> decide +kernel
theorem ar_lay {C : List Str} (hC : ∀ z ∈ C, IsName z) {a : Ar} (h : ArOk C a) : a.d.canLay0 = true ∧ a.d.depth ≤ 2 := by
  cases a with
  | non => simp [Ar.d, PyData.canLay0, PyData.depth]
  | num n => simp [Ar.d, PyData.canLay0, PyData.depth]
  | now z =>
    simp [Ar.d, PyData.canLay0, PyData.canLayAll0, PyData.depth, PyData.depthAll]
    exact ⟨by decide +kernel, strOk_name (hC z h)⟩
  | late z =>
    simp [Ar.d, PyData.canLay0, PyData.canLayAll0, PyData.depth, PyData.depthAll]
    exact ⟨by decide +kernel, strOk_name (hC z h)⟩
theorem layAll_of {l : List Act} (h : ∀ x ∈ l, x.d.canLay0 = true) : PyData.canLayAll0 (l.map Act.d) = true := by
  induction l with
  | nil => rw [List.map_nil, PyData.canLayAll0]
  | cons x r ih => rw [List.map_cons, PyData.canLayAll0, h x List.mem_cons_self, ih fun y hy => h y (List.mem_cons_of_mem _ hy)]; rfl
theorem depthAll_of {l : List Act} {n : Nat} (h : ∀ x ∈ l, x.d.depth ≤ n) : PyData.depthAll (l.map Act.d) ≤ n := by
  induction l with
  | nil => rw [List.map_nil, PyData.depthAll]; exact Nat.zero_le _
  | cons x r ih =>
    rw [List.map_cons, PyData.depthAll]
    exact Nat.max_le.mpr ⟨h x List.mem_cons_self, ih fun y hy => h y (List.mem_cons_of_mem _ hy)⟩
theorem act_lay {N C : List Str} (hN : ∀ z ∈ N, IsName z) (hC : ∀ z ∈ C, IsName z) : ∀ {r : Nat} {x : Act}, OkAct N C r x → x.d.canLay0 = true ∧ x.d.depth ≤ 2 * r + 3 := by
  intro r
  induction r with
  | zero =>
    intro x h
    obtain ⟨a1, a2⟩ := ar_lay hC h.ar
    have e : x.fs = [] := h.2.2
    rw [Act.d_eq, e]
    simp [PyData.canLay0, PyData.canLayAll0, PyData.depth, PyData.depthAll]
    exact ⟨⟨gd_ok _, strOk_name (hN _ h.st), a1⟩, by omega⟩
  | succ r ih =>
    intro x h
    obtain ⟨a1, a2⟩ := ar_lay hC h.ar
    have i1 : ∀ f ∈ x.fs, f.d.canLay0 = true := fun f m => by
      obtain ⟨q, e, o⟩ := h.sub m
      injection e with e
      subst e
      exact (ih o).1
    have i2 : ∀ f ∈ x.fs, f.d.depth ≤ 2 * r + 3 := fun f m => by
      obtain ⟨q, e, o⟩ := h.sub m
      injection e with e
      subst e
      exact (ih o).2
    have b1 := layAll_of i1
    have b2 := depthAll_of i2
    rw [Act.d_eq]
    simp [PyData.canLay0, PyData.canLayAll0, PyData.depth, PyData.depthAll]
    exact ⟨⟨gd_ok _, strOk_name (hN _ h.st), a1, b1⟩, by omega⟩
theorem fs_shaped {N C : List Str} (hN : ∀ z ∈ N, IsName z) (hC : ∀ z ∈ C, IsName z) {r : Nat} (hr : r ≤ 10) {x : Act} (h : OkAct N C r x) : SeqAt.shaped (.tuple (x.fs.map Act.d)) = true := by
  unfold SeqAt.shaped
  have i1 : ∀ f ∈ x.fs, f.d.canLay0 = true := fun f m => by
    obtain ⟨q, e, o⟩ := h.sub m
    exact (act_lay hN hC o).1
  have i2 : ∀ f ∈ x.fs, f.d.depth ≤ 30 := fun f m => by
    obtain ⟨q, e, o⟩ := h.sub m
    have := (act_lay hN hC o).2
    omega
  have b1 := layAll_of i1
  have b2 := depthAll_of i2
  refine Bool.and_eq_true_iff.mpr ⟨by rw [PyData.canLay0]; exact b1, decide_eq_true ?_⟩
  rw [PyData.depth]
  omega
theorem eqv_nil (l : List PyData) : PyData.eqv (.tuple l) (.tuple []) = decide (l = []) := by
  cases l with
  | nil => simp [PyData.eqv, PyData.eqvAll]
  | cons x r => simp [PyData.eqv, PyData.eqvAll]
theorem nil_shaped : SeqAt.shaped (.tuple []) = true := by
  simp [SeqAt.shaped, PyData.canLay0, PyData.canLayAll0, PyData.depth, PyData.depthAll]
/-- an action's parts -/
theorem act_inv {K : PySem.W.Frag} {H : Hp} {v : V} {x : Act} (h : Dt K H v x.d) : ∃ (a : Addr) (av : V) (fa : Addr) (fv : List V), v = .ref a ∧ SqT K H a [.str x.g.s, .str x.st, av, .ref fa] ∧ Dt K H av x.a.d ∧ SqT K H fa fv ∧ DtA K H fv (x.fs.map Act.d) := by
  rw [Act.d_eq] at h
  cases h with
  | @tup a ys _ hs ha =>
  cases ha with
  | cons q1 q2 =>
  cases q1
  cases q2 with
  | cons q3 q4 =>
  cases q3
  cases q4 with
  | cons q5 q6 =>
  cases q6 with
  | cons q7 q8 =>
  cases q8
  cases q7 with
  | tup hs2 ha2 => exact ⟨a, _, _, _, rfl, hs, q5, hs2, ha2⟩
theorem act_mk {K : PySem.W.Frag} {H : Hp} {a : Addr} {av fv : V} {g : Gd} {st : Str} {r : Ar} {fs : List Act} (h : SqT K H a [.str g.s, .str st, av, fv]) (ha : Dt K H av r.d) (hf : Dt K H fv (.tuple (fs.map Act.d))) : Dt K H (.ref a) (Act.mk g st r fs).d := by
  rw [Act.d_eq]
  exact .tup h (.cons (.str _) (.cons (.str _) (.cons ha (.cons hf .nil))))
/-- the halves of an action -/
def hv (x : Act) : List Act := if x.g = .always then [.mk .done x.st x.a x.fs, .mk .error x.st x.a []] else [x]
/-- a late argument's cell, read -/
def look (cs : List (Str × Int)) (held : List Int) (z : Str) : Int := (((cs.map (·.1)).zip held).lookup z).getD 0
def vlA (cs : List (Str × Int)) (held : List Int) : Ar → Ar
  | .non => .non
  | .num n => .num n
  | .now z => .num (look cs held z)
  | .late z => .num (look cs held z)
/-- a now argument, settled -/
def seA (cs : List (Str × Int)) (held : List Int) : Ar → Ar
  | .now z => .num (look cs held z)
  | a => a
def se (cs : List (Str × Int)) (held : List Int) (x : Act) : List Act := hv (.mk x.g x.st (seA cs held x.a) x.fs)
inductive Ex where
  | ret (n : Int) | leave (z : Str) | raise (z : Str)
def Ex.d : Ex → PyData
  | .ret n => .tuple [.str "return", .int n]
  | .leave z => .tuple [.str "leave", .str z]
  | .raise z => .tuple [.str "raise", .str z]
def Ex.gd : Ex → Gd
  | .raise _ => .error
  | _ => .done
/-- the exit behind a half -/
def aft (e : Ex) (st : Str) (k : Kd) (g : Gd) (ans : Bool) : Ex :=
  if ans then (match k, g with
    | .jump z, _ => .leave z
    | .answer n, .done => .ret n
    | .heal n, .error => .ret n
    | .swap z, .error => .raise z
    | _, _ => e) else .raise st
/-- a book over the lore's kinds and cells -/
structure Bo (K : PySem.W.Frag) (H : Hp) (b : Addr) (ks : List (Str × Kd)) (cs : List (Str × Int)) (kvs svs : List (Key × V)) : Prop where
  bk : Bk K H b kvs svs
  kv : DvA K H kvs (ksD ks)
  sv : DvA K H svs (csD cs)
theorem Bo.ch {K : PySem.W.Frag} {H H' : Hp} {S : List Addr} {b : Addr} {ks : List (Str × Kd)} {cs : List (Str × Int)} {kvs svs : List (Key × V)} (h : Bo K H b ks cs kvs svs) (c : Ch S H H') (n : ∀ x ∈ S, ∀ o, H x = some o → NB o = true) : Bo K H' b ks cs kvs svs := ⟨h.bk.ch c n, h.kv.ch c, h.sv.ch c⟩
theorem Bo.ch0 {K : PySem.W.Frag} {H H' : Hp} {b : Addr} {ks : List (Str × Kd)} {cs : List (Str × Int)} {kvs svs : List (Key × V)} (h : Bo K H b ks cs kvs svs) (c : Ch [] H H') : Bo K H' b ks cs kvs svs := h.ch c fun x m => by cases m
def sp_check_argument (K : PySem.W.Frag) : Sp := fun vs H Q E => ∃ (b : Addr) (av o : V) (a : Ar) (ks : List (Str × Kd)) (cs : List (Str × Int)) (kvs svs : List (Key × V)), vs = [.ref b, av, o] ∧ Bo K H b ks cs kvs svs ∧ CsOk cs ∧ Dt K H av a.d ∧ ArOk (cs.map (·.1)) a ∧ ∀ v H', Ch [] H H' → Q v H'
def sp_check_at (K : PySem.W.Frag) (r : Nat) : Sp := fun vs H Q E => ∃ (b : Addr) (v : V) (x : Act) (ks : List (Str × Kd)) (cs : List (Str × Int)) (kvs svs : List (Key × V)), vs = [.ref b, v, .int (2 - r)] ∧ r ≤ 2 ∧ Bo K H b ks cs kvs svs ∧ LoOk ks cs ∧ Dt K H v x.d ∧ OkAct (ks.map (·.1)) (cs.map (·.1)) r x ∧ ∀ H', Ch [] H H' → Q v H'
def sp_check_action (K : PySem.W.Frag) : Sp := fun vs H Q E => ∃ (b : Addr) (v : V) (x : Act) (ks : List (Str × Kd)) (cs : List (Str × Int)) (kvs svs : List (Key × V)), vs = [.ref b, v] ∧ Bo K H b ks cs kvs svs ∧ LoOk ks cs ∧ Dt K H v x.d ∧ OkAct (ks.map (·.1)) (cs.map (·.1)) 2 x ∧ ∀ H', Ch [] H H' → Q v H'
def sp_halves (K : PySem.W.Frag) : Sp := fun vs H Q E => ∃ (v : V) (x : Act), vs = [v] ∧ Dt K H v x.d ∧ ∀ t ts H', SqT K H' t ts → DtA K H' ts ((hv x).map Act.d) → Ch [] H H' → Q (.ref t) H'
section
variable {P : Program} {w : World} {K : PySem.W.Frag} {mg : Str → Option Value} {base : Heap}
theorem inV_yes {z : Str} {us : List Str} (h : z ∈ us) : inV (.str z) (us.map V.str) = true := by rw [inV_str]; exact decide_eq_true h
theorem x_neDat {H : Hp} {Q : VK} {x y : V} {d e : PyData} (h1 : Dt K H x d) (h2 : Dt K H y e) (s1 : SeqAt.shaped d = true) (s2 : SeqAt.shaped e = true) (q : Q (.bl (!PyData.eqv d e)) H) : rNeU K x y H Q := .inr ⟨d, e, h1.dp, h2.dp, s1, s2, q⟩
theorem ok_check_argument (T : Txt K mg)  : FD P w K mg base CX0 5 (He.ga K "check_argument") ["book", "argument", "owner"] (sp_check_argument K) := by
  refine FD.mk0 T.f_check_argument sc_check_argument (fun vs H Q E h => ?_) (fun _ _ _ _ _ _ us hl => match us, hl with | [_, _, _], _ => rfl) (fun cdv A outer s H vs Q E hr h => ⟨_, (pss_cons (ps_if (pt_cmpR u_is (pv 1) pe_non (nomark _)) (pss_one ps_retN) pss_nil)
  (pss_cons (ps_if (pt_not (pt_val (pe_callB call_isi (by rfl) T.n_isinstance bb_isinstance (pa_cons (pv 1) (pa_cons (pe_bltn (v := .ty "tuple") (by rfl) T.n_tuple bb_tuple rfl) pa_nil))))) (pss_cons (ps_expr (pe_callD (ok_check_number T) hr (by first | decide | omega) (by rfl) T.g_check_number pass0 (pa_cons (pv 1) pa_nil)))
  (pss_one ps_retN)) pss_nil)
  (pss_cons (ps_if (pt_cmpR u_notin (pe_ix ix_seq (pv 1) pe_int (by intro _ _; rfl)) (pe_gc (by rfl) T.v_READS) (by rfl)) pss_never pss_nil)
  (pss_one (ps_if (pt_cmpR u_notin (pe_ix ix_seq (pv 1) pe_int (by intro _ _; rfl)) (pe_callD (ok_cell_names T) hr (by first | decide | omega) (by rfl) T.g_cell_names pass0 (pa_cons (pv 0) pa_nil)) (by rfl)) pss_never pss_nil))))), ?_⟩)
  · obtain ⟨b, av, o, a, ks, cs, kvs, svs, rfl, _⟩ := h
    rfl
  · obtain ⟨b, av, o, a, ks, cs, kvs, svs, rfl, hB, hc, hd, ok, kk⟩ := h
    walk_at "st"
    walk_at "rd"
    cases a with
    | non =>
      cases hd
      walk_at "rd"
      exact kk _ _ (Ch.refl _)
    | num n =>
      cases hd
      walk_at "rd"
      refine x_isInt (b := false) (by decide +kernel) ?_
      walk_at "rd"
      refine use_cnum ok.1 ok.2 ?_
      walk_at "rd"
      exact kk _ _ (Ch.refl _)
    | now z =>
      cases hd with
      | @tup a ys _ hs ha =>
      cases ha with
      | cons q1 q2 =>
      cases q1
      cases q2 with
      | cons q3 q4 =>
      cases q3
      cases q4
      walk_at "rd"
      refine x_isTup (b := true) hs (by decide +kernel) ?_
      walk_at "rd"
      refine x_notInT (T.q_READS H) rfl rfl ?_
      rw [show inV (.str "now") [.str "now", .str "late"] = true from rfl]
      walk_at "rd"
      refine ⟨b, kvs, svs, cs, rfl, hB.bk, hB.sv, hc, fun l H' hl h' c1 => ?_⟩
      refine x_notInL (SqL.of (xs := (cs.map (·.1)).map V.str) (by rw [h', List.map_map]; rfl)) rfl (flat_str _) ?_
      rw [inV_yes ok]
      walk_at "rd"
      exact kk _ _ c1
    | late z =>
      cases hd with
      | @tup a ys _ hs ha =>
      cases ha with
      | cons q1 q2 =>
      cases q1
      cases q2 with
      | cons q3 q4 =>
      cases q3
      cases q4
      walk_at "rd"
      refine x_isTup (b := true) hs (by decide +kernel) ?_
      walk_at "rd"
      refine x_notInT (T.q_READS H) rfl rfl ?_
      rw [show inV (.str "late") [.str "now", .str "late"] = true from rfl]
      walk_at "rd"
      refine ⟨b, kvs, svs, cs, rfl, hB.bk, hB.sv, hc, fun l H' hl h' c1 => ?_⟩
      refine x_notInL (SqL.of (xs := (cs.map (·.1)).map V.str) (by rw [h', List.map_map]; rfl)) rfl (flat_str _) ?_
      rw [inV_yes ok]
      walk_at "rd"
      exact kk _ _ c1
theorem st_check_at (T : Txt K mg) {j k : Nat} {sp' : Sp} (r : Nat) (F : FD P w K mg base CX0 j (He.ga K "check_at") ["book", "action", "depth"] sp') (hj : j ≤ k) (hk : 5 ≤ k) (hsp : ∀ q, r = q + 1 → sp' = sp_check_at K q) :
    FD P w K mg base CX0 (k + 1) (He.ga K "check_at") ["book", "action", "depth"] (sp_check_at K r) := by
  refine FD.mk0 T.f_check_at sc_check_at (fun vs H Q E h => ?_) (fun _ _ _ _ _ _ us hl => match us, hl with | [_, _, _], _ => rfl) (fun cdv A outer s H vs Q E hr h => ⟨_, (pss_cons (ps_asg (pv 1) (pg_tup rfl (pgs_cons (pg_name (i := 3) sc_check_at.nd rfl (.inl rfl)) (pgs_cons (pg_name (i := 4) sc_check_at.nd rfl (.inl rfl)) (pgs_cons (pg_name (i := 5) sc_check_at.nd rfl (.inl rfl)) (pgs_cons (pg_name (i := 6) sc_check_at.nd rfl (.inl rfl)) pgs_nil))))))
  (pss_cons (ps_if (pt_cmpR u_notin (pv 3) (pe_gc (by rfl) T.v_GUARDS) (by rfl)) pss_never pss_nil)
  (pss_cons (ps_if (pt_cmpR (u_notinO T.m_Book___contains__ (ok_Book___contains__ T).raw (hr.mono (by omega)) (E := E0) pass0) (pv 4) (pv 0) (by rfl)) pss_never pss_nil)
  (pss_cons (ps_expr (pe_callD (ok_check_argument T) hr (by first | decide | omega) (by rfl) T.g_check_argument pass0 (pa_cons (pv 0) (pa_cons (pv 5) (pa_cons (pv 1) pa_nil)))))
  (pss_cons (ps_if (PW.pt (pw_or (PW.pt (pw_and (pt_cmpR (u_ne (hu64 hr)) (pv 6) (pe_tup pa_nil) (nomark _)) (pw_and1 (PW.pt (pw_or (pt_cmpR (u_eq (hu64 hr)) (pv 3) pe_str (nomark _)) (pw_or1 (pt_cmpR (u_eq (hu64 hr)) (pv 2) (pe_gc (by rfl) T.v_DEEP) (nomark _)))))))) (pw_or1 (pt_cmpR u_gt (pe_callB c_len (by rfl) T.n_len bb_len (pa_cons (pv 6) pa_nil)) (pe_gc (by rfl) T.v_MANY) (nomark _))))) pss_never pss_nil)
  (pss_cons (ps_for PassesOwn.never rfl (pi_tup (pv 6)) (pg_name (i := 7) sc_check_at.nd rfl (.inl rfl)) (pss_one (ps_expr (pe_callD F hr (by first | decide | omega) (by rfl) T.g_check_at pass0 (pa_cons (pv 0) (pa_cons (pv 7) (pa_cons (pe_op u_add (pv 2) pe_int) pa_nil)))))))
  (pss_one (ps_ret (pv 1))))))))), ?_⟩)
  · obtain ⟨b, v, x, ks, cs, kvs, svs, rfl, _⟩ := h
    rfl
  · obtain ⟨b, v, x, ks, cs, kvs, svs, rfl, hr2, hB, lo, hd, ok, kk⟩ := h
    obtain ⟨a, av, fa, fv, rfl, hs, hav, hf, hfa⟩ := act_inv hd
    have hfl : fv.length = x.fs.length := by rw [hfa.length, List.length_map]
    have hG := T.q_GUARDS H
    have hgi : inV (.str x.g.s) [.str "done", .str "error", .str "always"] = true := by cases x.g <;> rfl
    have hNm : ∀ z ∈ ks.map (·.1), IsName z := fun z hz => by
      obtain ⟨q, hq, rfl⟩ := List.mem_map.mp hz
      exact (lo.ok q hq).1
    have hCm : ∀ z ∈ cs.map (·.1), IsName z := fun z hz => by
      obtain ⟨q, hq, rfl⟩ := List.mem_map.mp hz
      exact (lo.cn q hq).1
    obtain ⟨dx, d1, d2, hb1, _⟩ := id hB.bk
    have hkn : ∃ v, valV kvs (.inr x.st) = some v := by
      rcases hB.kv.get (z := x.st) with ⟨_, q2⟩ | ⟨v, d, q1, _⟩
      · exfalso
        obtain ⟨q, hq, e⟩ := List.mem_map.mp ok.st
        have := lookup_some (ks := ksD ks) (z := x.st) (d := q.2.d) (by rw [ksD_keys]; exact lo.nd) (List.mem_map.mpr ⟨q, hq, by rw [← e]⟩)
        rw [q2] at this
        cases this
      · exact ⟨v, q1⟩
    obtain ⟨kv, hkv⟩ := hkn
    walk_at "st"
    walk_at "rd"
    refine x_notInT hG rfl rfl ?_
    rw [hgi]
    walk_at "rd"
    refine x_obj hb1 ?_
    refine ⟨b, x.st, kvs, svs, rfl, hB.bk, ⟨true, by rw [hkv]; rfl, ?_⟩⟩
    walk_at "rd"
    refine ⟨b, av, .ref a, x.a, ks, cs, kvs, svs, rfl, hB, lo.co, hav, ok.ar, fun _ H1 c1 => ?_⟩
    walk_at "rd"
    refine nT fun e0 H2 he0 hee c2 => ?_
    have c02 := c1.nilL c2
    have hf2 := c02.sqT hf
    have hfa2 := hfa.ch c02
    refine x_neDat (d := .tuple (x.fs.map Act.d)) (e := .tuple []) (.tup hf2 hfa2) (.tup (SqT.of hee) .nil) (fs_shaped hNm hCm (by omega) ok) nil_shaped ?_
    rw [eqv_nil, show decide (x.fs.map Act.d = []) = decide (x.fs = []) from by simp]
    have rest : ∀ H3, Ch [] H H3 → tSeq (tFor (iTup K (tVar 6)) (gName 7) (tDrop (tCall sp' [] E0 (tCons (tVar 0) (tCons (tVar 7) (tCons (tOp (rAdd K) (tVar 2) (tC (V.int 1))) tNil)))))) (tRet (tVar 1)) ⟨fun _ H' => Q .non H', Q, fun _ _ => False, fun _ _ => False⟩ [some (.ref b), some (.ref a), some (.int (2 - r)), some (.str x.g.s), some (.str x.st), some av, some (.ref fa), none] H3 := fun H3 c3 => by
      have hf3 := c3.sqT hf
      walk_at "rd"
      refine goT fv (fun i σ H' => Ch [] H H' ∧ ∃ o, σ = [some (.ref b), some (.ref a), some (.int (2 - r)), some (.str x.g.s), some (.str x.st), some av, some (.ref fa), o]) ⟨c3, none, rfl⟩ (fun i σ H' _ hI => hI.1.sqT hf) (fun i y σ H' hy hI => ?_) (fun σ H' hI => ?_)
      · obtain ⟨c, o, rfl⟩ := hI
        obtain ⟨d, hd', hyd⟩ := hfa.get hy
        obtain ⟨f, hf', rfl⟩ : ∃ f, x.fs[i]? = some f ∧ d = f.d := by
          rw [List.getElem?_map] at hd'
          cases e : x.fs[i]? with
          | none => rw [e] at hd'; cases hd'
          | some f => rw [e] at hd'; exact ⟨f, rfl, (Option.some.inj hd').symm⟩
        obtain ⟨q, rfl, okf⟩ := ok.sub (List.mem_of_getElem? hf')
        rw [hsp q rfl]
        walk_at "rd"
        refine ⟨b, y, f, ks, cs, kvs, svs, ?_, by omega, hB.ch0 c, lo, hyd.ch c, okf, fun H4 c4 => ?_⟩
        · have e : (2 - ((q + 1 : Nat) : Int) + 1) = 2 - (q : Int) := by omega
          rw [e]
        · walk_at "rd"
          exact ⟨c.nilL c4, _, rfl⟩
      · obtain ⟨c, o, rfl⟩ := hI
        walk_at "rd"
        exact kk H' c
    have h3 := ok.le
    by_cases hn : x.fs = []
    · repeat (first | with_reducible exact rest H2 c02 | walk_at "rd1")
    · obtain ⟨n1, n2⟩ := ok.ng hn
      have he : ¬ (x.g.s = Str.ofString "error") := fun e => by
        cases hg : x.g with
        | error => exact n1 hg
        | done => rw [hg] at e; exact absurd e (by decide)
        | always => rw [hg] at e; exact absurd e (by decide)
      have hd2 : ¬ ((2 - r : Int) = 2) := by omega
      repeat (first | with_reducible exact rest H2 c02 | walk_at "rd1")
theorem ok_check_at (T : Txt K mg) : ∀ r : Nat, FD P w K mg base CX0 (6 + r) (He.ga K "check_at") ["book", "action", "depth"] (sp_check_at K r)
  | 0 => st_check_at T (sp' := fun _ _ _ _ => False) (j := 1) (k := 5) 0 (FD.mk0 T.f_check_at sc_check_at (fun vs H Q E h => h.elim) (fun _ _ _ _ _ _ us hl => match us, hl with | [_, _, _], _ => rfl) (fun cdv A outer s H vs Q E hr h => h.elim)) (by decide) (Nat.le_refl _) fun q e => by cases e
  | r + 1 => st_check_at T (r + 1) (ok_check_at T r) (Nat.le_refl _) (show 5 ≤ 6 + r by omega) fun q e => by injection e with e; rw [e]
theorem ok_check_action (T : Txt K mg)  : FD P w K mg base CX0 10 (He.ga K "check_action") ["book", "action"] (sp_check_action K) := by
  refine FD.mk0 T.f_check_action sc_check_action (fun vs H Q E h => ?_) (fun _ _ _ _ _ _ us hl => match us, hl with | [_, _], _ => rfl) (fun cdv A outer s H vs Q E hr h => ⟨_, (pss_one (ps_ret (pe_callD (ok_check_at T 2) hr (by first | decide | omega) (by rfl) T.g_check_at pass0 (pa_cons (pv 0) (pa_cons (pv 1) (pa_cons pe_int pa_nil)))))), ?_⟩)
  · obtain ⟨b, v, x, ks, cs, kvs, svs, rfl, _⟩ := h
    rfl
  · obtain ⟨b, v, x, ks, cs, kvs, svs, rfl, hB, lo, hd, ok, kk⟩ := h
    walk_at "st"
    walk_at "rd"
    exact ⟨b, v, x, ks, cs, kvs, svs, rfl, Nat.le_refl _, hB, lo, hd, ok, fun H1 c1 => kk H1 c1⟩
theorem ok_halves (T : Txt K mg)  : FD P w K mg base CX0 2 (He.ga K "halves") ["action"] (sp_halves K) := by
  refine FD.mk0 T.f_halves sc_halves (fun vs H Q E h => ?_) (fun _ _ _ _ _ _ us hl => match us, hl with | [_], _ => rfl) (fun cdv A outer s H vs Q E hr h => ⟨_, (pss_cons (ps_asg (pv 0) (pg_tup rfl (pgs_cons (pg_name (i := 1) sc_halves.nd rfl (.inl rfl)) (pgs_cons (pg_name (i := 2) sc_halves.nd rfl (.inl rfl)) (pgs_cons (pg_name (i := 3) sc_halves.nd rfl (.inl rfl)) (pgs_cons (pg_name (i := 4) sc_halves.nd rfl (.inl rfl)) pgs_nil))))))
  (pss_cons (ps_if (pt_cmpR (u_ne (hu64 hr)) (pv 1) pe_str (nomark _)) (pss_one (ps_ret (pe_tup (pa_cons (pv 0) pa_nil)))) pss_nil)
  (pss_one (ps_ret (pe_tup (pa_cons (pe_tup (pa_cons pe_str (pa_cons (pv 2) (pa_cons (pv 3) (pa_cons (pv 4) pa_nil))))) (pa_cons (pe_tup (pa_cons pe_str (pa_cons (pv 2) (pa_cons (pv 3) (pa_cons (pe_tup pa_nil) pa_nil))))) pa_nil))))))), ?_⟩)
  · obtain ⟨v, x, rfl, _⟩ := h
    rfl
  · obtain ⟨v, x, rfl, hd, kk⟩ := h
    obtain ⟨a, av, fa, fv, rfl, hs, hav, hf, hfa⟩ := act_inv hd
    walk_at "st"
    walk_at "rd"
    by_cases hg : x.g = .always
    · have e : ¬ (x.g.s ≠ Str.ofString "always") := by rw [hg]; exact fun h => h rfl
      have e' : x.g.s = Str.ofString "always" := by rw [hg]; rfl
      walk_at "rd"
      refine nT fun t1 H1 ht1 h1 c1 => ?_
      walk_at "rd"
      refine nT fun t0 H2 ht0 h0 c2 => ?_
      walk_at "rd"
      refine nT fun t2 H3 ht2 h2 c3 => ?_
      walk_at "rd"
      refine nT fun t H4 ht h4 c4 => ?_
      have ca : Ch [] H H4 := ((c1.nilL c2).nilL c3).nilL c4
      refine kk t _ H4 (SqT.of h4) ?_ ca
      have e2 : hv x = [.mk .done x.st x.a x.fs, .mk .error x.st x.a []] := by unfold hv; rw [if_pos hg]
      rw [e2]
      refine .cons (act_mk (SqT.of (c4.get0 (c3.get0 (c2.get0 h1)))) (hav.ch ca) (.tup (ca.sqT hf) (hfa.ch ca))) (.cons (act_mk (SqT.of (c4.get0 h2)) (hav.ch ca) (.tup (SqT.of (c4.get0 (c3.get0 h0))) .nil)) .nil)
    · have e : ¬ (x.g.s = Str.ofString "always") := fun h => by
        cases hx : x.g with
        | always => exact hg hx
        | done => rw [hx] at h; exact absurd h (by decide)
        | error => rw [hx] at h; exact absurd h (by decide)
      walk_at "rd"
      refine nT fun t H4 ht h4 c4 => ?_
      have e2 : hv x = [x] := by unfold hv; rw [if_neg hg]
      exact kk t _ H4 (SqT.of h4) (by rw [e2]; exact .cons (hd.ch c4) .nil) c4
end
/-- held values of the cells -/
structure Hd (K : PySem.W.Frag) (H : Hp) (s : Addr) (held : List Int) : Prop where
  at_ : SqT K H s (held.map V.int)
theorem Hd.ch {K : PySem.W.Frag} {S : List Addr} {H H' : Hp} {s : Addr} {held : List Int} (h : Hd K H s held) (c : Ch S H H') : Hd K H' s held := ⟨c.sqT h.at_⟩
def sp_value_of (K : PySem.W.Frag) : Sp := fun vs H Q E => ∃ (av : V) (a : Ar) (b s : Addr) (ks : List (Str × Kd)) (cs : List (Str × Int)) (kvs svs : List (Key × V)) (held : List Int), vs = [av, .ref b, .ref s] ∧ Bo K H b ks cs kvs svs ∧ CsOk cs ∧ Dt K H av a.d ∧ ArOk (cs.map (·.1)) a ∧ Hd K H s held ∧ held.length = cs.length ∧ ∀ v H', Dt K H' v (vlA cs held a).d → Ch [] H H' → Q v H'
def sp_settled (K : PySem.W.Frag) : Sp := fun vs H Q E => ∃ (v : V) (x : Act) (b s : Addr) (ks : List (Str × Kd)) (cs : List (Str × Int)) (kvs svs : List (Key × V)) (held : List Int), vs = [v, .ref b, .ref s] ∧ Bo K H b ks cs kvs svs ∧ CsOk cs ∧ Dt K H v x.d ∧ ArOk (cs.map (·.1)) x.a ∧ Hd K H s held ∧ held.length = cs.length ∧ ∀ t ts H', SqT K H' t ts → DtA K H' ts ((se cs held x).map Act.d) → Ch [] H H' → Q (.ref t) H'
def sp_state (K : PySem.W.Frag) : Sp := fun vs H Q E => ∃ (v : V) (e : Ex), vs = [v] ∧ Dt K H v e.d ∧ Q (.str e.gd.s) H
def sp_after (K : PySem.W.Frag) : Sp := fun vs H Q E => ∃ (v kv : V) (e : Ex) (st : Str) (k : Kd) (g : Gd) (ans : Bool), vs = [v, .str st, kv, .str g.s, .int (if ans then 1 else 0)] ∧ Dt K H v e.d ∧ Dt K H kv k.d ∧ g ≠ .always ∧ ∀ u H', Dt K H' u (aft e st k g ans).d → Ch [] H H' → Q u H'
theorem look_at {cs : List (Str × Int)} {held : List Int} (nd : (cs.map (·.1)).Nodup) (hl : held.length = cs.length) {i : Nat} {z : Str} (e : (cs.map (·.1))[i]? = some z) : held[i]? = some (look cs held z) := by
  unfold look
  have hl' : held.length = (cs.map (·.1)).length := by rw [List.length_map]; exact hl
  revert hl'
  generalize cs.map (·.1) = C at nd e ⊢
  clear hl
  intro hl
  induction C generalizing held i with
  | nil => simp at e
  | cons c r ih =>
    match held, hl with
    | h :: hs, hl =>
    rw [List.nodup_cons] at nd
    cases i with
    | zero =>
      have e' : c = z := Option.some.inj e
      subst e'
      simp [List.lookup]
    | succ i =>
      have e' : r[i]? = some z := by simpa using e
      have hne : z ≠ c := fun q => nd.1 (by rw [← q]; exact List.mem_of_getElem? e')
      have h3 : (z == c) = false := by simpa using hne
      have h2 : List.lookup z ((c, h) :: r.zip hs) = List.lookup z (r.zip hs) := by
        show (match z == c with | true => some h | false => List.lookup z (r.zip hs)) = _
        rw [h3]
      have := ih nd.2 e' (held := hs) (by simpa using hl)
      simpa [h2] using this
section
variable {P : Program} {w : World} {K : PySem.W.Frag} {mg : Str → Option Value} {base : Heap}
theorem ok_state (T : Txt K mg)  : FD P w K mg base CX0 1 (He.ga K "state") ["pending"] (sp_state K) := by
  refine FD.mk0 T.f_state sc_state (fun vs H Q E h => ?_) (fun _ _ _ _ _ _ us hl => match us, hl with | [_], _ => rfl) (fun cdv A outer s H vs Q E hr h => ⟨_, (pss_cons (ps_if (pt_cmpR (u_eq (hu64 hr)) (pe_ix ix_seq (pv 0) pe_int (by intro _ _; rfl)) pe_str (nomark _)) (pss_one (ps_ret (pe_gc (by rfl) T.v_ERROR))) pss_nil)
  (pss_one (ps_ret (pe_gc (by rfl) T.v_DONE)))), ?_⟩)
  · obtain ⟨v, e, rfl, _⟩ := h
    rfl
  · obtain ⟨v, e, rfl, hd, kk⟩ := h
    walk_at "st"
    walk_at "rd"
    cases e with
    | ret n =>
      cases hd with
      | @tup a ys _ hs ha =>
      cases ha with
      | cons q1 q2 =>
      cases q1
      walk_at "rd"
      exact kk
    | leave n =>
      cases hd with
      | @tup a ys _ hs ha =>
      cases ha with
      | cons q1 q2 =>
      cases q1
      walk_at "rd"
      exact kk
    | raise n =>
      cases hd with
      | @tup a ys _ hs ha =>
      cases ha with
      | cons q1 q2 =>
      cases q1
      walk_at "rd"
      exact kk
theorem ok_after (T : Txt K mg)  : FD P w K mg base CX0 1 (He.ga K "after") ["pending", "step", "kind", "guard", "answer"] (sp_after K) := by
  refine FD.mk0 T.f_after sc_after (fun vs H Q E h => ?_) (fun _ _ _ _ _ _ us hl => match us, hl with | [_, _, _, _, _], _ => rfl) (fun cdv A outer s H vs Q E hr h => ⟨_, (pss_cons (ps_if (pt_cmpR (u_eq (hu64 hr)) (pv 4) pe_int (nomark _)) (pss_one (ps_ret (pe_tup (pa_cons pe_str (pa_cons (pv 1) pa_nil))))) pss_nil)
  (pss_cons (ps_if (pt_cmpR (u_eq (hu64 hr)) (pe_ix ix_seq (pv 2) pe_int (by intro _ _; rfl)) pe_str (nomark _)) (pss_one (ps_ret (pe_tup (pa_cons pe_str (pa_cons (pe_ix ix_seq (pv 2) pe_int (by intro _ _; rfl)) pa_nil))))) pss_nil)
  (pss_cons (ps_if (PW.pt (pw_and (pt_cmpR (u_eq (hu64 hr)) (pe_ix ix_seq (pv 2) pe_int (by intro _ _; rfl)) pe_str (nomark _)) (pw_and1 (pt_cmpR (u_eq (hu64 hr)) (pv 3) (pe_gc (by rfl) T.v_DONE) (nomark _))))) (pss_one (ps_ret (pe_tup (pa_cons pe_str (pa_cons (pe_ix ix_seq (pv 2) pe_int (by intro _ _; rfl)) pa_nil))))) pss_nil)
  (pss_cons (ps_if (PW.pt (pw_and (pt_cmpR (u_eq (hu64 hr)) (pe_ix ix_seq (pv 2) pe_int (by intro _ _; rfl)) pe_str (nomark _)) (pw_and1 (pt_cmpR (u_eq (hu64 hr)) (pv 3) (pe_gc (by rfl) T.v_ERROR) (nomark _))))) (pss_one (ps_ret (pe_tup (pa_cons pe_str (pa_cons (pe_ix ix_seq (pv 2) pe_int (by intro _ _; rfl)) pa_nil))))) pss_nil)
  (pss_cons (ps_if (PW.pt (pw_and (pt_cmpR (u_eq (hu64 hr)) (pe_ix ix_seq (pv 2) pe_int (by intro _ _; rfl)) pe_str (nomark _)) (pw_and1 (pt_cmpR (u_eq (hu64 hr)) (pv 3) (pe_gc (by rfl) T.v_ERROR) (nomark _))))) (pss_one (ps_ret (pe_tup (pa_cons pe_str (pa_cons (pe_ix ix_seq (pv 2) pe_int (by intro _ _; rfl)) pa_nil))))) pss_nil)
  (pss_one (ps_ret (pv 0)))))))), ?_⟩)
  · obtain ⟨v, kv, e, st, k, g, ans, rfl, _⟩ := h
    rfl
  · obtain ⟨v, kv, e, st, k, g, ans, rfl, hd, hk, hg, kk⟩ := h
    walk_at "st"
    walk_at "rd"
    cases ans with
    | false =>
      refine ite_b (fun e => ?_) (fun e => ?_)
      rotate_left 1
      · exact absurd e (by decide)
      walk_at "rd"
      refine nT fun t H1 ht h1 c1 => ?_
      exact kk _ H1 (two_d h1 (.str _) (.str _)) c1
    | true =>
      refine ite_b (fun e => ?_) (fun e => ?_)
      · exact absurd e (by decide)
      walk_at "rd"
      cases k with
      | plain =>
        cases hk with
        | @tup a ys _ hs ha =>
        cases ha with
        | cons q1 q2 =>
        cases q1
        cases q2
        cases g with
        | done =>
          walk_at "rd"
          exact kk _ H hd (Ch.refl _)
        | error =>
          walk_at "rd"
          exact kk _ H hd (Ch.refl _)
        | always => exact absurd rfl hg
      | answer n =>
        cases hk with
        | @tup a ys _ hs ha =>
        cases ha with
        | cons q1 q2 =>
        cases q1
        cases q2 with
        | cons q3 q4 =>
        cases q3
        cases q4
        cases g with
        | done =>
          walk_at "rd"
          refine nT fun t H1 ht h1 c1 => ?_
          exact kk _ H1 (two_d h1 (.str _) (.int _)) c1
        | error =>
          walk_at "rd"
          exact kk _ H hd (Ch.refl _)
        | always => exact absurd rfl hg
      | jump z =>
        cases hk with
        | @tup a ys _ hs ha =>
        cases ha with
        | cons q1 q2 =>
        cases q1
        cases q2 with
        | cons q3 q4 =>
        cases q3
        cases q4
        cases g with
        | done =>
          walk_at "rd"
          refine nT fun t H1 ht h1 c1 => ?_
          exact kk _ H1 (two_d h1 (.str _) (.str _)) c1
        | error =>
          walk_at "rd"
          refine nT fun t H1 ht h1 c1 => ?_
          exact kk _ H1 (two_d h1 (.str _) (.str _)) c1
        | always => exact absurd rfl hg
      | heal n =>
        cases hk with
        | @tup a ys _ hs ha =>
        cases ha with
        | cons q1 q2 =>
        cases q1
        cases q2 with
        | cons q3 q4 =>
        cases q3
        cases q4
        cases g with
        | done =>
          walk_at "rd"
          exact kk _ H hd (Ch.refl _)
        | error =>
          walk_at "rd"
          refine nT fun t H1 ht h1 c1 => ?_
          exact kk _ H1 (two_d h1 (.str _) (.int _)) c1
        | always => exact absurd rfl hg
      | swap z =>
        cases hk with
        | @tup a ys _ hs ha =>
        cases ha with
        | cons q1 q2 =>
        cases q1
        cases q2 with
        | cons q3 q4 =>
        cases q3
        cases q4
        cases g with
        | done =>
          walk_at "rd"
          exact kk _ H hd (Ch.refl _)
        | error =>
          walk_at "rd"
          refine nT fun t H1 ht h1 c1 => ?_
          exact kk _ H1 (two_d h1 (.str _) (.str _)) c1
        | always => exact absurd rfl hg
end
theorem x_index {K : PySem.W.Frag} {H : Hp} {Q : VK} {l : Addr} {N : List Str} {z : Str} {i : Nat} (h : SqL K H l (N.map V.str)) (nd : N.Nodup) (e : N[i]? = some z) (q : Q (.int (i : Nat)) H) : rIndex K (.ref l) [.str z] H Q := by
  refine ⟨l, N.map V.str, .str z, i, .str z, rfl, rfl, h, rfl, flat_str N, by rw [List.getElem?_map, e]; rfl, by show (z == z) = true; simp, fun m z' hm hz' => ?_, q⟩
  rw [List.getElem?_map] at hz'
  cases e2 : N[m]? with
  | none => rw [e2] at hz'; cases hz'
  | some y =>
    rw [e2] at hz'
    have hy : V.str y = z' := Option.some.inj hz'
    subst hy
    show (y == z) = false
    rw [beq_eq_false_iff_ne]
    intro hyz
    subst hyz
    exact nodup_take_get nd e (List.mem_of_getElem? (i := m) (by rw [List.getElem?_take, if_pos hm, e2]))
section
variable {P : Program} {w : World} {K : PySem.W.Frag} {mg : Str → Option Value} {base : Heap}
theorem ok_value_of (T : Txt K mg)  : FD P w K mg base CX0 5 (He.ga K "value_of") ["argument", "book", "store"] (sp_value_of K) := by
  refine FD.mk0 T.f_value_of sc_value_of (fun vs H Q E h => ?_) (fun _ _ _ _ _ _ us hl => match us, hl with | [_, _, _], _ => rfl) (fun cdv A outer s H vs Q E hr h => ⟨_, (pss_cons (ps_if (pt_val (pe_callB call_isi (by rfl) T.n_isinstance bb_isinstance (pa_cons (pv 0) (pa_cons (pe_bltn (v := .ty "tuple") (by rfl) T.n_tuple bb_tuple rfl) pa_nil)))) (pss_one (ps_ret (pe_ix ix_seq (pv 2) (pe_bm PySem.F.plainAttrs_list PySem.F.slot_list_index PySem.F.type_list_index mt_index (pe_callD (ok_cell_names T) hr (by first | decide | omega) (by rfl) T.g_cell_names pass0 (pa_cons (pv 1) pa_nil)) (pa_cons (pe_ix ix_seq (pv 0) pe_int (by intro _ _; rfl)) pa_nil)) (by intro _ _; rfl)))) pss_nil)
  (pss_one (ps_ret (pv 0)))), ?_⟩)
  · obtain ⟨av, a, b, s, ks, cs, kvs, svs, held, rfl, _⟩ := h
    rfl
  · obtain ⟨av, a, b, s, ks, cs, kvs, svs, held, rfl, hB, hc, hd, ok, hh, hl, kk⟩ := h
    walk_at "st"
    walk_at "rd"
    have tup : ∀ (z g : Str), z ∈ cs.map (·.1) → (∃ a', av = .ref a' ∧ SqT K H a' [.str g, .str z]) → (vlA cs held a).d = .int (look cs held z) →
      rIsi K [av, .ty "tuple"] H fun x H1 => ∃ k, x = V.bl k ∧ if k = true then
        tRet (tOp (rIx K) (tVar 2) (tBM K "list" (rIndex K) (tCall (sp_cell_names K) [] E0 (tCons (tVar 1) tNil)) (tCons (tOp (rIx K) (tVar 0) (tC (.int 1))) tNil))) ⟨tRet (tVar 0) ⟨fun _ H' => Q .non H', Q, fun _ _ => False, fun _ _ => False⟩, Q, fun _ _ => False, fun _ _ => False⟩ [some av, some (.ref b), some (.ref s)] H1
        else tNext ⟨tRet (tVar 0) ⟨fun _ H' => Q .non H', Q, fun _ _ => False, fun _ _ => False⟩, Q, fun _ _ => False, fun _ _ => False⟩ [some av, some (.ref b), some (.ref s)] H1 := fun z g hz hav hv => by
      obtain ⟨a', rfl, hs⟩ := hav
      refine x_isTup (b := true) hs (by decide +kernel) ?_
      walk_at "rd"
      refine ⟨b, kvs, svs, cs, rfl, hB.bk, hB.sv, hc, fun l H' hl' h' c1 => ?_⟩
      have hL : SqL K H' l ((cs.map (·.1)).map V.str) := SqL.of (by rw [h', List.map_map]; rfl)
      have hs1 := c1.sqT hs
      walk_at "rd"
      obtain ⟨i, hi⟩ := List.getElem?_of_mem hz
      refine x_index hL (cs_nodup hc) hi ?_
      refine x_ixT (k := i) (v := .int (look cs held z)) (c1.sqT hh.at_) rfl (by rw [List.getElem?_map, look_at (cs_nodup hc) hl hi]; rfl) ?_
      exact kk _ H' (by rw [hv]; exact .int _) c1
    cases a with
    | non =>
      cases hd
      walk_at "rd"
      refine x_isNon (b := false) (by decide +kernel) ?_
      walk_at "rd"
      exact kk _ H .non (Ch.refl _)
    | num n =>
      cases hd
      walk_at "rd"
      refine x_isInt (b := false) (by decide +kernel) ?_
      walk_at "rd"
      exact kk _ H (.int _) (Ch.refl _)
    | now z =>
      cases hd with
      | @tup a ys _ hs ha =>
      cases ha with
      | cons q1 q2 =>
      cases q1
      cases q2 with
      | cons q3 q4 =>
      cases q3
      cases q4
      exact tup z _ ok ⟨a, rfl, hs⟩ rfl
    | late z =>
      cases hd with
      | @tup a ys _ hs ha =>
      cases ha with
      | cons q1 q2 =>
      cases q1
      cases q2 with
      | cons q3 q4 =>
      cases q3
      cases q4
      exact tup z _ ok ⟨a, rfl, hs⟩ rfl
theorem ok_settled (T : Txt K mg)  : FD P w K mg base CX0 6 (He.ga K "settled") ["action", "book", "store"] (sp_settled K) := by
  refine FD.mk0 T.f_settled sc_settled (fun vs H Q E h => ?_) (fun _ _ _ _ _ _ us hl => match us, hl with | [_, _, _], _ => rfl) (fun cdv A outer s H vs Q E hr h => ⟨_, (pss_cons (ps_asg (pv 0) (pg_tup rfl (pgs_cons (pg_name (i := 3) sc_settled.nd rfl (.inl rfl)) (pgs_cons (pg_name (i := 4) sc_settled.nd rfl (.inl rfl)) (pgs_cons (pg_name (i := 5) sc_settled.nd rfl (.inl rfl)) (pgs_cons (pg_name (i := 6) sc_settled.nd rfl (.inl rfl)) pgs_nil))))))
  (pss_cons (ps_if (PW.pt (pw_and (pt_val (pe_callB call_isi (by rfl) T.n_isinstance bb_isinstance (pa_cons (pv 5) (pa_cons (pe_bltn (v := .ty "tuple") (by rfl) T.n_tuple bb_tuple rfl) pa_nil)))) (pw_and1 (pt_cmpR (u_eq (hu64 hr)) (pe_ix ix_seq (pv 5) pe_int (by intro _ _; rfl)) pe_str (nomark _))))) (pss_one (ps_set (i := 5) sc_settled.nd rfl (.inl rfl) (pe_callD (ok_value_of T) hr (by first | decide | omega) (by rfl) T.g_value_of pass0 (pa_cons (pv 5) (pa_cons (pv 1) (pa_cons (pv 2) pa_nil)))))) pss_nil)
  (pss_one (ps_ret (pe_callD (ok_halves T) hr (by first | decide | omega) (by rfl) T.g_halves pass0 (pa_cons (pe_tup (pa_cons (pv 3) (pa_cons (pv 4) (pa_cons (pv 5) (pa_cons (pv 6) pa_nil))))) pa_nil)))))), ?_⟩)
  · obtain ⟨v, x, b, s, ks, cs, kvs, svs, held, rfl, _⟩ := h
    rfl
  · obtain ⟨v, x, b, s, ks, cs, kvs, svs, held, rfl, hB, hc, hd, ok, hh, hl, kk⟩ := h
    obtain ⟨a, av, fa, fv, rfl, hs, hav, hf, hfa⟩ := act_inv hd
    walk_at "st"
    walk_at "rd"
    have rest : ∀ (av' : V) H1, Dt K H1 av' (seA cs held x.a).d → Ch [] H H1 →
      tRet (tCall (sp_halves K) [] E0 (tCons (tTup (tCons (tVar 3) (tCons (tVar 4) (tCons (tVar 5) (tCons (tVar 6) tNil))))) tNil)) ⟨fun _ H' => Q .non H', Q, fun _ _ => False, fun _ _ => False⟩ [some (.ref a), some (.ref b), some (.ref s), some (.str x.g.s), some (.str x.st), some av', some (.ref fa)] H1 := fun av' H1 hv c1 => by
      walk_at "rd"
      refine nT fun t H2 ht h2 c2 => ?_
      walk_at "rd"
      refine ⟨.ref t, .mk x.g x.st (seA cs held x.a) x.fs, rfl, act_mk (SqT.of h2) (hv.ch c2) (.tup (c2.sqT (c1.sqT hf)) ((hfa.ch c1).ch c2)), fun t' ts H3 h3 h4 c3 => ?_⟩
      exact kk t' ts H3 h3 h4 ((c1.nilL c2).nilL c3)
    have hx : ∀ q, x.a = q → x.a = q := fun _ h => h
    cases hxa : x.a with
    | non =>
      rw [hxa] at hav
      cases hav
      refine x_isNon (b := false) (by decide +kernel) ?_
      have hv0 : Dt K H .non (seA cs held x.a).d := by rw [hxa]; exact .non
      repeat (first | with_reducible exact rest _ H hv0 (Ch.refl _) | walk_at "rd1")
    | num n =>
      rw [hxa] at hav
      cases hav
      refine x_isInt (b := false) (by decide +kernel) ?_
      have hv0 : Dt K H (.int n) (seA cs held x.a).d := by rw [hxa]; exact .int _
      repeat (first | with_reducible exact rest _ H hv0 (Ch.refl _) | walk_at "rd1")
    | late z =>
      have hav0 := hav
      rw [hxa] at hav
      cases hav with
      | @tup a' ys _ hs ha =>
      cases ha with
      | cons q1 q2 =>
      cases q1
      cases q2 with
      | cons q3 q4 =>
      cases q3
      cases q4
      refine x_isTup (b := true) hs (by decide +kernel) ?_
      have hv0 : Dt K H (.ref a') (seA cs held x.a).d := by rw [hxa] at hav0 ⊢; exact hav0
      repeat (first | with_reducible exact rest _ H hv0 (Ch.refl _) | walk_at "rd1")
    | now z =>
      have hav0 := hav
      rw [hxa] at hav ok
      cases hav with
      | @tup a' ys _ hs ha =>
      cases ha with
      | cons q1 q2 =>
      cases q1
      cases q2 with
      | cons q3 q4 =>
      cases q3
      cases q4
      refine x_isTup (b := true) hs (by decide +kernel) ?_
      walk_at "rd"
      refine ⟨.ref a', x.a, b, s, ks, cs, kvs, svs, held, rfl, hB, hc, hav0, by rw [hxa]; exact ok, hh, hl, fun v H1 hv c1 => ?_⟩
      rw [hxa] at hv
      have hv0 : Dt K H1 v (seA cs held x.a).d := by rw [hxa]; exact hv
      repeat (first | with_reducible exact rest _ H1 hv0 c1 | walk_at "rd1")
end
structure Rw where
  st : Str
  v : Ar
  a : Bool
def Rw.d (r : Rw) : PyData := .tuple [.str "way", .str r.st, r.v.d, .int (if r.a then 1 else 0)]
def kdOf (ks : List (Str × Kd)) (z : Str) : Kd := (ks.lookup z).getD .plain
inductive Way (ks : List (Str × Kd)) (cs : List (Str × Int)) (held : List Int) : List Act → Ex → List Bool → List Rw → Option Ex → List Bool → Prop
  | nil {e : Ex} {ans : List Bool} : Way ks cs held [] e ans [] (some e) ans
  | skip {x : Act} {rs : List Act} {e : Ex} {ans rest : List Bool} {rows : List Rw} {r : Option Ex} (h : x.g ≠ e.gd) (w : Way ks cs held rs e ans rows r rest) : Way ks cs held (x :: rs) e ans rows r rest
  | stop {x : Act} {rs : List Act} {e : Ex} (h : x.g = e.gd) : Way ks cs held (x :: rs) e [] [] none []
  | step {x : Act} {rs : List Act} {e : Ex} {a : Bool} {ans rest : List Bool} {rows : List Rw} {r : Option Ex} (h : x.g = e.gd)
      (w : Way ks cs held ((if a then (x.fs.flatMap hv).reverse else []) ++ rs) (aft e x.st (kdOf ks x.st) x.g a) ans rows r rest) : Way ks cs held (x :: rs) e (a :: ans) (⟨x.st, vlA cs held x.a, a⟩ :: rows) r rest
section
variable {ks : List (Str × Kd)} {cs : List (Str × Int)} {held : List Int} {rs : List Act} {e : Ex} {ans rest rest' : List Bool} {rows rows' : List Rw} {r r' : Option Ex}
theorem Way.det (h : Way ks cs held rs e ans rows r rest) : ∀ {rows' : List Rw} {r' : Option Ex} {rest' : List Bool}, Way ks cs held rs e ans rows' r' rest' → rows = rows' ∧ r = r' ∧ rest = rest' := by
  induction h with
  | nil => intro _ _ _ k; cases k; exact ⟨rfl, rfl, rfl⟩
  | skip h w ih =>
    intro _ _ _ k
    cases k with
    | skip h' w' => exact ih w'
    | stop h' => exact absurd h' h
    | step h' w' => exact absurd h' h
  | stop h =>
    intro _ _ _ k
    cases k with
    | skip h' w' => exact absurd h h'
    | stop h' => exact ⟨rfl, rfl, rfl⟩
  | step h w ih =>
    intro _ _ _ k
    cases k with
    | skip h' w' => exact absurd h h'
    | step h' w' =>
      obtain ⟨a, b, c⟩ := ih w'
      exact ⟨by rw [a], b, c⟩
/-- an upper part, then a lower one -/
theorem Way.app (h : Way ks cs held rs e ans rows r rest) {lo : List Act} : (∀ e', r = some e' → ∀ {rows2 : List Rw} {r2 : Option Ex} {rest2 : List Bool}, Way ks cs held lo e' rest rows2 r2 rest2 → Way ks cs held (rs ++ lo) e ans (rows ++ rows2) r2 rest2) ∧ (r = none → Way ks cs held (rs ++ lo) e ans rows none rest) := by
  induction h with
  | nil => exact ⟨fun e' q _ _ _ w => by cases q; exact w, fun q => by cases q⟩
  | skip h w ih => exact ⟨fun e' q _ _ _ w2 => .skip h (ih.1 e' q w2), fun q => .skip h (ih.2 q)⟩
  | stop h =>
    refine ⟨fun e' q => ?_, fun _ => ?_⟩
    · cases q
    · exact Way.stop h
  | step h w ih =>
    refine ⟨fun e' q _ _ _ w2 => ?_, fun q => ?_⟩
    · have z := ih.1 e' q w2
      rw [List.append_assoc] at z
      exact Way.step h z
    · have z := ih.2 q
      rw [List.append_assoc] at z
      exact Way.step h z
/-- as many answers are used as rows are there -/
theorem Way.used (h : Way ks cs held rs e ans rows r rest) : ans.drop rows.length = rest ∧ rows.length ≤ ans.length := by
  induction h with
  | nil => exact ⟨rfl, Nat.zero_le _⟩
  | skip h w ih => exact ih
  | stop h => exact ⟨rfl, Nat.le_refl _⟩
  | step h w ih => exact ⟨by rw [List.length_cons, List.drop_succ_cons]; exact ih.1, by rw [List.length_cons, List.length_cons]; omega⟩
theorem Way.gone (h : Way ks cs held rs e ans rows r rest) (n : r = none) : rest = [] := by
  induction h with
  | nil => cases n
  | skip h w ih => exact ih n
  | stop h => rfl
  | step h w ih => exact ih n
end
/-! ### a measure -/
mutual
def mA : Act → Nat
  | .mk _ _ _ fs => 1 + 2 * mL fs
def mL : List Act → Nat
  | [] => 0
  | x :: r => mA x + mL r
end
theorem mA_eq (x : Act) : mA x = 1 + 2 * mL x.fs := by
  cases x with
  | mk g s a f => rw [mA]; rfl
theorem mL_app (l m : List Act) : mL (l ++ m) = mL l + mL m := by
  induction l with
  | nil => rw [List.nil_append, mL]; omega
  | cons x r ih => rw [List.cons_append, mL, mL, ih]; omega
theorem mL_rev (l : List Act) : mL l.reverse = mL l := by
  induction l with
  | nil => rfl
  | cons x r ih => rw [List.reverse_cons, mL_app, ih, mL, mL, mL]; omega
theorem mL_hv (x : Act) : mL (hv x) ≤ 2 * mA x := by
  unfold hv
  by_cases h : x.g = .always
  · rw [if_pos h]
    simp only [mL, mA]
    rw [mA_eq]
    omega
  · rw [if_neg h]
    simp only [mL]
    omega
theorem mL_flat (l : List Act) : mL (l.flatMap hv) ≤ 2 * mL l := by
  induction l with
  | nil => simp [mL]
  | cons x r ih =>
    rw [List.flatMap_cons, mL_app, mL]
    have := mL_hv x
    omega
/-- the stack falls -/
theorem mL_step (x : Act) (rs : List Act) (a : Bool) : mL ((if a then (x.fs.flatMap hv).reverse else []) ++ rs) < mL (x :: rs) := by
  rw [mL_app, mL, mA_eq]
  cases a with
  | false => simp [mL]; omega
  | true =>
    simp only [if_true]
    rw [mL_rev]
    have := mL_flat x.fs
    omega
theorem mL_skip (x : Act) (rs : List Act) : mL rs < mL (x :: rs) := by
  rw [mL, mA_eq]
  omega
/-! ### sizes: a stack stays small -/
theorem mL_len (l : List Act) : l.length ≤ mL l := by
  induction l with
  | nil => exact Nat.zero_le _
  | cons x r ih => rw [List.length_cons, mL, mA_eq]; omega
/-- halves: not always; everything in them ordered -/
def Hv (N C : List Str) (x : Act) : Prop := OkAct N C 2 x ∧ x.g ≠ .always
theorem OkAct.up {N C : List Str} {x : Act} : ∀ {r : Nat}, OkAct N C r x → OkAct N C (r + 1) x := by
  intro r
  induction r generalizing x with
  | zero => intro h; exact ⟨h.1, h.2.1, by rw [h.2.2]; decide, fun n => absurd h.2.2 n, fun f m => by rw [h.2.2] at m; cases m⟩
  | succ r ih => intro h; exact ⟨h.1, h.2.1, h.2.2.1, h.2.2.2.1, fun f m => ih (h.2.2.2.2 f m)⟩
theorem hv_ok {N C : List Str} {r : Nat} {x y : Act} (h : OkAct N C r x) (m : y ∈ hv x) : OkAct N C r y ∧ y.g ≠ .always := by
  unfold hv at m
  by_cases hg : x.g = .always
  · rw [if_pos hg] at m
    have m' : y = .mk .done x.st x.a x.fs ∨ y = .mk .error x.st x.a [] := by simpa using m
    rcases m' with rfl | rfl
    · refine ⟨?_, by simp [Act.g]⟩
      cases r with
      | zero => exact h
      | succ r => exact ⟨h.1, h.2.1, h.2.2.1, fun _ => by simp [Act.g], h.2.2.2.2⟩
    · refine ⟨?_, by simp [Act.g]⟩
      cases r with
      | zero => exact ⟨h.1, h.2.1, rfl⟩
      | succ r => exact ⟨h.1, h.2.1, Nat.zero_le _, fun n => absurd rfl n, fun f m => by cases m⟩
  · rw [if_neg hg] at m
    have m' : y = x := by simpa using m
    rw [m']
    exact ⟨h, hg⟩
theorem Hv.sub {N C : List Str} {x f y : Act} (h : Hv N C x) (m : f ∈ x.fs) (m2 : y ∈ hv f) : Hv N C y := by
  obtain ⟨q, e, o⟩ := h.1.sub m
  injection e with e
  subst e
  obtain ⟨a, b⟩ := hv_ok o m2
  exact ⟨a.up, b⟩
open AutoSeq1 (wpAny_loadPart')
theorem extend_tup (l : Addr) (items : Array Value) (n : Nat) (b : Addr) (items2 : Array Value) (n2 : Nat) (dct : Option Addr) (sl : Array (Option Value)) (hs0 : ¬(!items.isEmpty && Builtin.List.listTooLong (items.size + items2.size)) = true) (hs1 : items.size ≤ sizeLine) (hs2 : items.size + items2.size ≤ sizeLine + 1) :
    Meets (Builtin.«list.extend» ⟨[.ref l, .ref b], []⟩) (fun _ R s => s.heap.get? l = some { cls := .type "list", dict := none, data := .seq items n, slots := #[] } ∧ s.heap.get? b = some { cls := .type "tuple", dict := dct, data := .seq items2 n2, slots := sl } ∧ R (.ok (.ret Value.none)) { s with heap := s.heap.update l (Obj.mapSeq fun x => x ++ items2), toks := s.toks }) :=
  .of_wp fun prog w A R s h => by
    obtain ⟨hp, g, d, tk, os⟩ := s; obtain ⟨hl, hb, h⟩ := h; have f1 := AutoSeq1.idx_int; have f2 := AutoSeq1.sub_tuple_tuple; have f3 := AutoSeq1.sub_list_list; have f4 := AutoSeq1.sub_tuple_list; have f5 := AutoSeq1.sub_list_tuple;
    have hz' : (items ++ items2).size ≤ sizeLine + 1 := by rw [Array.size_append]; exact hs2
    wp_walk using (wpAny_updateSeq hl rfl (hz := hs1) (_hz' := hz')), wpAny_loadPart' hl, wpAny_loadPart' hb; exact ⟨_, rfl, h⟩
def rExtendT (K : PySem.W.Frag) : V → List V → Hp → VK → Prop := fun x vs H Q => ∃ l b xs zs, x = .ref l ∧ vs = [.ref b] ∧ H l = some (.lst xs) ∧ SqT K H b zs ∧ xs.length + zs.length ≤ sizeLine ∧ Q .non (upd H l (.lst (xs ++ zs)))
theorem mt_extendT {X : Cx} : MtR X "list.extend" (rExtendT X.K) := by
  intro pins s σ H x vs v us Q I rx rv h
  obtain ⟨l, b, xs, zs, rfl, rfl, hH, hB, hz, q⟩ := h
  cases rx
  obtain ⟨u, rfl, ru⟩ := rv.one
  cases ru
  obtain ⟨z, its, n, r, hl, e⟩ := I.lstM hH
  obtain ⟨its2, r2, ⟨⟨oc, dct, dt, sl⟩, e2, hc, n2, hd⟩, z2⟩ := I.tuple hB
  simp only at hc hd
  subst hc hd
  have hl2 := r2.length
  have hsz : its.toArray.size + its2.toArray.size ≤ sizeLine := by rw [List.size_toArray, List.size_toArray]; omega
  have hlong : ¬ (!its.toArray.isEmpty && Builtin.List.listTooLong (its.toArray.size + its2.toArray.size)) = true := by
    rw [notLongL hsz, Bool.and_false]
    exact Bool.false_ne_true
  refine call_meets PySem.F.slot_list_extend ⟨_, e, rfl⟩ PySem.F.entry_list_extend (PySem.F.args_list_extend_2 _ _)
    (extend_tup l its.toArray n b its2.toArray n2 dct sl hlong (by rw [List.size_toArray]; omega) (by omega)) ⟨e, e2, ?_⟩
  refine ⟨.non, _, I.lset (its' := its ++ its2) hH e (by simp) (r.append r2) ?_, rfl, q⟩
  rw [List.length_append]
  omega
section
variable {K : PySem.W.Frag} {H : Hp} {Q : VK} {l b : Addr} {xs zs : List V} {y : V}
theorem x_extendT (h : H l = some (.lst xs)) (hb : SqT K H b zs) (hz : xs.length + zs.length ≤ sizeLine) (q : ∀ H', H' l = some (.lst (xs ++ zs)) → Ch [l] H H' → Q .non H') : rExtendT K (.ref l) [.ref b] H Q := ⟨l, b, xs, zs, rfl, rfl, h, hb, hz, q _ upd_same (Ch.mut h rfl)⟩
theorem x_pop (h : H l = some (.lst (xs ++ [y]))) (q : ∀ H', H' l = some (.lst xs) → Ch [l] H H' → Q y H') : rPop (.ref l) [] H Q := by
  refine ⟨l, xs ++ [y], y, rfl, rfl, h, by simp, ?_⟩
  rw [List.dropLast_concat]
  exact q _ upd_same (Ch.mut h rfl)
end
def bV (a : Bool) : V := .int (if a then 1 else 0)
def exD : Option Ex → PyData
  | none => .none
  | some e => e.d
def HvA (ks : List (Str × Kd)) (cs : List (Str × Int)) (l : List Act) : Prop := ∀ y ∈ l, Hv (ks.map (·.1)) (cs.map (·.1)) y
theorem DtA.unsnoc {K : PySem.W.Frag} {H : Hp} {ds : List PyData} {d : PyData} : ∀ {vs : List V}, DtA K H vs (ds ++ [d]) → ∃ xs y, vs = xs ++ [y] ∧ DtA K H xs ds ∧ Dt K H y d := by
  induction ds with
  | nil =>
    intro vs h
    cases h with
    | cons h1 h2 =>
    cases h2
    exact ⟨[], _, rfl, .nil, h1⟩
  | cons e es ih =>
    intro vs h
    cases h with
    | cons h1 h2 =>
    obtain ⟨xs, y, rfl, q1, q2⟩ := ih h2
    exact ⟨_ :: xs, y, rfl, .cons h1 q1, q2⟩
theorem gd_inj (g g' : Gd) (h : g.s = g'.s) : g = g' := by
  cases g <;> cases g' <;> first | rfl | exact absurd h (by decide)
theorem ksD_look {z : Str} : ∀ (ks : List (Str × Kd)), (ksD ks).lookup z = (ks.lookup z).map Kd.d
  | [] => rfl
  | (y, k) :: r => by
    have ih := ksD_look (z := z) r
    unfold ksD at ih ⊢
    rw [List.map_cons, List.lookup, List.lookup]
    cases z == y
    · exact ih
    · rfl
theorem kd_at {K : PySem.W.Frag} {H : Hp} {kvs : List (Key × V)} {ks : List (Str × Kd)} {z : Str} (h : DvA K H kvs (ksD ks)) (nd : (ks.map (·.1)).Nodup) (m : z ∈ ks.map (·.1)) : ∃ v, valV kvs (.inr z) = some v ∧ Dt K H v (kdOf ks z).d := by
  obtain ⟨q, hq, rfl⟩ := List.mem_map.mp m
  have e : ks.lookup q.1 = some q.2 := lookup_some nd hq
  have e2 := ksD_look (z := q.1) ks
  rw [e] at e2
  rcases h.get (z := q.1) with ⟨_, q2⟩ | ⟨v, d, q1, q2, q3⟩
  · rw [e2] at q2
    cases q2
  · rw [e2] at q2
    have : (kdOf ks q.1).d = d := by
      unfold kdOf
      rw [e]
      exact Option.some.inj q2
    exact ⟨v, q1, this ▸ q3⟩
theorem hv_len (f : Act) : (hv f).length ≤ 2 := by
  unfold hv
  split <;> simp
theorem flat_len : ∀ (l : List Act), (l.flatMap hv).length ≤ 2 * l.length
  | [] => Nat.zero_le _
  | f :: r => by
    have := flat_len r
    have := hv_len f
    rw [List.flatMap_cons, List.length_append, List.length_cons]
    omega
theorem take_snoc {α : Type} {l : List α} {i : Nat} {x : α} (h : l[i]? = some x) : l.take (i + 1) = l.take i ++ [x] := by
  rw [List.take_add_one, h]
  rfl
def sp_way_out (K : PySem.W.Frag) : Sp := fun vs H Q E => ∃ (l s b an : Addr) (ev : V) (xs : List V) (stk : List Act) (e : Ex) (ans : List Bool) (ks : List (Str × Kd)) (cs : List (Str × Int)) (kvs svs : List (Key × V)) (held : List Int), vs = [.ref l, ev, .ref s, .ref b, .ref an] ∧
  H l = some (.lst xs) ∧ DtA K H xs (stk.map Act.d) ∧ HvA ks cs stk ∧ Dt K H ev e.d ∧ Bo K H b ks cs kvs svs ∧ LoOk ks cs ∧ Hd K H s held ∧ held.length = cs.length ∧ SqT K H an (ans.map bV) ∧ mL stk ≤ 100000 ∧ ans.length ≤ 1000 ∧
  ∀ (rows : List Rw) (r : Option Ex) (rest : List Bool) (t rl : Addr) (pv : V) (rvs : List V) H', Way ks cs held stk.reverse e ans rows r rest → SqT K H' t [.ref rl, pv, .int (rows.length : Nat)] → H' rl = some (.lst rvs) → DtA K H' rvs (rows.map Rw.d) → Dt K H' pv (exD r) → Ch [] H H' → Q (.ref t) H'
section
variable {P : Program} {w : World} {K : PySem.W.Frag} {mg : Str → Option Value} {base : Heap}
theorem ok_way_out (T : Txt K mg)  : FD P w K mg base CX0 7 (He.ga K "way_out") ["stack", "pending", "store", "book", "answers"] (sp_way_out K) := by
  refine FD.mk0 T.f_way_out sc_way_out (fun vs H Q E h => ?_) (fun _ _ _ _ _ _ us hl => match us, hl with | [_, _, _, _, _], _ => rfl) (fun cdv A outer s H vs Q E hr h => ⟨_, (pss_cons (ps_set (i := 5) sc_way_out.nd rfl (.inl rfl) (pe_callTy c_list (by rfl) T.n_list bb_list (pa_cons (pv 0) pa_nil)))
  (pss_cons (ps_set (i := 6) sc_way_out.nd rfl (.inl rfl) (pe_lst pa_nil))
  (pss_cons (ps_set (i := 7) sc_way_out.nd rfl (.inl rfl) pe_int)
  (pss_cons (ps_while PassesOwn.never (pt_cmpR u_gt (pe_callB c_len (by rfl) T.n_len bb_len (pa_cons (pv 5) pa_nil)) pe_int (nomark _)) (pss_cons (ps_asg (pe_bm0 PySem.F.plainAttrs_list PySem.F.slot_list_pop PySem.F.type_list_pop mt_pop (pv 5)) (pg_tup rfl (pgs_cons (pg_name (i := 8) sc_way_out.nd rfl (.inl rfl)) (pgs_cons (pg_name (i := 9) sc_way_out.nd rfl (.inl rfl)) (pgs_cons (pg_name (i := 10) sc_way_out.nd rfl (.inl rfl)) (pgs_cons (pg_name (i := 11) sc_way_out.nd rfl (.inl rfl)) pgs_nil))))))
  (pss_cons (ps_if (pt_cmpR (u_ne (hu64 hr)) (pv 8) (pe_callD (ok_state T) hr (by first | decide | omega) (by rfl) T.g_state pass0 (pa_cons (pv 1) pa_nil)) (nomark _)) (pss_one ps_continue) pss_nil)
  (pss_cons (ps_if (pt_cmpR (u_eq (hu64 hr)) (pv 7) (pe_callB c_len (by rfl) T.n_len bb_len (pa_cons (pv 4) pa_nil)) (nomark _)) (pss_one (ps_ret (pe_tup (pa_cons (pv 6) (pa_cons pe_non (pa_cons (pv 7) pa_nil)))))) pss_nil)
  (pss_cons (ps_set (i := 12) sc_way_out.nd rfl (.inl rfl) (pe_ix ix_seq (pv 4) (pv 7) (by intro _ _; rfl)))
  (pss_cons (ps_aug (i := 7) sc_way_out.nd rfl (.inl rfl) pe_int ip_add)
  (pss_cons (ps_expr (pe_bm PySem.F.plainAttrs_list PySem.F.slot_list_append PySem.F.type_list_append mt_append (pv 6) (pa_cons (pe_tup (pa_cons pe_str (pa_cons (pv 9) (pa_cons (pe_callD (ok_value_of T) hr (by first | decide | omega) (by rfl) T.g_value_of pass0 (pa_cons (pv 10) (pa_cons (pv 3) (pa_cons (pv 2) pa_nil)))) (pa_cons (pv 12) pa_nil))))) pa_nil)))
  (pss_cons (ps_set (i := 1) sc_way_out.nd rfl (.inl rfl) (pe_callD (ok_after T) hr (by first | decide | omega) (by rfl) T.g_after pass0 (pa_cons (pv 1) (pa_cons (pv 9) (pa_cons (pe_subO T.m_Book___getitem__ (fnIn_of T.f_Book___getitem__) (ok_Book___getitem__ T).raw (hr.mono (by decide)) (E := E0) pass0 (pv 3) (pv 9) (by intro _ _; rfl)) (pa_cons (pv 8) (pa_cons (pv 12) pa_nil)))))))
  (pss_one (ps_if (pt_cmpR (u_eq (hu64 hr)) (pv 12) pe_int (nomark _)) (pss_one (ps_for PassesOwn.never rfl (pi_tup (pv 11)) (pg_name (i := 13) sc_way_out.nd rfl (.inl rfl)) (pss_one (ps_expr (pe_bm PySem.F.plainAttrs_list PySem.F.slot_list_extend PySem.F.type_list_extend mt_extendT (pv 5) (pa_cons (pe_callD (ok_halves T) hr (by decide) (by rfl) T.g_halves pass0 (pa_cons (pv 13) pa_nil)) pa_nil)))))) pss_nil))))))))))
  (pss_one (ps_ret (pe_tup (pa_cons (pv 6) (pa_cons (pv 1) (pa_cons (pv 7) pa_nil)))))))))), ?_⟩)
  · obtain ⟨l, s, b, an, ev, xs, stk, e, ans, ks, cs, kvs, svs, held, rfl, _⟩ := h
    rfl
  · obtain ⟨l, s, b, an, ev, xs, stk, e, ans, ks, cs, kvs, svs, held, rfl, hl, hxs, hh, he, hB, lo, hd, hhl, han, hm, hal, kk⟩ := h
    walk_at "st"
    walk_at "rd"
    refine x_listL (SqL.of hl) fun pl H1 hpl hp1 c1 => ?_
    walk_at "rd"
    refine nL fun rl H2 hrl hr2 c2 => ?_
    walk_at "rd"
    have c02 := c1.nilL c2
    have hrlH : H rl = none := c1.free0 hrl
    have hpr : pl ≠ rl := ne_of_none hp1 hrl
    refine x_while (fun m σ H' => ∃ (xs rvs : List V) (rs : List Act) (e' : Ex) (ev' : V) (rows : List Rw) (o8 o9 o10 o11 o12 o13 : Option V), σ = [some (.ref l), some ev', some (.ref s), some (.ref b), some (.ref an), some (.ref pl), some (.ref rl), some (.int (rows.length : Nat)), o8, o9, o10, o11, o12, o13] ∧ Ch [] H H' ∧ H' pl = some (.lst xs) ∧ DtA K H' xs (rs.reverse.map Act.d) ∧ HvA ks cs rs ∧ H' rl = some (.lst rvs) ∧ DtA K H' rvs (rows.map Rw.d) ∧ Dt K H' ev' e'.d ∧ rows.length ≤ ans.length ∧ mL rs = m ∧ m ≤ 100000 ∧
        ∀ rows2 r rest, Way ks cs held rs e' (ans.drop rows.length) rows2 r rest → Way ks cs held stk.reverse e ans (rows ++ rows2) r rest) (mL stk.reverse)
      ⟨xs, [], stk.reverse, e, ev, [], none, none, none, none, none, none, rfl, c02, c2.get0 hp1, by rw [List.reverse_reverse]; exact hxs.ch c02, fun y hy => hh y (by simpa using hy), hr2, .nil, he.ch c02, Nat.zero_le _, rfl, by rw [mL_rev]; exact hm, fun rows2 r rest w => w⟩ (fun m σ H' hW => ?_)
    obtain ⟨xs, rvs, rs, e', ev', rows, o8, o9, o10, o11, o12, o13, rfl, c, hpl', hxs', hh', hrl', hrv', he', hrl2, hm1, hm2, hw⟩ := hW
    have hxl : xs.length = rs.length := by rw [hxs'.length, List.length_map, List.length_reverse]
    have hms := mL_len rs
    walk_at "rd"
    cases rs with
    | nil =>
      have e0 : xs.length = 0 := by rw [hxl]; rfl
      rw [e0]
      walk_at "rd"
      refine nT fun t H3 ht h3 c3 => ?_
      exact kk rows (some e') _ t rl ev' rvs H3 (by have := hw [] _ _ .nil; rwa [List.append_nil] at this) (SqT.of h3) (c3.get0 hrl') (hrv'.ch c3) (he'.ch c3) (c.nilR c3)
    | cons x rs =>
      have e1 : (0 : Int) < xs.length := by rw [hxl, List.length_cons]; omega
      have e0 : ¬ (xs.length : Int) = 0 := by omega
      walk_at "rd"
      refine x_whE ?_
      rw [List.reverse_cons, List.map_append] at hxs'
      obtain ⟨xs', y, rfl, hxs1, hy⟩ := DtA.unsnoc hxs'
      obtain ⟨a, av, fa, fv, rfl, hs, hav, hf, hfa⟩ := act_inv hy
      walk_at "rd"
      refine x_pop hpl' fun H3 h3 c3 => ?_
      have hs3 := c3.sqT hs
      have c03 : Ch [] H H3 := (c.nilL c3).drop hpl
      have han3 := c03.sqT han
      have hrl3 : H3 rl = some (.lst rvs) := c3.get1 hrl' (Ne.symm hpr)
      walk_at "rd"
      refine ⟨ev', e', rfl, he'.ch c3, ?_⟩
      by_cases hg : x.g = e'.gd
      · have hg1 : x.g.s = e'.gd.s := by rw [hg]
        walk_at "rd"
        refine ite_by (fun q => ?_) (fun q => ?_)
        · walk_at "rd"
          refine nT fun t H4 ht h4 c4 => ?_
          have q' : ans.length = rows.length := by rw [List.length_map] at q; omega
          exact kk rows none [] t rl .non rvs H4 (by
            have := hw [] none [] (by rw [← q', List.drop_length]; exact Way.stop hg)
            rwa [List.append_nil] at this) (SqT.of h4) (c4.get0 hrl3) ((hrv'.ch c3).ch c4) .non (c03.nilR c4)
        · have q' : rows.length < ans.length := by rw [List.length_map] at q; omega
          have hget : ans[rows.length]? = some ans[rows.length] := List.getElem?_eq_getElem q'
          have hdrop : ans.drop rows.length = ans[rows.length] :: ans.drop (rows.length + 1) := List.drop_eq_getElem_cons q'
          generalize ans[rows.length] = an0 at hget hdrop
          walk_at "rd"
          refine x_ixT (v := .int (if an0 then 1 else 0)) han3 rfl (by rw [List.getElem?_map, hget]; rfl) ?_
          have okx := hh' x List.mem_cons_self
          have hB3 := hB.ch0 c03
          walk_at "rd"
          refine ⟨_, _, rfl, rfl, ?_⟩
          walk_at "rd"
          refine ⟨av, x.a, b, s, ks, cs, kvs, svs, held, rfl, hB3, lo.co, hav.ch c3, okx.1.ar, hd.ch c03, hhl, fun vv H4 hvv c4 => ?_⟩
          walk_at "rd"
          refine nT fun tt H5 htt h5 c5 => ?_
          walk_at "rd"
          have c35 := c4.nilL c5
          refine x_append (c35.get0 hrl3) (by rw [hrv'.length, List.length_map]; have : (1001 : Nat) ≤ sizeLine := by decide
                                              omega) fun H6 h6 c6 => ?_
          have c06 : Ch [] H H6 := ((c03.nilR c35).nilL c6).drop hrlH
          have hB6 := hB.ch0 c06
          have hpl6 : H6 pl = some (.lst xs') := c6.get1 (c35.get0 h3) hpr
          obtain ⟨dx, d1, d2, hb1, _⟩ := id hB6.bk
          obtain ⟨kv, hkv, hkd⟩ := kd_at hB6.kv lo.nd okx.1.st
          walk_at "rd"
          refine x_obj hb1 ?_
          refine ⟨b, x.st, kv, kvs, svs, rfl, hB6.bk, hkv, ?_⟩
          walk_at "rd"
          refine ⟨ev', kv, e', x.st, kdOf ks x.st, x.g, an0, rfl, ((he'.ch c3).ch c35).ch c6, hkd, okx.2, fun u H7 hu c7 => ?_⟩
          walk_at "rd"
          have hpl7 : H7 pl = some (.lst xs') := c7.get0 hpl6
          have hrl7 := c7.get0 h6
          have c07 := c06.nilR c7
          have hfa7 := (((hfa.ch c3).ch c35).ch c6).ch c7
          have hf7 := c7.sqT (c6.sqT (c35.sqT (c3.sqT hf)))
          have hx7 := (((hxs1.ch c3).ch c35).ch c6).ch c7
          have hrv7 : DtA K H7 (rvs ++ [.ref tt]) ((rows ++ [Rw.mk x.st (vlA cs held x.a) an0]).map Rw.d) := by
            rw [List.map_append]
            refine ((((hrv'.ch c3).ch c35).ch c6).ch c7).append (.cons ?_ .nil)
            have h57 := c7.sqT (c6.sqT (SqT.of (K := K) h5))
            exact .tup h57 (.cons (.str _) (.cons (.str _) (.cons (((hvv.ch c5).ch c6).ch c7) (.cons (.int _) .nil))))
          have hle := okx.1.le
          have hrl8 : (rows ++ [Rw.mk x.st (vlA cs held x.a) an0]).length = rows.length + 1 := by rw [List.length_append]; rfl
          have hsl : V.int ((fun i j => i + j) (rows.length : Int) 1) = .int (((rows ++ [Rw.mk x.st (vlA cs held x.a) an0]).length : Nat) : Int) := by
            rw [hrl8]
            rfl
          have hmm := mL_step x rs an0
          have hwn : ∀ rows2 r rest, Way ks cs held ((if an0 then (x.fs.flatMap hv).reverse else []) ++ rs) (aft e' x.st (kdOf ks x.st) x.g an0) (ans.drop (rows.length + 1)) rows2 r rest → Way ks cs held stk.reverse e ans ((rows ++ [Rw.mk x.st (vlA cs held x.a) an0]) ++ rows2) r rest := fun rows2 r rest w => by
            have := hw (Rw.mk x.st (vlA cs held x.a) an0 :: rows2) r rest (by rw [hdrop]; exact Way.step hg w)
            rw [List.append_assoc]
            exact this
          cases an0 with
          | false =>
            walk_at "rd"
            rw [hsl]
            exact ⟨mL rs, by rw [← hm1]; exact mL_skip x rs, xs', _, rs, _, u, _, _, _, _, _, _, _, rfl, c07, hpl7, hx7, fun y hy => hh' y (List.mem_cons_of_mem _ hy), hrl7, hrv7, hu, by rw [hrl8]; exact q', rfl, by have := mL_skip x rs; omega, fun rows2 r rest w => hwn _ _ _ (by rw [hrl8] at w; exact w)⟩
          | true =>
            walk_at "rd"
            refine goT fv (fun i σ H' => Ch [] H H' ∧ Ch [pl] H7 H' ∧ ∃ xs2 o13, H' pl = some (.lst xs2) ∧ DtA K H' xs2 ((rs.reverse ++ (x.fs.take i).flatMap hv).map Act.d) ∧ σ = [some (.ref l), some u, some (.ref s), some (.ref b), some (.ref an), some (.ref pl), some (.ref rl), some (V.int ((fun i j => i + j) (rows.length : Int) 1)), some (.str x.g.s), some (.str x.st), some av, some (.ref fa), some (.int (if true = true then 1 else 0)), o13]) ⟨c07, (Ch.refl _).mono (by simp), xs', _, hpl7, by simpa using hx7, rfl⟩ (fun i σ H' _ hI => hI.2.1.sqT hf7) (fun i y σ H8 hy hI => ?_) (fun σ H8 hI => ?_)
            · obtain ⟨c08, c78, xs2, o13', hp8, hx8, rfl⟩ := hI
              obtain ⟨d, hd', hyd⟩ := hfa7.get hy
              obtain ⟨f, hf', rfl⟩ : ∃ f, x.fs[i]? = some f ∧ d = f.d := by
                rw [List.getElem?_map] at hd'
                cases e : x.fs[i]? with
                | none => rw [e] at hd'; cases hd'
                | some f => rw [e] at hd'; exact ⟨f, rfl, (Option.some.inj hd').symm⟩
              walk_at "rd"
              refine ⟨y, f, rfl, hyd.ch c78, fun t ts H9 h9 hts c9 => ?_⟩
              walk_at "rd"
              have l1 := hx8.length
              have l2 := hts.length
              have l3 := hv_len f
              have l4 := flat_len (x.fs.take i)
              have l5 : (x.fs.take i).length ≤ 3 := by rw [List.length_take]; omega
              rw [List.length_map, List.length_append, List.length_reverse] at l1
              rw [List.length_map] at l2
              have l6 : rs.length ≤ 100000 := by have := mL_skip x rs; have := mL_len rs; omega
              refine x_extendT (c9.get0 hp8) h9 (by have : (100010 : Nat) ≤ sizeLine := by decide
                                                    omega) fun H10 h10 c10 => ?_
              walk_at "rd"
              refine ⟨((c08.nilR c9).nilL c10).drop hpl, (c78.nilR c9).seq c10, _, _, h10, ?_, rfl⟩
              rw [take_snoc hf', List.flatMap_append, ← List.append_assoc, List.map_append]
              refine ((hx8.ch c9).ch c10).append ?_
              simpa using hts.ch c10
            · obtain ⟨c08, c78, xs2, o13', hp8, hx8, rfl⟩ := hI
              rw [hsl]
              have hfl : fv.length = x.fs.length := by rw [hfa.length, List.length_map]
              rw [hfl, List.take_length] at hx8
              simp only [if_true] at hmm hwn
              exact ⟨mL ((x.fs.flatMap hv).reverse ++ rs), by rw [← hm1]; exact hmm, xs2, _, (x.fs.flatMap hv).reverse ++ rs, _, u, _, _, _, _, _, _, _, rfl, c08, hp8, by rw [List.reverse_append, List.reverse_reverse]; exact hx8, fun y hy => by
                rcases List.mem_append.mp hy with m | m
                · obtain ⟨f, m1, m2⟩ := List.mem_flatMap.mp (List.mem_reverse.mp m)
                  exact okx.sub m1 m2
                · exact hh' y (List.mem_cons_of_mem _ m), c78.get1 hrl7 (Ne.symm hpr), hrv7.ch c78, hu.ch c78, by rw [hrl8]; exact q', rfl, by omega, fun rows2 r rest w => hwn _ _ _ (by rw [hrl8] at w; exact w)⟩
      · have hn : ¬ x.g.s = e'.gd.s := fun z => hg (gd_inj _ _ z)
        walk_at "rd"
        refine x_cont ?_
        exact ⟨mL rs, by rw [← hm1]; exact mL_skip x rs, xs', rvs, rs, e', ev', rows, _, _, _, _, _, _, rfl, c03, h3, hxs1.ch c3, fun y hy => hh' y (List.mem_cons_of_mem _ hy), hrl3, hrv'.ch c3, he'.ch c3, hrl2, rfl, by have := mL_skip x rs; omega, fun rows2 r rest w => hw _ _ _ (.skip hg w)⟩
end
def sp__law_state := @sp_state
def sp__law_after := @sp_after
def sp__law_halves (K : PySem.W.Frag) : Sp := fun vs H Q E => ∃ (v : V) (x : Act), vs = [v] ∧ Dt K H v x.d ∧ ∀ t ts H', H t = none → H' t = some (.lst ts) → DtA K H' ts ((hv x).map Act.d) → Ch [] H H' → Q (.ref t) H'
section
variable {P : Program} {w : World} {K : PySem.W.Frag} {mg : Str → Option Value} {base : Heap}
theorem ok__law_state (T : Txt K mg)  : FD P w K mg base CX0 1 (He.ga K "_law_state") ["pending"] (sp__law_state K) := by
  refine FD.mk0 T.f__law_state sc__law_state (fun vs H Q E h => ?_) (fun _ _ _ _ _ _ us hl => match us, hl with | [_], _ => rfl) (fun cdv A outer s H vs Q E hr h => ⟨_, (pss_cons (ps_if (pt_cmpR (u_eq (hu64 hr)) (pe_ix ix_seq (pv 0) pe_int (by intro _ _; rfl)) pe_str (nomark _)) (pss_one (ps_ret pe_str)) pss_nil)
  (pss_one (ps_ret pe_str))), ?_⟩)
  · obtain ⟨v, e, rfl, _⟩ := h
    rfl
  · obtain ⟨v, e, rfl, hd, kk⟩ := h
    walk_at "st"
    walk_at "rd"
    cases e with
    | ret n =>
      cases hd with
      | @tup a ys _ hs ha =>
      cases ha with
      | cons q1 q2 =>
      cases q1
      walk_at "rd"
      exact kk
    | leave n =>
      cases hd with
      | @tup a ys _ hs ha =>
      cases ha with
      | cons q1 q2 =>
      cases q1
      walk_at "rd"
      exact kk
    | raise n =>
      cases hd with
      | @tup a ys _ hs ha =>
      cases ha with
      | cons q1 q2 =>
      cases q1
      walk_at "rd"
      exact kk
theorem ok__law_after (T : Txt K mg)  : FD P w K mg base CX0 1 (He.ga K "_law_after") ["pending", "step", "kind", "guard", "answer"] (sp__law_after K) := by
  refine FD.mk0 T.f__law_after sc__law_after (fun vs H Q E h => ?_) (fun _ _ _ _ _ _ us hl => match us, hl with | [_, _, _, _, _], _ => rfl) (fun cdv A outer s H vs Q E hr h => ⟨_, (pss_cons (ps_if (pt_cmpR (u_eq (hu64 hr)) (pv 4) pe_int (nomark _)) (pss_one (ps_ret (pe_tup (pa_cons pe_str (pa_cons (pv 1) pa_nil))))) pss_nil)
  (pss_cons (ps_if (pt_cmpR (u_eq (hu64 hr)) (pe_ix ix_seq (pv 2) pe_int (by intro _ _; rfl)) pe_str (nomark _)) (pss_one (ps_ret (pe_tup (pa_cons pe_str (pa_cons (pe_ix ix_seq (pv 2) pe_int (by intro _ _; rfl)) pa_nil))))) pss_nil)
  (pss_cons (ps_if (PW.pt (pw_or (PW.pt (pw_and (pt_cmpR (u_eq (hu64 hr)) (pe_ix ix_seq (pv 2) pe_int (by intro _ _; rfl)) pe_str (nomark _)) (pw_and1 (pt_cmpR (u_eq (hu64 hr)) (pv 3) pe_str (nomark _))))) (pw_or1 (PW.pt (pw_and (pt_cmpR (u_eq (hu64 hr)) (pe_ix ix_seq (pv 2) pe_int (by intro _ _; rfl)) pe_str (nomark _)) (pw_and1 (pt_cmpR (u_eq (hu64 hr)) (pv 3) pe_str (nomark _)))))))) (pss_one (ps_ret (pe_tup (pa_cons pe_str (pa_cons (pe_ix ix_seq (pv 2) pe_int (by intro _ _; rfl)) pa_nil))))) pss_nil)
  (pss_cons (ps_if (PW.pt (pw_and (pt_cmpR (u_eq (hu64 hr)) (pe_ix ix_seq (pv 2) pe_int (by intro _ _; rfl)) pe_str (nomark _)) (pw_and1 (pt_cmpR (u_eq (hu64 hr)) (pv 3) pe_str (nomark _))))) (pss_one (ps_ret (pe_tup (pa_cons pe_str (pa_cons (pe_ix ix_seq (pv 2) pe_int (by intro _ _; rfl)) pa_nil))))) pss_nil)
  (pss_one (ps_ret (pv 0))))))), ?_⟩)
  · obtain ⟨v, kv, e, st, k, g, ans, rfl, _⟩ := h
    rfl
  · obtain ⟨v, kv, e, st, k, g, ans, rfl, hd, hk, hg, kk⟩ := h
    walk_at "st"
    walk_at "rd"
    cases ans with
    | false =>
      refine ite_b (fun e => ?_) (fun e => ?_)
      rotate_left 1
      · exact absurd e (by decide)
      walk_at "rd"
      refine nT fun t H1 ht h1 c1 => ?_
      exact kk _ H1 (two_d h1 (.str _) (.str _)) c1
    | true =>
      refine ite_b (fun e => ?_) (fun e => ?_)
      · exact absurd e (by decide)
      walk_at "rd"
      cases k with
      | plain =>
        cases hk with
        | @tup a ys _ hs ha =>
        cases ha with
        | cons q1 q2 =>
        cases q1
        cases q2
        cases g with
        | done =>
          walk_at "rd"
          exact kk _ H hd (Ch.refl _)
        | error =>
          walk_at "rd"
          exact kk _ H hd (Ch.refl _)
        | always => exact absurd rfl hg
      | answer n =>
        cases hk with
        | @tup a ys _ hs ha =>
        cases ha with
        | cons q1 q2 =>
        cases q1
        cases q2 with
        | cons q3 q4 =>
        cases q3
        cases q4
        cases g with
        | done =>
          walk_at "rd"
          refine nT fun t H1 ht h1 c1 => ?_
          exact kk _ H1 (two_d h1 (.str _) (.int _)) c1
        | error =>
          walk_at "rd"
          exact kk _ H hd (Ch.refl _)
        | always => exact absurd rfl hg
      | jump z =>
        cases hk with
        | @tup a ys _ hs ha =>
        cases ha with
        | cons q1 q2 =>
        cases q1
        cases q2 with
        | cons q3 q4 =>
        cases q3
        cases q4
        cases g with
        | done =>
          walk_at "rd"
          refine nT fun t H1 ht h1 c1 => ?_
          exact kk _ H1 (two_d h1 (.str _) (.str _)) c1
        | error =>
          walk_at "rd"
          refine nT fun t H1 ht h1 c1 => ?_
          exact kk _ H1 (two_d h1 (.str _) (.str _)) c1
        | always => exact absurd rfl hg
      | heal n =>
        cases hk with
        | @tup a ys _ hs ha =>
        cases ha with
        | cons q1 q2 =>
        cases q1
        cases q2 with
        | cons q3 q4 =>
        cases q3
        cases q4
        cases g with
        | done =>
          walk_at "rd"
          exact kk _ H hd (Ch.refl _)
        | error =>
          walk_at "rd"
          refine nT fun t H1 ht h1 c1 => ?_
          exact kk _ H1 (two_d h1 (.str _) (.int _)) c1
        | always => exact absurd rfl hg
      | swap z =>
        cases hk with
        | @tup a ys _ hs ha =>
        cases ha with
        | cons q1 q2 =>
        cases q1
        cases q2 with
        | cons q3 q4 =>
        cases q3
        cases q4
        cases g with
        | done =>
          walk_at "rd"
          exact kk _ H hd (Ch.refl _)
        | error =>
          walk_at "rd"
          refine nT fun t H1 ht h1 c1 => ?_
          exact kk _ H1 (two_d h1 (.str _) (.str _)) c1
        | always => exact absurd rfl hg
theorem ok__law_halves (T : Txt K mg)  : FD P w K mg base CX0 2 (He.ga K "_law_halves") ["action"] (sp__law_halves K) := by
  refine FD.mk0 T.f__law_halves sc__law_halves (fun vs H Q E h => ?_) (fun _ _ _ _ _ _ us hl => match us, hl with | [_], _ => rfl) (fun cdv A outer s H vs Q E hr h => ⟨_, (pss_cons (ps_if (pt_cmpR (u_ne (hu64 hr)) (pe_ix ix_seq (pv 0) pe_int (by intro _ _; rfl)) pe_str (nomark _)) (pss_one (ps_ret (pe_lst (pa_cons (pv 0) pa_nil)))) pss_nil)
  (pss_one (ps_ret (pe_lst (pa_cons (pe_tup (pa_cons pe_str (pa_cons (pe_ix ix_seq (pv 0) pe_int (by intro _ _; rfl)) (pa_cons (pe_ix ix_seq (pv 0) pe_int (by intro _ _; rfl)) (pa_cons (pe_ix ix_seq (pv 0) pe_int (by intro _ _; rfl)) pa_nil))))) (pa_cons (pe_tup (pa_cons pe_str (pa_cons (pe_ix ix_seq (pv 0) pe_int (by intro _ _; rfl)) (pa_cons (pe_ix ix_seq (pv 0) pe_int (by intro _ _; rfl)) (pa_cons (pe_tup pa_nil) pa_nil))))) pa_nil)))))), ?_⟩)
  · obtain ⟨v, x, rfl, _⟩ := h
    rfl
  · obtain ⟨v, x, rfl, hd, kk⟩ := h
    obtain ⟨a, av, fa, fv, rfl, hs, hav, hf, hfa⟩ := act_inv hd
    walk_at "st"
    walk_at "rd"
    by_cases hg : x.g = .always
    · have e : ¬ (x.g.s ≠ Str.ofString "always") := by rw [hg]; exact fun h => h rfl
      have e' : x.g.s = Str.ofString "always" := by rw [hg]; rfl
      walk_at "rd"
      refine nT fun t1 H1 ht1 h1 c1 => ?_
      walk_at "rd"
      refine nT fun t0 H2 ht0 h0 c2 => ?_
      walk_at "rd"
      refine nT fun t2 H3 ht2 h2 c3 => ?_
      walk_at "rd"
      refine nL fun t H4 ht h4 c4 => ?_
      have ca : Ch [] H H4 := ((c1.nilL c2).nilL c3).nilL c4
      refine kk t _ H4 (((c1.nilL c2).nilL c3).free0 ht) h4 ?_ ca
      have e2 : hv x = [.mk .done x.st x.a x.fs, .mk .error x.st x.a []] := by unfold hv; rw [if_pos hg]
      rw [e2]
      refine .cons (act_mk (SqT.of (c4.get0 (c3.get0 (c2.get0 h1)))) (hav.ch ca) (.tup (ca.sqT hf) (hfa.ch ca))) (.cons (act_mk (SqT.of (c4.get0 h2)) (hav.ch ca) (.tup (SqT.of (c4.get0 (c3.get0 h0))) .nil)) .nil)
    · have e : ¬ (x.g.s = Str.ofString "always") := fun h => by
        cases hx : x.g with
        | always => exact hg hx
        | done => rw [hx] at h; exact absurd h (by decide)
        | error => rw [hx] at h; exact absurd h (by decide)
      walk_at "rd"
      refine nL fun t H4 ht h4 c4 => ?_
      have e2 : hv x = [x] := by unfold hv; rw [if_neg hg]
      exact kk t _ H4 ht h4 (by rw [e2]; exact .cons (hd.ch c4) .nil) c4
end
/-- the names and sizes of the cells, in a list -/
structure Cl (K : PySem.W.Frag) (H : Hp) (l : Addr) (cs : List (Str × Int)) (ps : List V) : Prop where
  at_ : H l = some (.lst ps)
  dt : DtA K H ps (cs.map ceD)
theorem Cl.ch {K : PySem.W.Frag} {H H' : Hp} {l : Addr} {cs : List (Str × Int)} {ps : List V} (h : Cl K H l cs ps) (c : Ch [] H H') : Cl K H' l cs ps := ⟨c.get0 h.at_, h.dt.ch c⟩
theorem Cl.get {K : PySem.W.Frag} {H : Hp} {l : Addr} {cs : List (Str × Int)} {ps : List V} (h : Cl K H l cs ps) {k : Nat} (hk : k < ps.length) : ∃ q pa, cs[k]? = some q ∧ ps[k]? = some (.ref pa) ∧ SqT K H pa [.str q.1, .int q.2] := by
  obtain ⟨d, hd, hy⟩ := h.dt.get (List.getElem?_eq_getElem hk)
  rw [List.getElem?_map] at hd
  cases e : cs[k]? with
  | none => rw [e] at hd; cases hd
  | some q =>
    rw [e] at hd
    have e2 : ceD q = d := Option.some.inj hd
    subst e2
    have e3 := List.getElem?_eq_getElem hk
    revert hy e3
    generalize ps[k] = y
    intro hy e3
    unfold ceD at hy
    cases hy with
    | @tup a ys _ hs ha =>
    cases ha with
    | cons q1 q2 =>
    cases q1
    cases q2 with
    | cons q3 q4 =>
    cases q3
    cases q4
    exact ⟨q, a, rfl, e3, hs⟩
theorem nodup_at {α : Type} {l : List α} (nd : l.Nodup) {i j : Nat} {x : α} (h : l[i]? = some x) (g : l[j]? = some x) : i = j := by
  obtain ⟨h1, h2⟩ := List.getElem?_eq_some_iff.mp h
  obtain ⟨g1, g2⟩ := List.getElem?_eq_some_iff.mp g
  exact (List.getElem_inj nd).mp (h2.trans g2.symm)
def sp__law_settled (K : PySem.W.Frag) : Sp := fun vs H Q E => ∃ (v : V) (x : Act) (l s : Addr) (ks : List (Str × Kd)) (cs : List (Str × Int)) (ps : List V) (held : List Int), vs = [v, .ref l, .ref s] ∧ Cl K H l cs ps ∧ CsOk cs ∧ Dt K H v x.d ∧ ArOk (cs.map (·.1)) x.a ∧ Hd K H s held ∧ held.length = cs.length ∧ ∀ t ts H', H t = none → H' t = some (.lst ts) → DtA K H' ts ((se cs held x).map Act.d) → Ch [] H H' → Q (.ref t) H'
section
variable {P : Program} {w : World} {K : PySem.W.Frag} {mg : Str → Option Value} {base : Heap}
theorem ok__law_settled (T : Txt K mg)  : FD P w K mg base CX0 6 (He.ga K "_law_settled") ["action", "cells", "held"] (sp__law_settled K) := by
  refine FD.mk0 T.f__law_settled sc__law_settled (fun vs H Q E h => ?_) (fun _ _ _ _ _ _ us hl => match us, hl with | [_, _, _], _ => rfl) (fun cdv A outer s H vs Q E hr h => ⟨_, (pss_cons (ps_asg (pv 0) (pg_tup rfl (pgs_cons (pg_name (i := 3) sc__law_settled.nd rfl (.inl rfl)) (pgs_cons (pg_name (i := 4) sc__law_settled.nd rfl (.inl rfl)) (pgs_cons (pg_name (i := 5) sc__law_settled.nd rfl (.inr rfl)) (pgs_cons (pg_name (i := 6) sc__law_settled.nd rfl (.inl rfl)) pgs_nil))))))
  (pss_cons (ps_if (PW.pt (pw_and (pt_val (pe_callB call_isi (by rfl) T.n_isinstance bb_isinstance (pa_cons (pv 5) (pa_cons (pe_bltn (v := .ty "tuple") (by rfl) T.n_tuple bb_tuple rfl) pa_nil)))) (pw_and1 (pt_cmpR (u_eq (hu64 hr)) (pe_ix ix_seq (pv 5) pe_int (by intro _ _; rfl)) pe_str (nomark _))))) (pss_one (ps_set (i := 5) sc__law_settled.nd rfl (.inr rfl) (pe_ix ix_seq (pe_lc (own := [("k", 7)]) rfl sc__law_settled.nd (pi_range1 (by rfl) T.n_range (pa_cons (pe_callB c_len (by rfl) T.n_len bb_len (pa_cons (pv 1) pa_nil)) pa_nil)) (blkOk_by (N := N__law_settled) (sc := defScope s__law_settled) (by decide +kernel)) (fun _ _ _ _ _ => (pg_name (i := 7) sc__law_settled.nd rfl (.inl rfl))) (fun _ _ _ _ _ => (pts_one (pt_cmpR (u_eqE (K := K) (by rfl) (by exact hu64 hr)) (pe_ix (ix_seqE (K := K) (by rfl)) (pe_ix (ix_seqE (K := K) (by rfl)) (pv 1) (pv 7) (by intro _ _; rfl)) pe_int (by intro _ _; rfl)) (pe_ix (ix_seqE (K := K) (by rfl)) (pv 5) pe_int (by intro _ _; rfl)) (nomark _)))) (fun _ _ _ _ _ => (pe_ix (ix_seqE (K := K) (by rfl)) (pv 2) (pv 7) (by intro _ _; rfl)))) pe_int (by intro _ _; rfl)))) pss_nil)
  (pss_one (ps_ret (pe_callD (ok__law_halves T) hr (by first | decide | omega) (by rfl) T.g__law_halves pass0 (pa_cons (pe_tup (pa_cons (pv 3) (pa_cons (pv 4) (pa_cons (pv 5) (pa_cons (pv 6) pa_nil))))) pa_nil)))))), ?_⟩)
  · obtain ⟨v, x, l, s, ks, cs, ps, held, rfl, _⟩ := h
    rfl
  · obtain ⟨v, x, l, s, ks, cs, ps, held, rfl, hc, cso, hd, ok, hh, hhl, kk⟩ := h
    obtain ⟨a, av, fa, fv, rfl, hs, hav, hf, hfa⟩ := act_inv hd
    walk_at "st"
    walk_at "rd"
    have rest : ∀ (av' : V) H1, Dt K H1 av' (seA cs held x.a).d → Ch [] H H1 →
      tRet (tCall (sp__law_halves K) [] E0 (tCons (tTup (tCons (tVar 3) (tCons (tVar 4) (tCons (tVar 5) (tCons (tVar 6) tNil))))) tNil)) ⟨fun _ H' => Q .non H', Q, fun _ _ => False, fun _ _ => False⟩ [some (.ref a), some (.ref l), some (.ref s), some (.str x.g.s), some (.str x.st), some av', some (.ref fa), none] H1 := fun av' H1 hv c1 => by
      walk_at "rd"
      refine nT fun t H2 ht h2 c2 => ?_
      walk_at "rd"
      refine ⟨.ref t, .mk x.g x.st (seA cs held x.a) x.fs, rfl, act_mk (SqT.of h2) (hv.ch c2) (.tup (c2.sqT (c1.sqT hf)) ((hfa.ch c1).ch c2)), fun t' ts H3 h3 h4 h5 c3 => ?_⟩
      exact kk t' ts H3 ((c1.nilL c2).free0 h3) h4 h5 ((c1.nilL c2).nilL c3)
    cases hxa : x.a with
    | non =>
      rw [hxa] at hav
      cases hav
      refine x_isNon (b := false) (by decide +kernel) ?_
      have hv0 : Dt K H .non (seA cs held x.a).d := by rw [hxa]; exact .non
      repeat (first | with_reducible exact rest _ H hv0 (Ch.refl _) | walk_at "rd1")
    | num n =>
      rw [hxa] at hav
      cases hav
      refine x_isInt (b := false) (by decide +kernel) ?_
      have hv0 : Dt K H (.int n) (seA cs held x.a).d := by rw [hxa]; exact .int _
      repeat (first | with_reducible exact rest _ H hv0 (Ch.refl _) | walk_at "rd1")
    | late z =>
      have hav0 := hav
      rw [hxa] at hav
      cases hav with
      | @tup a' ys _ hs ha =>
      cases ha with
      | cons q1 q2 =>
      cases q1
      cases q2 with
      | cons q3 q4 =>
      cases q3
      cases q4
      refine x_isTup (b := true) hs (by decide +kernel) ?_
      have hv0 : Dt K H (.ref a') (seA cs held x.a).d := by rw [hxa] at hav0 ⊢; exact hav0
      repeat (first | with_reducible exact rest _ H hv0 (Ch.refl _) | walk_at "rd1")
    | now z =>
      have hav0 := hav
      rw [hxa] at hav ok
      cases hav with
      | @tup a' ys _ hs ha =>
      cases ha with
      | cons q1 q2 =>
      cases q1
      cases q2 with
      | cons q3 q4 =>
      cases q3
      cases q4
      refine x_isTup (b := true) hs (by decide +kernel) ?_
      have hl1 := SqL.of (K := K) hc.at_
      obtain ⟨i0, hi0⟩ := List.getElem?_of_mem ok
      have hnd := cs_nodup cso
      have hpl : ps.length = cs.length := by rw [hc.dt.length, List.length_map]
      have hcl := cs_len cso
      walk_at "rd"
      refine fun D hD => lcR hD (fun k acc H2 => Ch [] H H2 ∧ acc = if i0 < k then [.int (look cs held z)] else []) (fun H2 hD2 c2 => ⟨c2, rfl⟩) (fun k acc H2 hk hI hA => ?_) (fun acc H2 hI hA => ?_)
      · obtain ⟨c, rfl⟩ := hI
        obtain ⟨q, pa, hq, hpa, hsp⟩ := Cl.get hc (by omega : k < ps.length)
        have hsp2 := c.sqT hsp
        have hs2 := c.sqT hs
        have hl2 := c.get0 hc.at_
        walk_at "rd"
        refine x_ixL (k := k) (SqL.of hl2) (by omega) hpa ?_
        walk_at "rd"
        refine ite_by (fun e => ?_) (fun e => ?_)
        · walk_at "rd"
          have hik := nodup_at hnd hi0 (by rw [List.getElem?_map, hq, ← e]; rfl)
          subst hik
          refine x_ixT (k := i0) (v := .int (look cs held z)) (c.sqT hh.at_) (by omega) (by rw [List.getElem?_map, look_at hnd hhl hi0]; rfl) ?_
          rw [if_neg (Nat.lt_irrefl _)] at hA
          refine x_lcE hA (by decide) fun H5 h5 c5 => ?_
          exact ⟨(c.nilL c5).drop hD, by rw [if_pos (Nat.lt_succ_self _)]; rfl⟩
        · refine x_lcN hA ⟨c, ?_⟩
          have hne : i0 ≠ k := fun h => e (by
            subst h
            rw [List.getElem?_map, hq] at hi0
            exact Option.some.inj hi0)
          by_cases hlt : i0 < k
          · rw [if_pos hlt, if_pos (by omega)]
          · rw [if_neg hlt, if_neg (by omega)]
      · obtain ⟨c, rfl⟩ := hI
        have hi1 : i0 < (cs.map (·.1)).length := by
          obtain ⟨h, _⟩ := List.getElem?_eq_some_iff.mp hi0
          exact h
        rw [List.length_map] at hi1
        rw [if_pos (by omega)] at hA
        have hv0 : Dt K H2 (.int (look cs held z)) (seA cs held x.a).d := by rw [hxa]; exact .int _
        repeat (first | with_reducible exact rest _ H2 hv0 c | walk_at "rd1")
end
section
variable {K : PySem.W.Frag} {H3 : Hp} {nx rt' bk ct : L2.St → Hp → Prop} {rt : VK}
theorem way_value {lo s : Addr} {Z : List Addr} {ks : List (Str × Kd)} {cs : List (Str × Int)} {held : List Int} {av : V} {a : Ar} {v1 v2 v4 v5 v6 v7 v9 v10 v11 : Option V} (hL : Lr K H3 Z lo ks cs) (cso : CsOk cs) (hd : Dt K H3 av a.d) (ok : ArOk (cs.map (·.1)) a) (hh : Hd K H3 s held) (hhl : held.length = cs.length)
    (q : ∀ av' H4, Dt K H4 av' (vlA cs held a).d → Ch [] H3 H4 → nx [some (.ref lo), v1, v2, some (.ref s), v4, v5, v6, v7, some av', v9, v10, v11] H4) :
    rIsi K [av, V.ty "tuple"] H3 fun x H1 => ∃ k, x = V.bl k ∧ if k = true then tAsg (tOp (rIx K) (tLc (iRng1 (tCons (tCB (rLenC K) (tCons (tVar 3) tNil)) tNil)) (gName 11) (tTest (tOp (rEqU K) (tOp (rIx K) (tOp (rIx K) (tOp (rIx K) (tVar 0) (tC (V.int 2))) (tVar 11)) (tC (V.int 0))) (tOp (rIx K) (tVar 8) (tC (V.int 1))))) (tOp (rIx K) (tVar 3) (tVar 11)) (List.map (fun x => x.snd) [(Str.ofString "k", 11)])) (tC (V.int 0))) (gName 8) ⟨nx, rt, bk, ct⟩ [some (.ref lo), v1, v2, some (.ref s), v4, v5, v6, v7, some av, v9, v10, v11] H1 else tNext ⟨nx, rt, bk, ct⟩ [some (.ref lo), v1, v2, some (.ref s), v4, v5, v6, v7, some av, v9, v10, v11] H1 := by
  have tup : ∀ (z g : Str), z ∈ cs.map (·.1) → (∃ a', av = .ref a' ∧ SqT K H3 a' [.str g, .str z]) → (vlA cs held a).d = .int (look cs held z) → rIsi K [av, V.ty "tuple"] H3 fun x H1 => ∃ k, x = V.bl k ∧ if k = true then tAsg (tOp (rIx K) (tLc (iRng1 (tCons (tCB (rLenC K) (tCons (tVar 3) tNil)) tNil)) (gName 11) (tTest (tOp (rEqU K) (tOp (rIx K) (tOp (rIx K) (tOp (rIx K) (tVar 0) (tC (V.int 2))) (tVar 11)) (tC (V.int 0))) (tOp (rIx K) (tVar 8) (tC (V.int 1))))) (tOp (rIx K) (tVar 3) (tVar 11)) (List.map (fun x => x.snd) [(Str.ofString "k", 11)])) (tC (V.int 0))) (gName 8) ⟨nx, rt, bk, ct⟩ [some (.ref lo), v1, v2, some (.ref s), v4, v5, v6, v7, some av, v9, v10, v11] H1 else tNext ⟨nx, rt, bk, ct⟩ [some (.ref lo), v1, v2, some (.ref s), v4, v5, v6, v7, some av, v9, v10, v11] H1 := fun z g hz hav hv => by
    obtain ⟨a', rfl, hs⟩ := hav
    obtain ⟨nl, kd, pl, kvs, ps, hl0, hl1, hl2, hl3, hk, hp, _⟩ := hL
    have hc : Cl K H3 pl cs ps := ⟨hl3, hp⟩
    refine x_isTup (b := true) hs (by decide +kernel) ?_
    obtain ⟨i0, hi0⟩ := List.getElem?_of_mem hz
    have hnd := cs_nodup cso
    have hpl : ps.length = cs.length := by rw [hc.dt.length, List.length_map]
    have hcl := cs_len cso
    have hml : (held.map V.int).length = held.length := List.length_map _
    have hh0 := hh.at_
    walk_at "rd"
    refine fun D hD => lcR hD (fun k acc H2 => Ch [] H3 H2 ∧ acc = if i0 < k then [.int (look cs held z)] else []) (fun H2 hD2 c2 => ⟨c2, rfl⟩) (fun k acc H2 hk hI hA => ?_) (fun acc H2 hI hA => ?_)
    · obtain ⟨c, rfl⟩ := hI
      obtain ⟨q, pa, hq, hpa, hsp⟩ := Cl.get hc (by omega : k < ps.length)
      have hsp2 := c.sqT hsp
      have hs2 := c.sqT hs
      have hl02 := c.get0 hl0
      have hl32 := c.get0 hl3
      walk_at "rd"
      refine x_ixL (k := k) (SqL.of hl32) (by omega) hpa ?_
      walk_at "rd"
      refine ite_by (fun e => ?_) (fun e => ?_)
      · walk_at "rd"
        have hik := nodup_at hnd hi0 (by rw [List.getElem?_map, hq, ← e]; rfl)
        subst hik
        refine x_ixT (k := i0) (v := .int (look cs held z)) (c.sqT hh.at_) (by omega) (by rw [List.getElem?_map, look_at hnd hhl hi0]; rfl) ?_
        rw [if_neg (Nat.lt_irrefl _)] at hA
        refine x_lcE hA (by decide) fun H5 h5 c5 => ?_
        exact ⟨(c.nilL c5).drop hD, by rw [if_pos (Nat.lt_succ_self _)]; rfl⟩
      · refine x_lcN hA ⟨c, ?_⟩
        have hne : i0 ≠ k := fun h => e (by
          subst h
          rw [List.getElem?_map, hq] at hi0
          exact Option.some.inj hi0)
        by_cases hlt : i0 < k
        · rw [if_pos hlt, if_pos (by omega)]
        · rw [if_neg hlt, if_neg (by omega)]
    · obtain ⟨c, rfl⟩ := hI
      have hi1 : i0 < (cs.map (·.1)).length := by
        obtain ⟨h, _⟩ := List.getElem?_eq_some_iff.mp hi0
        exact h
      rw [List.length_map] at hi1
      rw [if_pos (by omega)] at hA
      walk_at "rd"
      exact q _ H2 (by rw [hv]; exact .int _) c
  cases a with
  | non =>
    cases hd
    refine x_isNon (b := false) (by decide +kernel) ?_
    walk_at "rd"
    exact q _ H3 .non (Ch.refl _)
  | num n =>
    cases hd
    refine x_isInt (b := false) (by decide +kernel) ?_
    walk_at "rd"
    exact q _ H3 (.int _) (Ch.refl _)
  | now z =>
    cases hd with
    | @tup a ys _ hs ha =>
    cases ha with
    | cons q1 q2 =>
    cases q1
    cases q2 with
    | cons q3 q4 =>
    cases q3
    cases q4
    exact tup z _ ok ⟨a, rfl, hs⟩ rfl
  | late z =>
    cases hd with
    | @tup a ys _ hs ha =>
    cases ha with
    | cons q1 q2 =>
    cases q1
    cases q2 with
    | cons q3 q4 =>
    cases q3
    cases q4
    exact tup z _ ok ⟨a, rfl, hs⟩ rfl
end
def sp__law_way (K : PySem.W.Frag) : Sp := fun vs H Q E => ∃ (lo s st an : Addr) (Z : List Addr) (ev : V) (xs : List V) (stk : List Act) (e : Ex) (ans : List Bool) (ks : List (Str × Kd)) (cs : List (Str × Int)) (held : List Int), vs = [.ref lo, .ref st, ev, .ref s, .ref an] ∧
  H st = some (.lst xs) ∧ DtA K H xs (stk.map Act.d) ∧ HvA ks cs stk ∧ Dt K H ev e.d ∧ Lr K H Z lo ks cs ∧ LoOk ks cs ∧ Hd K H s held ∧ held.length = cs.length ∧ SqL K H an (ans.map bV) ∧ mL stk ≤ 100000 ∧ ans.length ≤ 1000 ∧
  ∀ (rows : List Rw) (r : Option Ex) (rest : List Bool) (t rl : Addr) (pv : V) (rvs : List V) H', Way ks cs held stk.reverse e ans rows r rest → H t = none → H' t = some (.lst [.ref rl, pv]) → H rl = none → H' rl = some (.lst rvs) → DtA K H' rvs (rows.map Rw.d) → Dt K H' pv (exD r) → Ch [] H H' → Q (.ref t) H'
section
variable {P : Program} {w : World} {K : PySem.W.Frag} {mg : Str → Option Value} {base : Heap}
theorem ok__law_way (T : Txt K mg)  : FD P w K mg base CX0 7 (He.ga K "_law_way") ["lore", "stack", "pending", "held", "answers"] (sp__law_way K) := by
  refine FD.mk0 T.f__law_way sc__law_way (fun vs H Q E h => ?_) (fun _ _ _ _ _ _ us hl => match us, hl with | [_, _, _, _, _], _ => rfl) (fun cdv A outer s H vs Q E hr h => ⟨_, (pss_cons (ps_setLc (i := 6) (own := [("half", 5)]) rfl sc__law_way.nd rfl rfl (sw_true rfl rfl rfl (by decide +kernel)) (pi_list (pv 1)) (blkOk_by (N := N__law_way) (sc := defScope s__law_way) (by decide +kernel)) (fun _ _ _ _ _ => (pg_name (i := 5) sc__law_way.nd rfl (.inl rfl))) (fun _ _ _ _ _ => pts_nil) (fun _ _ _ _ _ => (pv 5)))
  (pss_cons (ps_set (i := 7) sc__law_way.nd rfl (.inl rfl) (pe_lst pa_nil))
  (pss_cons (ps_while PassesOwn.never (pt_cmpR u_gt (pe_callB c_len (by rfl) T.n_len bb_len (pa_cons (pv 6) pa_nil)) pe_int (nomark _)) (pss_cons (ps_set (i := 5) sc__law_way.nd rfl (.inl rfl) (pe_bm0 PySem.F.plainAttrs_list PySem.F.slot_list_pop PySem.F.type_list_pop mt_pop (pv 6)))
  (pss_one (ps_if (pt_cmpR (u_eq (hu64 hr)) (pe_ix ix_seq (pv 5) pe_int (by intro _ _; rfl)) (pe_callD (ok__law_state T) hr (by first | decide | omega) (by rfl) T.g__law_state pass0 (pa_cons (pv 2) pa_nil)) (nomark _)) (pss_cons (ps_if (pt_cmpR (u_eq (hu64 hr)) (pe_callB c_len (by rfl) T.n_len bb_len (pa_cons (pv 7) pa_nil)) (pe_callB c_len (by rfl) T.n_len bb_len (pa_cons (pv 4) pa_nil)) (nomark _)) (pss_one (ps_ret (pe_lst (pa_cons (pv 7) (pa_cons pe_non pa_nil))))) pss_nil)
  (pss_cons (ps_set (i := 8) sc__law_way.nd rfl (.inr rfl) (pe_ix ix_seq (pv 5) pe_int (by intro _ _; rfl)))
  (pss_cons (ps_if (pt_val (pe_callB call_isi (by rfl) T.n_isinstance bb_isinstance (pa_cons (pv 8) (pa_cons (pe_bltn (v := .ty "tuple") (by rfl) T.n_tuple bb_tuple rfl) pa_nil)))) (pss_one (ps_set (i := 8) sc__law_way.nd rfl (.inr rfl) (pe_ix ix_seq (pe_lc (own := [("k", 11)]) rfl sc__law_way.nd (pi_range1 (by rfl) T.n_range (pa_cons (pe_callB c_len (by rfl) T.n_len bb_len (pa_cons (pv 3) pa_nil)) pa_nil)) (blkOk_by (N := N__law_way) (sc := defScope s__law_way) (by decide +kernel)) (fun _ _ _ _ _ => (pg_name (i := 11) sc__law_way.nd rfl (.inl rfl))) (fun _ _ _ _ _ => (pts_one (pt_cmpR (u_eqE (K := K) (by rfl) (by exact hu64 hr)) (pe_ix (ix_seqE (K := K) (by rfl)) (pe_ix (ix_seqE (K := K) (by rfl)) (pe_ix (ix_seqE (K := K) (by rfl)) (pv 0) pe_int (by intro _ _; rfl)) (pv 11) (by intro _ _; rfl)) pe_int (by intro _ _; rfl)) (pe_ix (ix_seqE (K := K) (by rfl)) (pv 8) pe_int (by intro _ _; rfl)) (nomark _)))) (fun _ _ _ _ _ => (pe_ix (ix_seqE (K := K) (by rfl)) (pv 3) (pv 11) (by intro _ _; rfl)))) pe_int (by intro _ _; rfl)))) pss_nil)
  (pss_cons (ps_set (i := 9) sc__law_way.nd rfl (.inl rfl) (pe_ix ix_seq (pv 4) (pe_callB c_len (by rfl) T.n_len bb_len (pa_cons (pv 7) pa_nil)) (by intro _ _; rfl)))
  (pss_cons (ps_expr (pe_bm PySem.F.plainAttrs_list PySem.F.slot_list_append PySem.F.type_list_append mt_append (pv 7) (pa_cons (pe_tup (pa_cons pe_str (pa_cons (pe_ix ix_seq (pv 5) pe_int (by intro _ _; rfl)) (pa_cons (pv 8) (pa_cons (pv 9) pa_nil))))) pa_nil)))
  (pss_cons (ps_set (i := 2) sc__law_way.nd rfl (.inl rfl) (pe_callD (ok__law_after T) hr (by first | decide | omega) (by rfl) T.g__law_after pass0 (pa_cons (pv 2) (pa_cons (pe_ix ix_seq (pv 5) pe_int (by intro _ _; rfl)) (pa_cons (pe_dget (hu_of hr) (pe_ix ix_seq (pv 0) pe_int (by intro _ _; rfl)) (pe_ix ix_seq (pv 5) pe_int (by intro _ _; rfl)) (by intro _ _; rfl)) (pa_cons (pe_ix ix_seq (pv 5) pe_int (by intro _ _; rfl)) (pa_cons (pv 9) pa_nil)))))))
  (pss_one (ps_if (pt_cmpR (u_eq (hu64 hr)) (pv 9) pe_int (nomark _)) (pss_one (ps_for PassesOwn.never rfl (pi_tup (pe_ix ix_seq (pv 5) pe_int (by intro _ _; rfl))) (pg_name (i := 10) sc__law_way.nd rfl (.inl rfl)) (pss_one (ps_set (i := 6) sc__law_way.nd rfl (.inl rfl) (pe_op u_add (pv 6) (pe_callD (ok__law_halves T) hr (by first | decide | omega) (by rfl) T.g__law_halves pass0 (pa_cons (pv 10) pa_nil))))))) pss_nil)))))))) pss_nil))))
  (pss_one (ps_ret (pe_lst (pa_cons (pv 7) (pa_cons (pv 2) pa_nil)))))))), ?_⟩)
  · obtain ⟨lo, s, st, an, Z, ev, xs, stk, e, ans, ks, cs, held, rfl, _⟩ := h
    rfl
  · obtain ⟨lo, s, st, an, Z, ev, xs, stk, e, ans, ks, cs, held, rfl, hl, hxs, hh, he, hL, lok, hd, hhl, han, hm, hal, kk⟩ := h
    walk_at "st"
    walk_at "rd"
    have hxz : xs.length ≤ 100000 := by
      have := mL_len stk
      rw [hxs.length, List.length_map]
      omega
    refine fun D hD => lcL xs hD (fun i acc H2 => Ch [] H H2 ∧ acc = xs.take i) (fun H2 hD2 c2 => ⟨c2, rfl⟩) (fun i acc H2 _ hI => hI.1.sqL (SqL.of hl) (by simp)) (fun i y acc H2 hy hI hA => ?_) (fun acc H2 hI hA => ?_)
    · obtain ⟨c, rfl⟩ := hI
      walk_at "rd"
      refine x_lcE hA (by rw [List.length_take]
                          have : (100001 : Nat) ≤ sizeLine := by decide
                          omega) fun H5 h5 c5 => ?_
      exact ⟨(c.nilL c5).drop hD, (take_snoc hy).symm⟩
    obtain ⟨c1, rfl⟩ := hI
    rw [List.take_length] at hA
    walk_at "rd"
    refine nL fun rl H2 hrl hr2 c2 => ?_
    walk_at "rd"
    have c02 := c1.nilL c2
    have hrlH : H rl = none := c1.free0 hrl
    refine x_while (fun m σ H' => ∃ (pl : Addr) (xs rvs : List V) (rs : List Act) (e' : Ex) (ev' : V) (rows : List Rw) (o5 o8 o9 o10 o11 : Option V), σ = [some (.ref lo), some (.ref st), some ev', some (.ref s), some (.ref an), o5, some (.ref pl), some (.ref rl), o8, o9, o10, o11] ∧ Ch [] H H' ∧ H pl = none ∧ pl ≠ rl ∧ H' pl = some (.lst xs) ∧ DtA K H' xs (rs.reverse.map Act.d) ∧ HvA ks cs rs ∧ H' rl = some (.lst rvs) ∧ DtA K H' rvs (rows.map Rw.d) ∧ Dt K H' ev' e'.d ∧ rows.length ≤ ans.length ∧ mL rs = m ∧ m ≤ 100000 ∧
        ∀ rows2 r rest, Way ks cs held rs e' (ans.drop rows.length) rows2 r rest → Way ks cs held stk.reverse e ans (rows ++ rows2) r rest) (mL stk.reverse)
      ⟨D, xs, [], stk.reverse, e, ev, [], none, none, none, none, none, rfl, c02, hD, ne_of_none hA hrl, c2.get0 hA, by rw [List.reverse_reverse]; exact hxs.ch c02, fun y hy => hh y (by simpa using hy), hr2, .nil, he.ch c02, Nat.zero_le _, rfl, by rw [mL_rev]; exact hm, fun rows2 r rest w => w⟩ (fun m σ H' hW => ?_)
    obtain ⟨pl, xs, rvs, rs, e', ev', rows, o5, o8, o9, o10, o11, rfl, c, hpl, hpr, hpl', hxs', hh', hrl', hrv', he', hrl2, hm1, hm2, hw⟩ := hW
    have hxl : xs.length = rs.length := by rw [hxs'.length, List.length_map, List.length_reverse]
    have hrvl : rvs.length = rows.length := by rw [hrv'.length, List.length_map]
    have hms := mL_len rs
    walk_at "rd"
    cases rs with
    | nil =>
      have e0 : xs.length = 0 := by rw [hxl]; rfl
      rw [e0]
      walk_at "rd"
      refine nL fun t H3 ht h3 c3 => ?_
      exact kk rows (some e') _ t rl ev' rvs H3 (by have := hw [] _ _ .nil; rwa [List.append_nil] at this) (c.free0 ht) h3 hrlH (c3.get0 hrl') (hrv'.ch c3) (he'.ch c3) (c.nilR c3)
    | cons x rs =>
      have e1 : (0 : Int) < xs.length := by rw [hxl, List.length_cons]; omega
      have e0 : ¬ (xs.length : Int) = 0 := by omega
      walk_at "rd"
      refine x_whE ?_
      rw [List.reverse_cons, List.map_append] at hxs'
      obtain ⟨xs', y, rfl, hxs1, hy⟩ := DtA.unsnoc hxs'
      obtain ⟨a, av, fa, fv, rfl, hs, hav, hf, hfa⟩ := act_inv hy
      walk_at "rd"
      refine x_pop hpl' fun H3 h3 c3 => ?_
      have hs3 := c3.sqT hs
      have c03 : Ch [] H H3 := (c.nilL c3).drop hpl
      have han3 := c03.sqL han (by simp)
      have hrl3 : H3 rl = some (.lst rvs) := c3.get1 hrl' (Ne.symm hpr)
      walk_at "rd"
      refine ⟨ev', e', rfl, he'.ch c3, ?_⟩
      by_cases hg : x.g = e'.gd
      · have hg1 : x.g.s = e'.gd.s := by rw [hg]
        walk_at "rd"
        refine ite_by (fun q => ?_) (fun q => ?_)
        · walk_at "rd"
          refine nL fun t H4 ht h4 c4 => ?_
          have q' : ans.length = rows.length := by rw [List.length_map] at q; omega
          exact kk rows none [] t rl .non rvs H4 (by
            have := hw [] none [] (by rw [← q', List.drop_length]; exact Way.stop hg)
            rwa [List.append_nil] at this) (c03.free0 ht) h4 hrlH (c4.get0 hrl3) ((hrv'.ch c3).ch c4) .non (c03.nilR c4)
        · walk_at "rd"
          have okx := hh' x List.mem_cons_self
          have hL3 := hL.ch0 c03
          refine way_value hL3 lok.co (hav.ch c3) okx.1.ar (hd.ch c03) hhl fun vv H4 hvv c4 => ?_
          have hrl4 := c4.get0 hrl3
          have han4 := c4.sqL han3 (by simp)
          have q' : rows.length < ans.length := by rw [List.length_map] at q; omega
          have hget : ans[rows.length]? = some ans[rows.length] := List.getElem?_eq_getElem q'
          have hdrop : ans.drop rows.length = ans[rows.length] :: ans.drop (rows.length + 1) := List.drop_eq_getElem_cons q'
          generalize ans[rows.length] = an0 at hget hdrop
          walk_at "rd"
          have hs4 := c4.sqT hs3
          refine x_ixL (k := rows.length) (v := .int (if an0 then 1 else 0)) han4 (by rw [hrvl]) (by rw [List.getElem?_map, hget]; rfl) ?_
          walk_at "rd"
          refine nT fun tt H5 htt h5 c5 => ?_
          walk_at "rd"
          refine x_append (c5.get0 hrl4) (by rw [hrvl]
                                             have : (1001 : Nat) ≤ sizeLine := by decide
                                             omega) fun H6 h6 c6 => ?_
          have c06 : Ch [] H H6 := (((c03.nilR c4).nilR c5).nilL c6).drop hrlH
          have hpl6 : H6 pl = some (.lst xs') := c6.get1 (c5.get0 (c4.get0 h3)) hpr
          have hs6 := c6.sqT (c5.sqT hs4)
          obtain ⟨nl, kd, pll, kvs, ps, hl0, hl1, hl2, hl3, hk, hp, _⟩ := hL.ch0 c06
          obtain ⟨kv, hkv, hkd⟩ := kd_at hk lok.nd okx.1.st
          walk_at "rd"
          refine x_dget hl2 hkv ?_
          walk_at "rd"
          refine ⟨ev', kv, e', x.st, kdOf ks x.st, x.g, an0, rfl, (((he'.ch c3).ch c4).ch c5).ch c6, hkd, okx.2, fun u H7 hu c7 => ?_⟩
          walk_at "rd"
          have hpl7 : H7 pl = some (.lst xs') := c7.get0 hpl6
          have hrl7 := c7.get0 h6
          have c07 := c06.nilR c7
          have cc : ∀ {ds : List PyData} {vs : List V}, DtA K H' vs ds → DtA K H7 vs ds := fun h => ((((h.ch c3).ch c4).ch c5).ch c6).ch c7
          have hfa7 := cc hfa
          have hf7 := c7.sqT (c6.sqT (c5.sqT (c4.sqT (c3.sqT hf))))
          have hs7 := c7.sqT hs6
          have hx7 := cc hxs1
          have hrv7 : DtA K H7 (rvs ++ [.ref tt]) ((rows ++ [Rw.mk x.st (vlA cs held x.a) an0]).map Rw.d) := by
            rw [List.map_append]
            refine (cc hrv').append (.cons ?_ .nil)
            have h57 := c7.sqT (c6.sqT (SqT.of (K := K) h5))
            exact .tup h57 (.cons (.str _) (.cons (.str _) (.cons (((hvv.ch c5).ch c6).ch c7) (.cons (.int _) .nil))))
          have hle := okx.1.le
          have hrl8 : (rows ++ [Rw.mk x.st (vlA cs held x.a) an0]).length = rows.length + 1 := by rw [List.length_append]; rfl
          have hmm := mL_step x rs an0
          have hwn : ∀ rows2 r rest, Way ks cs held ((if an0 then (x.fs.flatMap hv).reverse else []) ++ rs) (aft e' x.st (kdOf ks x.st) x.g an0) (ans.drop (rows.length + 1)) rows2 r rest → Way ks cs held stk.reverse e ans ((rows ++ [Rw.mk x.st (vlA cs held x.a) an0]) ++ rows2) r rest := fun rows2 r rest w => by
            have := hw (Rw.mk x.st (vlA cs held x.a) an0 :: rows2) r rest (by rw [hdrop]; exact Way.step hg w)
            rw [List.append_assoc]
            exact this
          cases an0 with
          | false =>
            walk_at "rd"
            exact ⟨mL rs, by rw [← hm1]; exact mL_skip x rs, pl, xs', _, rs, _, u, _, _, _, _, _, _, rfl, c07, hpl, hpr, hpl7, hx7, fun y hy => hh' y (List.mem_cons_of_mem _ hy), hrl7, hrv7, hu, by rw [hrl8]; exact q', rfl, by have := mL_skip x rs; omega, fun rows2 r rest w => hwn _ _ _ (by rw [hrl8] at w; exact w)⟩
          | true =>
            walk_at "rd"
            refine goT fv (fun i σ H' => Ch [] H H' ∧ Ch [] H7 H' ∧ ∃ pl2 xs2 o10, H pl2 = none ∧ pl2 ≠ rl ∧ H' pl2 = some (.lst xs2) ∧ DtA K H' xs2 ((rs.reverse ++ (x.fs.take i).flatMap hv).map Act.d) ∧ σ = [some (.ref lo), some (.ref st), some u, some (.ref s), some (.ref an), some (.ref a), some (.ref pl2), some (.ref rl), some vv, some (.int (if true = true then 1 else 0)), o10, o11]) ⟨c07, Ch.refl _, pl, xs', _, hpl, hpr, hpl7, by simpa using hx7, rfl⟩ (fun i σ H' _ hI => hI.2.1.sqT hf7) (fun i y σ H8 hy hI => ?_) (fun σ H8 hI => ?_)
            · obtain ⟨c08, c78, pl2, xs2, o10', hp0, hpn, hp8, hx8, rfl⟩ := hI
              obtain ⟨d, hd', hyd⟩ := hfa7.get hy
              obtain ⟨f, hf', rfl⟩ : ∃ f, x.fs[i]? = some f ∧ d = f.d := by
                rw [List.getElem?_map] at hd'
                cases e : x.fs[i]? with
                | none => rw [e] at hd'; cases hd'
                | some f => rw [e] at hd'; exact ⟨f, rfl, (Option.some.inj hd').symm⟩
              walk_at "rd"
              refine ⟨y, f, rfl, hyd.ch c78, fun t ts H9 hn9 h9 hts c9 => ?_⟩
              have l1 := hx8.length
              have l2 := hts.length
              have l3 := hv_len f
              have l4 := flat_len (x.fs.take i)
              have l5 : (x.fs.take i).length ≤ 3 := by rw [List.length_take]; omega
              rw [List.length_map, List.length_append, List.length_reverse] at l1
              rw [List.length_map] at l2
              have l6 : rs.length ≤ 100000 := by have := mL_skip x rs; have := mL_len rs; omega
              have hsz : xs2.length + ts.length ≤ sizeLine := by
                have : (100010 : Nat) ≤ sizeLine := by decide
                omega
              refine x_addL (c9.get0 hp8) h9 hsz fun pl3 H10 hn10 h10 c10 => ?_
              walk_at "rd"
              refine ⟨(c08.nilR c9).nilR c10, (c78.nilR c9).nilR c10, pl3, _, _, (c08.nilR c9).free0 hn10, Ne.symm (ne_of_none (c9.get0 (c78.get0 hrl7)) hn10), h10, ?_, rfl⟩
              rw [take_snoc hf', List.flatMap_append, ← List.append_assoc, List.map_append]
              refine ((hx8.ch c9).ch c10).append ?_
              simpa using hts.ch c10
            · obtain ⟨c08, c78, pl2, xs2, o10', hp0, hpn, hp8, hx8, rfl⟩ := hI
              have hfl : fv.length = x.fs.length := by rw [hfa.length, List.length_map]
              rw [hfl, List.take_length] at hx8
              simp only [if_true] at hmm hwn
              exact ⟨mL ((x.fs.flatMap hv).reverse ++ rs), by rw [← hm1]; exact hmm, pl2, xs2, _, (x.fs.flatMap hv).reverse ++ rs, _, u, _, _, _, _, _, _, rfl, c08, hp0, hpn, hp8, by rw [List.reverse_append, List.reverse_reverse]; exact hx8, fun y hy => by
                rcases List.mem_append.mp hy with m | m
                · obtain ⟨f, m1, m2⟩ := List.mem_flatMap.mp (List.mem_reverse.mp m)
                  exact okx.sub m1 m2
                · exact hh' y (List.mem_cons_of_mem _ m), c78.get0 hrl7, hrv7.ch c78, hu.ch c78, by rw [hrl8]; exact q', rfl, by omega, fun rows2 r rest w => hwn _ _ _ (by rw [hrl8] at w; exact w)⟩
      · have hn : ¬ x.g.s = e'.gd.s := fun z => hg (gd_inj _ _ z)
        walk_at "rd"
        exact ⟨mL rs, by rw [← hm1]; exact mL_skip x rs, pl, xs', rvs, rs, e', ev', rows, _, _, _, _, _, rfl, c03, hpl, hpr, h3, hxs1.ch c3, fun y hy => hh' y (List.mem_cons_of_mem _ hy), hrl3, hrv'.ch c3, he'.ch c3, hrl2, rfl, by have := mL_skip x rs; omega, fun rows2 r rest w => hw _ _ _ (.skip hg w)⟩
end
def sp__law_answers (K : PySem.W.Frag) : Sp := fun vs H Q E => ∃ (p c : Addr) (n : Nat), vs = [.ref p, .int (n : Nat)] ∧ n ≤ 100 ∧ Pl H p c ∧ ∀ (a : Addr) (ans : List Bool) H', H a = none → H' a = some (.lst (ans.map bV)) → ans.length ≤ n → Pl H' p c → Ch [p] H H' → Q (.ref a) H'
section
variable {P : Program} {w : World} {K : PySem.W.Frag} {mg : Str → Option Value} {base : Heap}
theorem ok__law_answers (T : Txt K mg)  : FD P w K mg base CX0 3 (He.ga K "_law_answers") ["pool", "longest"] (sp__law_answers K) := by
  refine FD.mk0 T.f__law_answers sc__law_answers (fun vs H Q E h => ?_) (fun _ _ _ _ _ _ us hl => match us, hl with | [_, _], _ => rfl) (fun cdv A outer s H vs Q E hr h => ⟨_, (pss_one (ps_ret (pe_lc (own := [("k", 2)]) rfl sc__law_answers.nd (pi_range1 (by rfl) T.n_range (pa_cons (pe_callD (ok__law_draw T) hr (by first | decide | omega) (by rfl) T.g__law_draw pass0 (pa_cons (pv 0) (pa_cons (pe_op u_add (pv 1) pe_int) pa_nil))) pa_nil)) (blkOk_by (N := N__law_answers) (sc := defScope s__law_answers) (by decide +kernel)) (fun _ _ _ _ _ => (pg_name (i := 2) sc__law_answers.nd rfl (.inl rfl))) (fun _ _ _ _ _ => pts_nil) (fun _ _ _ _ _ => (pe_callD (ok__law_draw T) hr (by first | decide | omega) (by rfl) T.g__law_draw pass0 (pa_cons (pv 0) (pa_cons pe_int pa_nil))))))), ?_⟩)
  · obtain ⟨p, c, n, rfl, _⟩ := h
    rfl
  · obtain ⟨p, c, n, rfl, hn, hp, kk⟩ := h
    walk_at "st"
    walk_at "rd"
    refine use_draw hp (by omega) (by omega) fun d H1 hd0 hd1 hp1 c1 => ?_
    walk_at "rd"
    refine fun D hD => ?_
    have hDo := hp1.off hD
    have hD0 : H D = none := c1.free hD (by simpa using hDo.1)
    refine lcR hD (fun i acc H2 => Ch [p] H H2 ∧ Pl H2 p c ∧ ∃ ans : List Bool, acc = ans.map bV ∧ ans.length = i) (fun H2 hD2 c2 => ⟨c1.nilR c2, hp1.ch0 c2, [], rfl, rfl⟩) (fun i acc H2 hi hI hA => ?_) (fun acc H2 hI hA => ?_)
    · obtain ⟨cc, hp2, ans, rfl, rfl⟩ := hI
      walk_at "rd"
      refine use_draw hp2 (by omega) (by omega) fun z H3 hz0 hz1 hp3 c3 => ?_
      have hA3 := c3.get1 hA hDo.1
      refine x_lcE hA3 (by rw [List.length_map]
                           have : (1001 : Nat) ≤ sizeLine := by decide
                           omega) fun H5 h5 c5 => ?_
      refine ⟨Ch.drop (p := D) (((cc.seq c3).trans c5).mono fun b hb => by simpa [or_comm] using hb) hD0, hp3.ch1 c5 hDo, ans ++ [decide (z = 1)], ?_, by simp⟩
      rw [List.map_append]
      by_cases hz : z = 1
      · subst hz
        rfl
      · have : z = 0 := by omega
        subst this
        rfl
    · obtain ⟨cc, hp2, ans, rfl, hl⟩ := hI
      exact kk D ans H2 hD0 hA (by omega) hp2 cc
end
def sp__law_exit (K : PySem.W.Frag) : Sp := fun vs H Q E => ∃ (p c lo : Addr) (Z : List Addr) (ks : List (Str × Kd)) (cs : List (Str × Int)), vs = [.ref p, .ref lo] ∧ Pl H p c ∧ p ∈ Z ∧ Lr K H Z lo ks cs ∧ LoOk ks cs ∧ ∀ (v : V) (e : Ex) H', Dt K H' v e.d → Pl H' p c → Ch [p] H H' → Q v H'
section
variable {P : Program} {w : World} {K : PySem.W.Frag} {mg : Str → Option Value} {base : Heap}
theorem ok__law_exit (T : Txt K mg)  : FD P w K mg base CX0 5 (He.ga K "_law_exit") ["pool", "lore"] (sp__law_exit K) := by
  refine FD.mk0 T.f__law_exit sc__law_exit (fun vs H Q E h => ?_) (fun _ _ _ _ _ _ us hl => match us, hl with | [_, _], _ => rfl) (fun cdv A outer s H vs Q E hr h => ⟨_, (pss_cons (ps_set (i := 2) sc__law_exit.nd rfl (.inl rfl) (pe_callD (ok__law_draw T) hr (by first | decide | omega) (by rfl) T.g__law_draw pass0 (pa_cons (pv 0) (pa_cons pe_int pa_nil))))
  (pss_cons (ps_if (pt_cmpR (u_eq (hu64 hr)) (pv 2) pe_int (nomark _)) (pss_one (ps_ret (pe_tup (pa_cons pe_str (pa_cons (pe_callD (ok__law_number T) hr (by first | decide | omega) (by rfl) T.g__law_number pass0 (pa_cons (pv 0) pa_nil)) pa_nil))))) pss_nil)
  (pss_cons (ps_if (pt_cmpR (u_eq (hu64 hr)) (pv 2) pe_int (nomark _)) (pss_one (ps_ret (pe_tup (pa_cons pe_str (pa_cons (pe_callD (ok__law_name T) hr (by first | decide | omega) (by rfl) T.g__law_name pass0 (pa_cons (pv 0) pa_nil)) pa_nil))))) pss_nil)
  (pss_one (ps_ret (pe_tup (pa_cons pe_str (pa_cons (pe_ix ix_seq (pe_ix ix_seq (pv 1) pe_int (by intro _ _; rfl)) (pe_callD (ok__law_draw T) hr (by first | decide | omega) (by rfl) T.g__law_draw pass0 (pa_cons (pv 0) (pa_cons (pe_callB c_len (by rfl) T.n_len bb_len (pa_cons (pe_ix ix_seq (pv 1) pe_int (by intro _ _; rfl)) pa_nil)) pa_nil))) (by intro _ _; rfl)) pa_nil)))))))), ?_⟩)
  · obtain ⟨p, c, lo, Z, ks, cs, rfl, _⟩ := h
    rfl
  · obtain ⟨p, c, lo, Z, ks, cs, rfl, hp, hz, hL, lok, kk⟩ := h
    walk_at "st"
    walk_at "rd"
    refine use_draw hp (by omega) (by omega) fun d H1 hd0 hd1 hp1 c1 => ?_
    walk_at "rd"
    refine ite_by (fun e => ?_) (fun e => ?_)
    · walk_at "rd"
      refine use_number hp1 fun n H2 hn0 hn1 hp2 c2 => ?_
      walk_at "rd"
      refine nT fun t H3 ht h3 c3 => ?_
      exact kk _ (.ret n) H3 (two_d h3 (.str _) (.int _)) (hp2.ch0 c3) ((c1.seq c2).nilR c3)
    walk_at "rd"
    refine ite_by (fun e => ?_) (fun e => ?_)
    · walk_at "rd"
      refine use_name hp1 fun n H2 hn hp2 c2 => ?_
      walk_at "rd"
      refine nT fun t H3 ht h3 c3 => ?_
      exact kk _ (.leave n) H3 (two_d h3 (.str _) (.str _)) (hp2.ch0 c3) ((c1.seq c2).nilR c3)
    have hL1 := hL.ch c1 (fun s hs => by rw [List.mem_singleton.mp hs]; exact hz)
    obtain ⟨nl, kd, pl, kvs, ps, h1, h2, h3, h4, h5, h6, h7⟩ := hL1
    have hnp := (h7 p hz).2.1
    have hne := List.length_pos_iff.mpr lok.ne
    have hle := lok.le
    walk_at "rd"
    refine use_draw hp1 (by rw [List.length_map]; omega) (by rw [List.length_map]; omega) fun j H2 hj0 hj1 hp2 c2 => ?_
    rw [List.length_map] at hj1
    have h22 := c2.get1 h2 hnp
    walk_at "rd"
    obtain ⟨q, hq⟩ : ∃ q, ks[j.toNat]? = some q := ⟨_, List.getElem?_eq_getElem (by omega)⟩
    refine x_ixL (k := j.toNat) (v := .str q.1) (SqL.of h22) (by omega) (by rw [List.getElem?_map, hq]; rfl) ?_
    walk_at "rd"
    refine nT fun t H3 ht h3 c3 => ?_
    exact kk _ (.raise q.1) H3 (two_d h3 (.str _) (.str _)) (hp2.ch0 c3) ((c1.seq c2).nilR c3)
end
def sp__law_leaving (K : PySem.W.Frag) : Sp := fun vs H Q E => ∃ (p c lo : Addr) (Z : List Addr) (ks : List (Str × Kd)) (cs : List (Str × Int)), vs = [.ref p, .ref lo] ∧ Pl H p c ∧ p ∈ Z ∧ Lr K H Z lo ks cs ∧ LoOk ks cs ∧ ∀ (t s : Addr) (v : V) (e : Ex) (held : List Int) H', SqT K H' t [v, .ref s] → Dt K H' v e.d → Hd K H' s held → held.length = cs.length → Pl H' p c → Ch [p] H H' → Q (.ref t) H'
section
variable {P : Program} {w : World} {K : PySem.W.Frag} {mg : Str → Option Value} {base : Heap}
theorem ok__law_leaving (T : Txt K mg)  : FD P w K mg base CX0 6 (He.ga K "_law_leaving") ["pool", "lore"] (sp__law_leaving K) := by
  refine FD.mk0 T.f__law_leaving sc__law_leaving (fun vs H Q E h => ?_) (fun _ _ _ _ _ _ us hl => match us, hl with | [_, _], _ => rfl) (fun cdv A outer s H vs Q E hr h => ⟨_, (pss_one (ps_ret (pe_tup (pa_cons (pe_callD (ok__law_exit T) hr (by first | decide | omega) (by rfl) T.g__law_exit pass0 (pa_cons (pv 0) (pa_cons (pv 1) pa_nil))) (pa_cons (pe_callTy c_tuple (by rfl) T.n_tuple bb_tuple (pa_cons (pe_lc (own := [("pair", 2)]) rfl sc__law_leaving.nd (pi_list (pe_ix ix_seq (pv 1) pe_int (by intro _ _; rfl))) (blkOk_by (N := N__law_leaving) (sc := defScope s__law_leaving) (by decide +kernel)) (fun _ _ _ _ _ => (pg_name (i := 2) sc__law_leaving.nd rfl (.inl rfl))) (fun _ _ _ _ _ => pts_nil) (fun _ _ _ _ _ => (pe_callD (ok__law_draw T) hr (by first | decide | omega) (by rfl) T.g__law_draw pass0 (pa_cons (pv 0) (pa_cons (pe_ix (ix_seqE (K := K) (by rfl)) (pv 2) pe_int (by intro _ _; rfl)) pa_nil))))) pa_nil)) pa_nil))))), ?_⟩)
  · obtain ⟨p, c, lo, Z, ks, cs, rfl, _⟩ := h
    rfl
  · obtain ⟨p, c, lo, Z, ks, cs, rfl, hp, hz, hL, lok, kk⟩ := h
    walk_at "st"
    walk_at "rd"
    refine ⟨p, c, lo, Z, ks, cs, rfl, hp, hz, hL, lok, fun v e H1 hv hp1 c1 => ?_⟩
    have hL1 := hL.ch c1 (fun s hs => by rw [List.mem_singleton.mp hs]; exact hz)
    obtain ⟨nl, kd, pl, kvs, ps, h1, h2, h3, h4, h5, h6, h7⟩ := hL1
    have hnp := (h7 p hz).2.2.2
    walk_at "rd"
    refine fun D hD => ?_
    have hDo := hp1.off hD
    have hpsl : ps.length = cs.length := by rw [h6.length, List.length_map]
    have hcl := cs_len lok.co
    have hc : Cl K H1 pl cs ps := ⟨h4, h6⟩
    refine lcL ps hD (fun i acc H2 => Ch [p] H1 H2 ∧ Pl H2 p c ∧ ∃ held : List Int, acc = held.map V.int ∧ held.length = i) (fun H2 hD2 c2 => ⟨(Ch.refl H1).mono (by simp) |>.nilR c2, hp1.ch0 c2, [], rfl, rfl⟩) (fun i acc H2 _ hI => hI.1.sqL (SqL.of h4) (by simpa using hnp)) (fun i y acc H2 hy hI hA => ?_) (fun acc H2 hI hA => ?_)
    · obtain ⟨cc, hp2, held, rfl, rfl⟩ := hI
      have hi : held.length < ps.length := (List.getElem?_eq_some_iff.mp hy).1
      obtain ⟨q, pa, hq, hpa, hsp⟩ := Cl.get hc hi
      have e : V.ref pa = y := Option.some.inj (hpa.symm.trans hy)
      subst e
      have hsp2 := cc.sqT hsp
      have hqs := (lok.cn q (List.mem_of_getElem? hq)).2
      walk_at "rd"
      refine use_draw hp2 (by omega) (by omega) fun z H3 hz0 hz1 hp3 c3 => ?_
      refine x_lcE (c3.get1 hA hDo.1) (by
        rw [List.length_map]
        have : (1001 : Nat) ≤ sizeLine := by decide
        omega) fun H5 h5 c5 => ?_
      exact ⟨Ch.drop (p := D) (((cc.seq c3).trans c5).mono fun b hb => by simpa [or_comm] using hb) hD, hp3.ch1 c5 hDo, held ++ [z], by rw [List.map_append]; rfl, by simp⟩
    · obtain ⟨cc, hp2, held, rfl, hl⟩ := hI
      walk_at "rd"
      refine x_tupL (SqL.of hA) fun s H3 hs0 hs c3 => ?_
      walk_at "rd"
      refine nT fun t H4 ht h4' c4 => ?_
      exact kk t s v e held H4 (SqT.of h4') (((hv.ch cc).ch c3).ch c4) ⟨c4.sqT (SqT.of hs)⟩ (by omega) ((hp2.ch0 c3).ch0 c4) (((c1.seq cc).nilR c3).nilR c4)
end
/-- a world at x, its answers at t -/
def Wd (K : PySem.W.Frag) (H : Hp) (x t : Addr) (ans : List Bool) : Prop := ∃ dx q, H x = some (.ins (He.ga K "World") dx [("answers", .ref t), ("place", .ref q)]) ∧ SqT K H t (ans.map bV)
theorem Wd.ch {K : PySem.W.Frag} {S : List Addr} {H H' : Hp} {x t : Addr} {ans : List Bool} (h : Wd K H x t ans) (c : Ch S H H') (n : x ∉ S) : Wd K H' x t ans := by
  obtain ⟨dx, q, h1, h2⟩ := h
  exact ⟨dx, q, c.st _ _ n h1, c.sqT h2⟩
def BlL (K : PySem.W.Frag) (H : Hp) (an : Addr) (ans : List Bool) : Prop := H an = some (.lst (ans.map bV)) ∨ SqT K H an (ans.map bV)
def sp_World___init__ (K : PySem.W.Frag) : Sp := fun vs H Q E => ∃ (x dx an : Addr) (ans : List Bool), vs = [.ref x, .ref an] ∧ H x = some (.ins (He.ga K "World") dx []) ∧ BlL K H an ans ∧ ∀ t H', Wd K H' x t ans → Ch [x] H H' → Q .non H'
/-- a pile's attributes -/
abbrev pfs (b l : Addr) (m : Int) : List (Str × V) := [("_book", .ref b), ("_halves", .ref l), ("_limit", .int m)]
def sp_Pile___init__ (K : PySem.W.Frag) : Sp := fun vs H Q E => ∃ (x dx b : Addr) (ks : List (Str × Kd)) (cs : List (Str × Int)) (kvs svs : List (Key × V)), vs = [.ref x, .ref b] ∧ H x = some (.ins (He.ga K "Pile") dx []) ∧ Bo K H b ks cs kvs svs ∧
  ∀ b' l H', H l = none → H' x = some (.ins (He.ga K "Pile") dx (pfs b' l 100)) → H' l = some (.lst []) → Bo K H' b' ks cs kvs svs → Ch [x] H H' → Q .non H'
def sp_Pile___len__ (K : PySem.W.Frag) : Sp := spLenF K (He.ga K "Pile") "_halves"
def sp_Pile___iter__ (K : PySem.W.Frag) : Sp := spIterF K (He.ga K "Pile") "_halves"
def sp_Pile_limit (K : PySem.W.Frag) : Sp := fun vs H Q E => ∃ (p dx b l : Addr) (m : Int), vs = [.ref p] ∧ H p = some (.ins (He.ga K "Pile") dx (pfs b l m)) ∧ Q (.int m) H
def sp_Pile_limit_setter (K : PySem.W.Frag) : Sp := fun vs H Q E => ∃ (p dx b l : Addr) (m v : Int) (xs : List V), vs = [.ref p, .int v] ∧ H p = some (.ins (He.ga K "Pile") dx (pfs b l m)) ∧ H l = some (.lst xs) ∧ (xs.length : Int) ≤ v ∧ v ≤ 999 ∧ ∀ H', H' p = some (.ins (He.ga K "Pile") dx (pfs b l v)) → Ch [p] H H' → Q .non H'
def sp_Pile_change_limit (K : PySem.W.Frag) : Sp := sp_Pile_limit_setter K
theorem bools_at {ans : List Bool} {i : Nat} {y : V} (h : (ans.map bV)[i]? = some y) : ∃ a, ans[i]? = some a ∧ y = bV a := by
  rw [List.getElem?_map] at h
  cases e : ans[i]? with
  | none => rw [e] at h; cases h
  | some a => rw [e] at h; exact ⟨a, rfl, (Option.some.inj h).symm⟩
section
variable {P : Program} {w : World} {K : PySem.W.Frag} {mg : Str → Option Value} {base : Heap}
theorem ok_World___init__ (T : Txt K mg)  : FD P w K mg base CX0 1 (He.ma K (He.ga K "World") "__init__") ["self", "answers"] (sp_World___init__ K) := by
  refine FD.mk0 T.f_World___init__ sc_World___init__ (fun vs H Q E h => ?_) (fun _ _ _ _ _ _ us hl => match us, hl with | [_, _], _ => rfl) (fun cdv A outer s H vs Q E hr h => ⟨_, (pss_cons (ps_for PassesOwn.never rfl (pi_enumU (by rfl) T.n_enumerate (pa_cons (pv 1) pa_nil)) (pg_tup rfl (pgs_cons (pg_name (i := 2) sc_World___init__.nd rfl (.inl rfl)) (pgs_cons (pg_name (i := 3) sc_World___init__.nd rfl (.inl rfl)) pgs_nil))) (pss_one (ps_if (pt_cmpR u_notin (pv 3) (pe_tup (pa_cons pe_int (pa_cons pe_int pa_nil))) (by rfl)) pss_never pss_nil)))
  (pss_cons (ps_fld (pv 0) (pe_callTy c_tuple (by rfl) T.n_tuple bb_tuple (pa_cons (pv 1) pa_nil)) rfl)
  (pss_one (ps_fld (pv 0) (pe_tup (pa_cons (pe_callB c_len (by rfl) T.n_len bb_len (pa_cons (pv 1) pa_nil)) (pa_cons (pe_callTy c_tuple (by rfl) T.n_tuple bb_tuple (pa_cons (pv 1) pa_nil)) pa_nil))) rfl)))), ?_⟩)
  · obtain ⟨x, dx, an, ans, rfl, _⟩ := h
    rfl
  · obtain ⟨x, dx, an, ans, rfl, hx, ha, kk⟩ := h
    walk_at "st"
    walk_at "rd"
    refine x_iEU ?_
    walk_at "rd"
    have bad : ∀ a : Bool, inV (bV a) [V.int 0, .int 1] = true := fun a => by cases a <;> rfl
    rcases ha with ha | ha
    · refine ⟨an, ans.map bV, rfl, .inl ⟨SqL.of ha, ?_⟩⟩
      refine goE (ans.map bV) (fun i σ H' => Ch [] H H' ∧ ∃ o2 o3, σ = [some (.ref x), some (.ref an), o2, o3]) ⟨Ch.refl _, none, none, rfl⟩ (fun i σ H' _ hI => SqL.of (hI.1.get0 ha)) (fun i y σ H' hy hI T' H1 hT h1 c1 => ?_) (fun σ H' hI => ?_)
      · obtain ⟨c, o2, o3, rfl⟩ := hI
        obtain ⟨a, ha', rfl⟩ := bools_at hy
        walk_at "rd"
        refine nT fun q H2 hq h2 c2 => ?_
        refine x_notInT (SqT.of h2) rfl rfl ?_
        rw [bad]
        walk_at "rd"
        exact ⟨(c.nilL c1).nilL c2, _, _, rfl⟩
      · obtain ⟨c, o2, o3, rfl⟩ := hI
        have ha0 := c.get0 ha
        have hxa : an ≠ x := ne_of ha hx (by simp)
        walk_at "rd"
        refine x_tupL (SqL.of ha0) fun t H1 ht h1 c1 => ?_
        walk_at "rd"
        refine x_sfldB (c1.get0 (c.get0 hx)) T.c_World T.na_World_answers (by decide) fun H2 h2 c2 => ?_
        have ha2 := c2.get1 (c1.get0 ha0) hxa
        walk_at "rd"
        refine x_tupL (SqL.of ha2) fun t2 H3 ht2 h3 c3 => ?_
        walk_at "rd"
        refine nT fun q H4 hq h4 c4 => ?_
        walk_at "rd"
        refine x_sfldB (c4.get0 (c3.get0 h2)) T.c_World T.na_World_place (by simp [putF]) fun H5 h5 c5 => ?_
        exact kk t H5 ⟨dx, q, h5, c5.sqT (c4.sqT (c3.sqT (c2.sqT (SqT.of h1))))⟩ (((c.nilL c1).nilL c2).seq ((c3.nilL c4).nilL c5))
    · refine ⟨an, ans.map bV, rfl, .inr ⟨ha, ?_⟩⟩
      refine goEt (ans.map bV) (fun i σ H' => Ch [] H H' ∧ ∃ o2 o3, σ = [some (.ref x), some (.ref an), o2, o3]) ⟨Ch.refl _, none, none, rfl⟩ (fun i σ H' _ hI => hI.1.sqT ha) (fun i y σ H' hy hI T' H1 hT h1 c1 => ?_) (fun σ H' hI => ?_)
      · obtain ⟨c, o2, o3, rfl⟩ := hI
        obtain ⟨a, ha', rfl⟩ := bools_at hy
        walk_at "rd"
        refine nT fun q H2 hq h2 c2 => ?_
        refine x_notInT (SqT.of h2) rfl rfl ?_
        rw [bad]
        walk_at "rd"
        exact ⟨(c.nilL c1).nilL c2, _, _, rfl⟩
      · obtain ⟨c, o2, o3, rfl⟩ := hI
        have ha0 := c.sqT ha
        walk_at "rd"
        refine x_tupT ha0 ?_
        walk_at "rd"
        refine x_sfldB (c.get0 hx) T.c_World T.na_World_answers (by decide) fun H2 h2 c2 => ?_
        have ha2 := c2.sqT ha0
        walk_at "rd"
        refine x_tupT ha2 ?_
        walk_at "rd"
        refine nT fun q H4 hq h4 c4 => ?_
        walk_at "rd"
        refine x_sfldB (c4.get0 h2) T.c_World T.na_World_place (by simp [putF]) fun H5 h5 c5 => ?_
        exact kk an H5 ⟨dx, q, h5, c5.sqT (c4.sqT ha2)⟩ ((c.nilL c2).seq (c4.nilL c5))
theorem ok_Pile___init__ (T : Txt K mg)  : FD P w K mg base CX0 5 (He.ma K (He.ga K "Pile") "__init__") ["self", "book"] (sp_Pile___init__ K) := by
  refine FD.mk0 T.f_Pile___init__ sc_Pile___init__ (fun vs H Q E h => ?_) (fun _ _ _ _ _ _ us hl => match us, hl with | [_, _], _ => rfl) (fun cdv A outer s H vs Q E hr h => ⟨_, (pss_cons (ps_fld (pv 0) (pe_callD (ok_copied T) hr (by first | decide | omega) (by rfl) T.g_copied pass0 (pa_cons (pv 1) pa_nil)) rfl)
  (pss_cons (ps_fld (pv 0) (pe_lst pa_nil) rfl)
  (pss_one (ps_fld (pv 0) (pe_gc (by rfl) T.v_FIRST_LIMIT) rfl)))), ?_⟩)
  · obtain ⟨x, dx, b, ks, cs, kvs, svs, rfl, _⟩ := h
    rfl
  · obtain ⟨x, dx, b, ks, cs, kvs, svs, rfl, hx, hB, kk⟩ := h
    walk_at "st"
    walk_at "rd"
    refine ⟨b, kvs, svs, rfl, hB.bk, fun b' H1 hb' hbk c1 => ?_⟩
    have hx1 := c1.get0 hx
    walk_at "rd"
    refine x_sfldB hx1 T.c_Pile T.na_Pile__book (by decide) fun H2 hx2 c2 => ?_
    have hx2' : H2 x = some (.ins (He.ga K "Pile") dx [("_book", .ref b')]) := hx2
    walk_at "rd"
    refine nL fun l H3 hl hl3 c3 => ?_
    walk_at "rd"
    refine x_sfldB (c3.get0 hx2') T.c_Pile T.na_Pile__halves (by simp) fun H4 hx4 c4 => ?_
    have hx4' : H4 x = some (.ins (He.ga K "Pile") dx [("_book", .ref b'), ("_halves", .ref l)]) := hx4
    walk_at "rd"
    refine x_sfldB hx4' T.c_Pile T.na_Pile__limit (by simp [pfs]) fun H5 hx5 c5 => ?_
    have nbx : ∀ {H0 : Hp} {fs : List (Str × V)}, H0 x = some (.ins (He.ga K "Pile") dx fs) → NB (.ins (He.ga K "Pile") dx fs) = true → ∀ y ∈ [x], ∀ o, H0 y = some o → NB o = true := fun {H0 fs} e q y m o e2 => by
      rw [List.mem_singleton.mp m, e] at e2
      cases e2
      exact q
    have hlx : l ≠ x := Ne.symm (ne_of_none hx2 hl)
    have hl4 := c4.get1 hl3 hlx
    have B1 : Bo K H1 b' ks cs kvs svs := ⟨hbk, hB.kv.ch c1, hB.sv.ch c1⟩
    have B3 := (B1.ch c2 (nbx hx1 rfl)).ch0 c3
    have B5 := (B3.ch c4 (nbx (c3.get0 hx2') rfl)).ch c5 (nbx hx4' rfl)
    refine kk b' l H5 (c1.free0 (c2.free hl (by simpa using hlx))) hx5 (c5.get1 hl4 hlx) B5 ((c1.nilL c2).seq ((c3.nilL c4).seq c5))
theorem ok_Pile___len__ (T : Txt K mg)  : FD P w K mg base CX0 1 (He.ma K (He.ga K "Pile") "__len__") ["self"] (sp_Pile___len__ K) := by
  refine FD.mk0 T.f_Pile___len__ sc_Pile___len__ (fun vs H Q E h => ?_) (fun _ _ _ _ _ _ us hl => match us, hl with | [_], _ => rfl) (fun cdv A outer s H vs Q E hr h => ⟨_, (pss_one (ps_ret (pe_callB c_len (by rfl) T.n_len bb_len (pa_cons (pe_fld (pv 0) (by rfl)) pa_nil)))), ?_⟩)
  · obtain ⟨a, dx, fs, l, xs, rfl, _⟩ := h
    rfl
  · obtain ⟨a, dx, fs, l, xs, rfl, h1, h2, h3, kk⟩ := h
    walk_at "st"
    walk_at "rd"
    refine x_fldB h1 T.c_Pile T.na_Pile__halves h2 ?_
    walk_at "rd"
    exact kk
theorem ok_Pile___iter__ (T : Txt K mg)  : FD P w K mg base CX0 1 (He.ma K (He.ga K "Pile") "__iter__") ["self"] (sp_Pile___iter__ K) := by
  refine FD.mk0 T.f_Pile___iter__ sc_Pile___iter__ (fun vs H Q E h => ?_) (fun _ _ _ _ _ _ us hl => match us, hl with | [_], _ => rfl) (fun cdv A outer s H vs Q E hr h => ⟨_, (pss_one (ps_ret (pe_callB call_iterL (by rfl) T.n_iter bb_iter (pa_cons (pe_fld (pv 0) (by rfl)) pa_nil)))), ?_⟩)
  · obtain ⟨a, dx, fs, l, xs, rfl, _⟩ := h
    rfl
  · obtain ⟨a, dx, fs, l, xs, rfl, h1, h2, h3, kk⟩ := h
    walk_at "st"
    walk_at "rd"
    refine x_fldB h1 T.c_Pile T.na_Pile__halves h2 ?_
    walk_at "rd"
    exact ⟨l, xs, rfl, SqL.of h3, kk⟩
theorem ok_Pile_limit (T : Txt K mg)  : FD P w K mg base CX0 1 (pgA K (He.ga K "Pile") "limit" 0) ["self"] (sp_Pile_limit K) := by
  refine FD.mk0 T.f_Pile_limit sc_Pile_limit (fun vs H Q E h => ?_) (fun _ _ _ _ _ _ us hl => match us, hl with | [_], _ => rfl) (fun cdv A outer s H vs Q E hr h => ⟨_, (pss_one (ps_ret (pe_fld (pv 0) (by rfl)))), ?_⟩)
  · obtain ⟨p, dx, b, l, m, rfl, _⟩ := h
    rfl
  · obtain ⟨p, dx, b, l, m, rfl, h1, kk⟩ := h
    walk_at "st"
    walk_at "rd"
    exact x_fldB h1 T.c_Pile T.na_Pile__limit rfl kk
theorem ok_Pile_limit_setter (T : Txt K mg)  : FD P w K mg base CX0 1 (pgA K (He.ga K "Pile") "limit" 1) ["self", "value"] (sp_Pile_limit_setter K) := by
  refine FD.mk0 T.f_Pile_limit_setter sc_Pile_limit_setter (fun vs H Q E h => ?_) (fun _ _ _ _ _ _ us hl => match us, hl with | [_, _], _ => rfl) (fun cdv A outer s H vs Q E hr h => ⟨_, (pss_cons (ps_if (pt_not (pt_chain u_le u_le (pe_callB c_len (by rfl) T.n_len bb_len (pa_cons (pe_fld (pv 0) (by rfl)) pa_nil)) (pv 1) (pe_gc (by rfl) T.v_GREATEST_LIMIT))) pss_never pss_nil)
  (pss_one (ps_fld (pv 0) (pv 1) rfl))), ?_⟩)
  · obtain ⟨p, dx, b, l, m, v, xs, rfl, _⟩ := h
    rfl
  · obtain ⟨p, dx, b, l, m, v, xs, rfl, h1, h2, h3, h4, kk⟩ := h
    walk_at "st"
    walk_at "rd"
    refine x_fldB h1 T.c_Pile T.na_Pile__halves rfl ?_
    walk_at "rd"
    refine x_sfldB h1 T.c_Pile T.na_Pile__limit (by simp [pfs]) fun H2 h2' c2 => ?_
    exact kk H2 h2' c2
theorem ok_Pile_change_limit (T : Txt K mg)  : FD P w K mg base CX0 4 (He.ma K (He.ga K "Pile") "change_limit") ["self", "value"] (sp_Pile_change_limit K) := by
  refine FD.mk0 T.f_Pile_change_limit sc_Pile_change_limit (fun vs H Q E h => ?_) (fun _ _ _ _ _ _ us hl => match us, hl with | [_, _], _ => rfl) (fun cdv A outer s H vs Q E hr h => ⟨_, (pss_one (ps_pset (E := E0) T.c_Pile T.ps_Pile_limit (ok_Pile_limit_setter T).raw (hr.mono (by decide)) pass0 (pv 0) (pv 1) (by rfl))), ?_⟩)
  · obtain ⟨p, dx, b, l, m, v, xs, rfl, _⟩ := h
    rfl
  · obtain ⟨p, dx, b, l, m, v, xs, rfl, h1, h2, h3, h4, kk⟩ := h
    walk_at "st"
    walk_at "rd"
    refine x_obj h1 ?_
    exact ⟨p, dx, b, l, m, v, xs, rfl, h1, h2, h3, h4, kk⟩
end
theorem szB : (200000 : Nat) ≤ sizeLine := by decide
/-- a pile at p: its halves at l, its book at b -/
structure Pi (K : PySem.W.Frag) (H : Hp) (ks : List (Str × Kd)) (cs : List (Str × Int)) (kvs svs : List (Key × V)) (p l b : Addr) (m : Int) (stk : List Act) : Prop where
  at_ : ∃ dx, H p = some (.ins (He.ga K "Pile") dx (pfs b l m))
  ls : ∃ xs, H l = some (.lst xs) ∧ DtA K H xs (stk.map Act.d)
  bo : Bo K H b ks cs kvs svs
section
variable {K : PySem.W.Frag} {H H' : Hp} {S : List Addr} {ks : List (Str × Kd)} {cs : List (Str × Int)} {kvs svs : List (Key × V)} {p l b : Addr} {m : Int} {stk : List Act}
/-- no part of a book -/
def NBs (H : Hp) (S : List Addr) : Prop := ∀ x ∈ S, ∀ o, H x = some o → NB o = true
theorem Pi.ch (h : Pi K H ks cs kvs svs p l b m stk) (c : Ch S H H') (n1 : p ∉ S) (n2 : l ∉ S) (n3 : NBs H S) : Pi K H' ks cs kvs svs p l b m stk := by
  obtain ⟨⟨dx, h1⟩, ⟨xs, h2, h3⟩, h4⟩ := h
  exact ⟨⟨dx, c.st _ _ n1 h1⟩, ⟨xs, c.st _ _ n2 h2, h3.ch c⟩, h4.ch c n3⟩
theorem Pi.ch0 (h : Pi K H ks cs kvs svs p l b m stk) (c : Ch [] H H') : Pi K H' ks cs kvs svs p l b m stk := h.ch c (by simp) (by simp) fun _ z => by cases z
theorem Pi.ne (h : Pi K H ks cs kvs svs p l b m stk) : l ≠ p := by
  obtain ⟨⟨dx, h1⟩, ⟨xs, h2, h3⟩, h4⟩ := h
  exact ne_of h2 h1 (by simp)
theorem nbs_ins {C dx x : Addr} {fs : List (Str × V)} (h : H x = some (.ins C dx fs)) (q : NB (.ins C dx fs) = true) : NBs H [x] := fun y m o e => by
  rw [List.mem_singleton.mp m, h] at e
  cases e
  exact q
theorem nbs_lst {x : Addr} {xs : List V} (h : H x = some (.lst xs)) : NBs H [x] := fun y m o e => by
  rw [List.mem_singleton.mp m, h] at e
  cases e
  rfl
theorem Pi.nbs (h : Pi K H ks cs kvs svs p l b m stk) : NBs H [p] ∧ NBs H [l] := by
  obtain ⟨⟨dx, h1⟩, ⟨xs, h2, h3⟩, h4⟩ := h
  exact ⟨nbs_ins h1 rfl, nbs_lst h2⟩
theorem cutV_up (xs : List V) (n : Nat) (h : n ≤ xs.length) : cutV xs (some (n : Int)) none = xs.drop n := by
  unfold cutV
  rw [HT.sIx_nat, HT.sIx_none, Nat.min_eq_left h, List.take_of_length_le (by rw [List.length_drop]; exact Nat.le_refl _)]
theorem cutV_lo (xs : List V) (n : Nat) (h : n ≤ xs.length) : cutV xs none (some (n : Int)) = xs.take n := by
  unfold cutV
  rw [HT.sIx_nat, HT.sIx_none, Nat.min_eq_left h, List.drop_zero, Nat.sub_zero]
theorem Bo.nk (h : Bo K H b ks cs kvs svs) (lo : LoOk ks cs) : (kvs.map (·.1)).Nodup ∧ (∀ p ∈ kvs, flatR p.2 = true) ∧ (svs.map (·.1)).Nodup ∧ (∀ p ∈ svs, flatR p.2 = true) :=
  ⟨h.kv.nodup (by rw [ksD_keys]; exact lo.nd), h.kv.flat, h.sv.nodup (by rw [csD_keys]; exact cs_nodup lo.co), h.sv.flat⟩
theorem se_len (cs : List (Str × Int)) (held : List Int) (x : Act) : (se cs held x).length ≤ 2 := hv_len _
end
def sp_Pile_cut (K : PySem.W.Frag) : Sp := fun vs H Q E => ∃ (p l b : Addr) (m : Int) (n : Nat) (stk : List Act) (ks : List (Str × Kd)) (cs : List (Str × Int)) (kvs svs : List (Key × V)), vs = [.ref p, .int (n : Nat)] ∧ n ≤ stk.length ∧ Pi K H ks cs kvs svs p l b m stk ∧
  ∀ u lu bu l' H', H u = none → H lu = none → H l' = none → l' ≠ lu → Pi K H' ks cs kvs svs u lu bu m (stk.drop n) → Pi K H' ks cs kvs svs p l' b m (stk.take n) → Ch [p] H H' → Q (.ref u) H'
def sp_Pile_lay (K : PySem.W.Frag) : Sp := fun vs H Q E => ∃ (p l b q l2 b2 : Addr) (m m2 : Int) (stk stk2 : List Act) (ks : List (Str × Kd)) (cs : List (Str × Int)) (kvs svs : List (Key × V)), vs = [.ref p, .ref q] ∧ LoOk ks cs ∧ Pi K H ks cs kvs svs p l b m stk ∧ Pi K H ks cs kvs svs q l2 b2 m2 stk2 ∧ ((stk.length + stk2.length : Nat) : Int) ≤ m ∧ m ≤ 999 ∧
  ∀ l' H', H l' = none → Pi K H' ks cs kvs svs p l' b m (stk ++ stk2) → Ch [p] H H' → Q .non H'
def sp_Pile_put (K : PySem.W.Frag) : Sp := fun vs H Q E => ∃ (p l b s ta : Addr) (v : V) (m : Int) (x : Act) (stk : List Act) (ks : List (Str × Kd)) (cs : List (Str × Int)) (kvs svs : List (Key × V)) (held : List Int), vs = [.ref p, .ref s, .ref ta] ∧ SqT K H ta [v] ∧ LoOk ks cs ∧ Pi K H ks cs kvs svs p l b m stk ∧ Dt K H v x.d ∧ OkAct (ks.map (·.1)) (cs.map (·.1)) 2 x ∧ Hd K H s held ∧ held.length = cs.length ∧ ((stk.length + 2 : Nat) : Int) ≤ m ∧ m ≤ 999 ∧
  ∀ H', Pi K H' ks cs kvs svs p l b m (stk ++ se cs held x) → Ch [l] H H' → Q .non H'
section
variable {P : Program} {w : World} {K : PySem.W.Frag} {mg : Str → Option Value} {base : Heap}
theorem ok_Pile_cut (T : Txt K mg)  : FD P w K mg base CX0 7 (He.ma K (He.ga K "Pile") "cut") ["self", "at"] (sp_Pile_cut K) := by
  refine FD.mk0 T.f_Pile_cut sc_Pile_cut (fun vs H Q E h => ?_) (fun _ _ _ _ _ _ us hl => match us, hl with | [_, _], _ => rfl) (fun cdv A outer s H vs Q E hr h => ⟨_, (pss_cons (ps_if (pt_not (pt_chain u_le u_le pe_int (pv 1) (pe_callB c_len (by rfl) T.n_len bb_len (pa_cons (pe_fld (pv 0) (by rfl)) pa_nil)))) pss_never pss_nil)
  (pss_cons (ps_set (i := 2) sc_Pile_cut.nd rfl (.inl rfl) (StX.pe_makeR T.mk_Pile (ok_Pile___init__ T).raw (hr.mono (by decide)) (by rfl) T.g_Pile pass0 (pa_cons (pe_fld (pv 0) (by rfl)) pa_nil)))
  (pss_cons (ps_fld (pv 2) (pe_slice u_slice (pe_fld (pv 0) (by rfl)) (po_some (pv 1)) po_none) rfl)
  (pss_cons (ps_fld (pv 2) (pe_fld (pv 0) (by rfl)) rfl)
  (pss_cons (ps_fld (pv 0) (pe_slice u_slice (pe_fld (pv 0) (by rfl)) po_none (po_some (pv 1))) rfl)
  (pss_one (ps_ret (pv 2)))))))), ?_⟩)
  · obtain ⟨p, l, b, m, n, stk, ks, cs, kvs, svs, rfl, _⟩ := h
    rfl
  · obtain ⟨p, l, b, m, n, stk, ks, cs, kvs, svs, rfl, hn, ⟨⟨dx, h1⟩, ⟨xs, h2, h3⟩, h4⟩, kk⟩ := h
    have hxl : xs.length = stk.length := by rw [h3.length, List.length_map]
    have hn1 : (0 : Int) ≤ (n : Int) := by omega
    have hn2 : (n : Int) ≤ (xs.length : Int) := by omega
    walk_at "st"
    walk_at "rd"
    refine x_fldB h1 T.c_Pile T.na_Pile__halves rfl ?_
    walk_at "rd"
    refine x_fldB h1 T.c_Pile T.na_Pile__book rfl ?_
    walk_at "rd"
    refine nO fun u du H1 hu hu1 c1 => ?_
    refine ⟨u, du, b, ks, cs, kvs, svs, rfl, hu1, h4.ch0 c1, fun bu lu H2 hlu hu2 hlu2 Bu c2 => ⟨rfl, ?_⟩⟩
    have hpu : p ≠ u := ne_of_none h1 hu
    have c02 : Ch [] H H2 := (c1.nilL c2).drop hu
    have h12 := c02.get0 h1
    have h22 := c02.get0 h2
    have hluH : H lu = none := c1.free0 hlu
    have hlu_u : lu ≠ u := ne_of hlu2 hu2 (by simp)
    walk_at "rd"
    refine x_fldB h12 T.c_Pile T.na_Pile__halves rfl ?_
    walk_at "rd"
    refine x_slL (SqL.of h22) fun lu2 H3 hlu3 hl3 c3 => ?_
    rw [cutV_up xs n (by omega)] at hl3
    walk_at "rd"
    refine x_sfldB (c3.get0 hu2) T.c_Pile T.na_Pile__halves (by simp [pfs]) fun H4 hu4' c4 => ?_
    have hu4 : H4 u = some (.ins (He.ga K "Pile") du (pfs bu lu2 100)) := hu4'
    have h14 := c4.get1 (c3.get0 h12) hpu
    walk_at "rd"
    refine x_fldB h14 T.c_Pile T.na_Pile__limit rfl ?_
    walk_at "rd"
    refine x_sfldB hu4 T.c_Pile T.na_Pile__limit (by simp [pfs, putF]) fun H5 hu5' c5 => ?_
    have hu5 : H5 u = some (.ins (He.ga K "Pile") du (pfs bu lu2 m)) := hu5'
    have h15 := c5.get1 h14 hpu
    have h25 := c5.get1 (c4.get1 (c3.get0 h22) (ne_of (c3.get0 h22) (c3.get0 hu2) (by simp))) (ne_of (c4.get1 (c3.get0 h22) (ne_of (c3.get0 h22) (c3.get0 hu2) (by simp))) hu4 (by simp))
    walk_at "rd"
    refine x_fldB h15 T.c_Pile T.na_Pile__halves rfl ?_
    walk_at "rd"
    refine x_slL (SqL.of h25) fun l' H6 hl6 hl6' c6 => ?_
    rw [cutV_lo xs n (by omega)] at hl6'
    walk_at "rd"
    refine x_sfldB (c6.get0 h15) T.c_Pile T.na_Pile__halves (by simp [pfs]) fun H7 hp7 c7 => ?_
    walk_at "rd"
    have hlu2u : lu2 ≠ u := ne_of hl3 (c3.get0 hu2) (by simp)
    have hl5 := c5.get1 (c4.get1 hl3 hlu2u) hlu2u
    have cA : Ch [u] H2 H5 := (c3.nilL c4).seq c5
    have c05 : Ch [] H H5 := (c02.nilL cA).drop hu
    have c06 : Ch [] H H6 := c05.nilR c6
    have cB : Ch [p] H H7 := c06.nilL c7
    have hne : l' ≠ lu2 := Ne.symm (ne_of_none hl5 hl6)
    have hl7' := c7.get1 hl6' (ne_of hl6' (c6.get0 h15) (by simp))
    have hl7 := c7.get1 (c6.get0 hl5) (ne_of (c6.get0 hl5) (c6.get0 h15) (by simp))
    have hu7 := c7.get1 (c6.get0 hu5) (Ne.symm hpu)
    have B5 : Bo K H5 bu ks cs kvs svs := ((Bu.ch0 c3).ch c4 (nbs_ins (c3.get0 hu2) rfl)).ch c5 (nbs_ins hu4 rfl)
    have B7 := (B5.ch0 c6).ch c7 (nbs_ins (c6.get0 h15) rfl)
    have b7 := (h4.ch0 c06).ch c7 (nbs_ins (c6.get0 h15) rfl)
    refine kk u lu2 bu l' H7 hu (c02.free0 hlu3) (c05.free0 hl6) hne ⟨⟨_, hu7⟩, ⟨_, hl7, ?_⟩, B7⟩ ⟨⟨_, hp7⟩, ⟨_, hl7', ?_⟩, b7⟩ cB
    · rw [List.map_drop]
      exact (h3.ch cB).drop n
    · rw [List.map_take]
      exact (h3.ch cB).take n
theorem ok_Pile_lay (T : Txt K mg)  : FD P w K mg base CX0 4 (He.ma K (He.ga K "Pile") "lay") ["self", "other"] (sp_Pile_lay K) := by
  refine FD.mk0 T.f_Pile_lay sc_Pile_lay (fun vs H Q E h => ?_) (fun _ _ _ _ _ _ us hl => match us, hl with | [_, _], _ => rfl) (fun cdv A outer s H vs Q E hr h => ⟨_, (pss_cons (ps_if (pt_cmpR (u_neO T.ne_Book (ok_Book___eq__ T).raw (hr.mono (by decide)) (E := E0) pass0) (pe_fld (pv 0) (by rfl)) (pe_fld (pv 1) (by rfl)) (nomark _)) pss_never pss_nil)
  (pss_cons (ps_if (pt_cmpR u_gt (pe_op u_add (pe_callB c_len (by rfl) T.n_len bb_len (pa_cons (pe_fld (pv 0) (by rfl)) pa_nil)) (pe_callB c_len (by rfl) T.n_len bb_len (pa_cons (pe_fld (pv 1) (by rfl)) pa_nil))) (pe_propF (E := E0) (pv 0) T.c_Pile T.p_Pile_limit (ok_Pile_limit T) (hr.mono (by decide)) (by rfl)) (nomark _)) pss_never pss_nil)
  (pss_one (ps_fld (pv 0) (pe_op u_add (pe_fld (pv 0) (by rfl)) (pe_fld (pv 1) (by rfl))) rfl)))), ?_⟩)
  · obtain ⟨p, l, b, q, l2, b2, m, m2, stk, stk2, ks, cs, kvs, svs, rfl, _⟩ := h
    rfl
  · obtain ⟨p, l, b, q, l2, b2, m, m2, stk, stk2, ks, cs, kvs, svs, rfl, lo, ⟨⟨dx, h1⟩, ⟨xs, h2, h3⟩, h4⟩, ⟨⟨dy, g1⟩, ⟨ys, g2, g3⟩, g4⟩, hm, hm2, kk⟩ := h
    have hxl : xs.length = stk.length := by rw [h3.length, List.length_map]
    have hyl : ys.length = stk2.length := by rw [g3.length, List.length_map]
    obtain ⟨n1, n2, n3, n4⟩ := h4.nk lo
    obtain ⟨bx, _, _, hb1, _⟩ := id h4.bk
    obtain ⟨by_, _, _, gb1, _⟩ := id g4.bk
    have hle : ¬ (m < (xs.length : Int) + (ys.length : Int)) := by omega
    walk_at "st"
    walk_at "rd"
    refine x_fldB h1 T.c_Pile T.na_Pile__book rfl ?_
    walk_at "rd"
    refine x_fldB g1 T.c_Pile T.na_Pile__book rfl ?_
    refine ⟨b, b2, bx, by_, _, _, rfl, rfl, hb1, gb1, b, b2, kvs, svs, rfl, h4.bk, g4.bk, n1, n2, n3, n4, true, rfl, ?_⟩
    walk_at "rd"
    refine x_fldB h1 T.c_Pile T.na_Pile__halves rfl ?_
    walk_at "rd"
    refine x_fldB g1 T.c_Pile T.na_Pile__halves rfl ?_
    walk_at "rd"
    refine x_obj h1 ?_
    refine ⟨p, dx, b, l, m, rfl, h1, ?_⟩
    walk_at "rd"
    refine x_fldB h1 T.c_Pile T.na_Pile__halves rfl ?_
    walk_at "rd"
    refine x_fldB g1 T.c_Pile T.na_Pile__halves rfl ?_
    refine x_addL h2 g2 (by have : (1000 : Nat) ≤ sizeLine := by decide
                            omega) fun l' H1 hl hl1 c1 => ?_
    walk_at "rd"
    refine x_sfldB (c1.get0 h1) T.c_Pile T.na_Pile__halves (by simp [pfs]) fun H2 hp2 c2 => ?_
    have cB : Ch [p] H H2 := c1.nilL c2
    refine kk l' H2 hl ⟨⟨_, hp2⟩, ⟨_, c2.get1 hl1 (ne_of hl1 (c1.get0 h1) (by simp)), ?_⟩, (h4.ch0 c1).ch c2 (nbs_ins (c1.get0 h1) rfl)⟩ cB
    rw [List.map_append]
    exact (h3.ch cB).append (g3.ch cB)
theorem ok_Pile_put (T : Txt K mg) : FnK P w K mg base CX0 11 (He.ma K (He.ga K "Pile") "put") "store" (fun vs H Q E => ∃ a y z, vs = [a, y, z] ∧ ∀ p, H p = none → sp_Pile_put K [a, z, .ref p] (upd H p (.tup [y])) Q E) := by
  refine fn_star1kw T.f_Pile_put sc_Pile_put StX.cxUp_none (fun _ _ _ _ _ _ _ _ _ => rfl) fun cdv A outer s H vs Q E hr h => ?_
  have key : ∃ t, PSs (cxOf CX0 P w K mg base N_Pile_put "Pile.put" (defScope s_Pile_put) (He.ma K (He.ga K "Pile") "put") cdv A outer s H E).nox (defBody s_Pile_put) t ∧ t ⟨fun _ H' => Q .non H', Q, fun _ _ => False, fun _ _ => False⟩ (start N_Pile_put vs) H := by
    refine ⟨_, (pss_cons (ps_for PassesOwn.never rfl (pi_tup (pv 2)) (pg_name (i := 3) sc_Pile_put.nd rfl (.inl rfl)) (pss_one (ps_expr (pe_callD (ok_check_action T) hr (by first | decide | omega) (by rfl) T.g_check_action pass0 (pa_cons (pe_fld (pv 0) (by rfl)) (pa_cons (pv 3) pa_nil))))))
  (pss_cons (ps_set (i := 4) sc_Pile_put.nd rfl (.inl rfl) (pe_lst pa_nil))
  (pss_cons (ps_for PassesOwn.never rfl (pi_tup (pv 2)) (pg_name (i := 3) sc_Pile_put.nd rfl (.inl rfl)) (pss_one (ps_expr (pe_bm PySem.F.plainAttrs_list PySem.F.slot_list_extend PySem.F.type_list_extend mt_extendT (pv 4) (pa_cons (pe_callD (ok_settled T) hr (by decide) (by rfl) T.g_settled pass0 (pa_cons (pv 3) (pa_cons (pe_fld (pv 0) (by rfl)) (pa_cons (pv 1) pa_nil)))) pa_nil)))))
  (pss_cons (ps_if (pt_cmpR u_gt (pe_op u_add (pe_callB c_len (by rfl) T.n_len bb_len (pa_cons (pe_fld (pv 0) (by rfl)) pa_nil)) (pe_callB c_len (by rfl) T.n_len bb_len (pa_cons (pv 4) pa_nil))) (pe_fld (pv 0) (by rfl)) (nomark _)) pss_never pss_nil)
  (pss_one (ps_expr (pe_bm PySem.F.plainAttrs_list PySem.F.slot_list_extend PySem.F.type_list_extend mt_extend (pe_fld (pv 0) (by rfl)) (pa_cons (pv 4) pa_nil)))))))), ?_⟩
    obtain ⟨p, l, b, s, ta, v, m, x, stk, ks, cs, kvs, svs, held, rfl, hta, lo, hP, hv, ok, hs, hsl, hm, hm2, kk⟩ := h
    obtain ⟨⟨dx, h1⟩, ⟨xs, h2, h3⟩, h4⟩ := id hP
    have hxl : xs.length = stk.length := by rw [h3.length, List.length_map]
    have one : ∀ {i : Nat} {y : V}, [v][i]? = some y → i = 0 ∧ y = v := fun {i y} e => by
      cases i with
      | zero => exact ⟨rfl, (Option.some.inj e).symm⟩
      | succ i => simp at e
    walk_at "st"
    walk_at "rd"
    refine goT [v] (fun i σ H' => Ch [] H H' ∧ ∃ o, σ = [some (.ref p), some (.ref s), some (.ref ta), o, none]) ⟨Ch.refl _, none, rfl⟩ (fun i σ H' _ hI => hI.1.sqT hta) (fun i y σ H' hy hI => ?_) (fun σ H' hI => ?_)
    · obtain ⟨c, o, rfl⟩ := hI
      obtain ⟨rfl, rfl⟩ := one hy
      walk_at "rd"
      refine x_fldB (c.get0 h1) T.c_Pile T.na_Pile__book rfl ?_
      walk_at "rd"
      refine ⟨b, y, x, ks, cs, kvs, svs, rfl, h4.ch0 c, lo, hv.ch c, ok, fun H2 c2 => ?_⟩
      walk_at "rd"
      exact ⟨c.nilL c2, _, rfl⟩
    obtain ⟨c, o, rfl⟩ := hI
    walk_at "rd"
    refine nL fun f H2 hf hf2 c2 => ?_
    walk_at "rd"
    have c02 := c.nilL c2
    refine goT [v] (fun i σ H' => Ch [] H H' ∧ ∃ o fs, H' f = some (.lst fs) ∧ DtA K H' fs ((if i = 0 then [] else se cs held x).map Act.d) ∧ σ = [some (.ref p), some (.ref s), some (.ref ta), o, some (.ref f)]) ⟨c02, _, [], hf2, .nil, rfl⟩ (fun i σ H' _ hI => hI.1.sqT hta) (fun i y σ H' hy hI => ?_) (fun σ H' hI => ?_)
    · obtain ⟨c', o', fs, hff, hfd, rfl⟩ := hI
      obtain ⟨rfl, rfl⟩ := one hy
      cases hfd
      have hfH : H f = none := c.free0 hf
      walk_at "rd"
      refine x_fldB (c'.get0 h1) T.c_Pile T.na_Pile__book rfl ?_
      walk_at "rd"
      refine ⟨y, x, b, s, ks, cs, kvs, svs, held, rfl, h4.ch0 c', lo.co, hv.ch c', ok.ar, hs.ch c', hsl, fun t ts H3 ht hts c3 => ?_⟩
      have htl : ts.length ≤ 2 := by
        rw [hts.length, List.length_map]
        exact se_len cs held x
      walk_at "rd"
      refine x_extendT (c3.get0 hff) ht (by have : (1000 : Nat) ≤ sizeLine := by decide
                                            simp only [List.length_nil]; omega) fun H4 h4' c4 => ?_
      walk_at "rd"
      refine ⟨((c'.nilR c3).nilL c4).drop hfH, _, _, h4', ?_, rfl⟩
      rw [if_neg (by omega)]
      exact hts.ch c4
    obtain ⟨c', o', fs, hff, hfd, rfl⟩ := hI
    rw [List.length_singleton, if_neg (by omega)] at hfd
    have hfl : fs.length ≤ 2 := by
      rw [hfd.length, List.length_map]
      exact se_len cs held x
    have h1' := c'.get0 h1
    have h2' := c'.get0 h2
    have hle : ¬ (m < (xs.length : Int) + (fs.length : Int)) := by omega
    walk_at "rd"
    refine x_fldB h1' T.c_Pile T.na_Pile__halves rfl ?_
    walk_at "rd"
    refine x_fldB h1' T.c_Pile T.na_Pile__limit rfl ?_
    walk_at "rd"
    refine x_fldB h1' T.c_Pile T.na_Pile__halves rfl ?_
    walk_at "rd"
    refine ⟨l, f, xs, fs, rfl, rfl, h2', hff, by have := szB; omega, ?_⟩
    have c5 : Ch [l] H' (upd H' l (.lst (xs ++ fs))) := Ch.mut h2' rfl
    have cB : Ch [l] H (upd H' l (.lst (xs ++ fs))) := c'.nilL c5
    walk_at "rd"
    refine kk _ ⟨⟨dx, c5.get1 h1' (Ne.symm hP.ne)⟩, ⟨_, upd_same, ?_⟩, (h4.ch0 c').ch c5 (nbs_lst h2')⟩ cB
    rw [List.map_append]
    exact (h3.ch cB).append (hfd.ch c5)
  obtain ⟨t, h1, h2⟩ := key
  exact ⟨t, h1.nox, h2⟩
end
theorem u_sliceE {X : Cx} {K : PySem.W.Frag} (hK : X.K = K) : SlR X (rSlU K) := by subst hK; exact u_slice
theorem ps_fldE {X : Cx} {K : PySem.W.Frag} {o value : Expr} {f : Str} {pos pos' : Pos} {ta tv : TE} (hK : X.K = K) (ha : PE X o ta) (hv : PE X value tv) (hs : swapsWith value (some (.Attribute o f pos')) pos.line X.env = pure false) : PS X (.Assign [.Attribute o f pos'] value pos) (sFld K ta tv f) := by
  subst hK
  exact ps_fld ha hv hs
/-- an own error made -/
theorem pmk_oexD {X : Cx} {x : Str} {C fI : Addr} {k : Nat} {ps : List Str} {sp : Sp} {e : Expr} {es : List Expr} {ta : TA} {p pos : Pos} (T : OexC X.K C) (m : Meth X.K C "__init__" fI) (F : FD X.prog X.w X.K X.mg X.base CX0 k fI ps sp) (hr : Room (k + 1) X.A) (hg : Gl X x) (hm : X.mg x = some (.ref C)) (ha : PA X (e :: es) ta)
    (hdb : (x == ("__debug__" : Str)) = false := by decide) (he : starEach (e :: es) X.env = (false, eval e X.env) :: starEach es X.env := by rfl) (hpl : (backTo pos (starEach es X.env)).any (·.1) = false := by rfl) :
    PMk X (.Call (.Name x p) (e :: es) [] pos) (tMkO C sp [] ta) := by
  intro pins s σ H Q I h
  obtain ⟨fd, F1, b⟩ := F.ex
  exact pmk_oex T m.at_ (beq_iff_eq.mp m.fn) F1 hr b .nil (fun _ _ _ _ _ _ _ h => h.elim) hg hm ha hdb he hpl pins s σ H Q I h
def sp_NoAnswer___init__ (K : PySem.W.Frag) : Sp := fun vs H Q E => ∃ (a : Addr) (r : V), vs = [.ref a, r] ∧ H a = some (exo a (He.ga K "NoAnswer") none) ∧ ∀ dx, H dx = none → dx ≠ a → Q .non (upd (upd H dx (exd dx [("rows", r)])) a (exo a (He.ga K "NoAnswer") (some dx)))
theorem x_vei {K : PySem.W.Frag} {ta : TA} {σ : L2.St} {H : Hp} {Q : VK} (h : ta σ H fun vs H1 => ∃ (a C : Addr) (ws : List V), vs = .ref a :: ws ∧ ws.length ≤ 1000 ∧ OexC K C ∧ H1 a = some (exo a C none) ∧ Q .non H1) : tVeI K ta σ H Q := h
theorem x_ost {K : PySem.W.Frag} {f : Str} {to te : TE} {σ : L2.St} {H : Hp} {nx bk ct : L2.St → Hp → Prop} {rt : VK} (h : te σ H fun y H1 => to σ H1 fun x H2 => ∃ a C : Addr, x = .ref a ∧ OexC K C ∧ PySem.W.findIn K (.ref C) f = some none ∧
  ((H2 a = some (exo a C none) ∧ ∀ dx, H2 dx = none → dx ≠ a → nx σ (upd (upd H2 dx (exd dx [(f, y)])) a (exo a C (some dx)))) ∨
    ∃ (dx : Addr) (fs : List (Str × V)), H2 a = some (exo a C (some dx)) ∧ H2 dx = some (exd dx fs) ∧ fs.length ≤ 900 ∧ nx σ (upd H2 dx (exd dx ((f, y) :: fs))))) : tOst K f to te ⟨nx, rt, bk, ct⟩ σ H := h
/-- what is left of an error that was made: its dict -/
theorem x_fin3 {t1 t2 : WX → TS} {te : WX → TE} {tf tfs : TS} {Wout : WX} {σ : L2.St} {H : Hp} {D : Ends} (h : t1 (wFin tfs Wout) ⟨fun σ1 H1 => t2 (wFin tfs Wout) ⟨fun σ2 H2 => te (wFin tfs Wout) σ2 H2 fun v H3 => tf ⟨fun _ H4 => D.rt v H4, D.rt, D.bk, D.ct⟩ σ2 H3, fun _ _ => False, fun _ _ => False, fun _ _ => False⟩ σ1 H1, fun _ _ => False, fun _ _ => False, fun _ _ => False⟩ σ H) : tFin3 t1 t2 te tf tfs Wout D σ H := h
theorem x_mko {C : Addr} {sp : Sp} {dvs : List V} {ta : TA} {σ : L2.St} {H : Hp} {Q : XK} (h : ta σ H fun vs H1 => vs.length ≤ 1000 ∧ ∀ a, H1 a = none → sp (.ref a :: (vs ++ dvs)) (upd H1 a (exo a C none))
  (fun v H2 => v = .non ∧ ∃ (d : Addr) (fs : List (Str × V)), H2 a = some (exo a C (some d)) ∧ H2 d = some (exd d fs) ∧ H1 d = none ∧ Q (.ref C) (some d) (upd (del H2 a) d (.xd fs))) (fun _ _ _ => False)) : tMkO C sp dvs ta σ H Q := h
theorem x_wfin {tfs : TS} {Wout : WX} {cls : Value} {d : Option Addr} {σ : L2.St} {H : Hp} (h : tfs ⟨fun σ2 H2 => Wout cls d σ2 H2, fun _ _ => False, fun _ _ => False, fun _ _ => False⟩ σ H) : wFin tfs Wout cls d σ H := h
theorem exc_ch {H : Hp} {a d C : Addr} {r : V} {o u : HO} (na : H a = none) (nd : H d = none) (hda : d ≠ a) : Ch [] H (upd (del (upd (upd (upd H a o) d u) a (exo a C (some d))) a) d (.xd [("rows", r)])) := by
  have q : ∀ {b : Addr} {v : HO}, H b = some v → upd (del (upd (upd (upd H a o) d u) a (exo a C (some d))) a) d (.xd [("rows", r)]) b = some v := fun {b v} e => by
    have ba : b ≠ a := ne_of_none e na
    have bd : b ≠ d := ne_of_none e nd
    rw [upd_ne bd, del_ne ba, upd_ne ba, upd_ne bd, upd_ne ba]
    exact e
  exact ⟨fun b v _ e => q e, fun b xs e => q e, fun b v u e => q e⟩
def sp_Pile_unwind (K : PySem.W.Frag) : Sp := fun vs H Q E => ∃ (p l b s wd wt : Addr) (m : Int) (ev : V) (stk : List Act) (e : Ex) (ans : List Bool) (ks : List (Str × Kd)) (cs : List (Str × Int)) (kvs svs : List (Key × V)) (held : List Int), vs = [.ref p, ev, .ref s, .ref wd] ∧
  LoOk ks cs ∧ Pi K H ks cs kvs svs p l b m stk ∧ HvA ks cs stk ∧ Dt K H ev e.d ∧ Hd K H s held ∧ held.length = cs.length ∧ Wd K H wd wt ans ∧ mL stk ≤ 100000 ∧ ans.length ≤ 1000 ∧
  (∀ (rows : List Rw) (e' : Ex) (rest : List Bool) (t rl w2 t2 l' : Addr) (pv : V) (rvs : List V) H', Way ks cs held stk.reverse e ans rows (some e') rest → SqT K H' t [.ref rl, pv, .ref w2] → H' rl = some (.lst rvs) → DtA K H' rvs (rows.map Rw.d) → Dt K H' pv e'.d → Wd K H' w2 t2 rest → H l' = none → Pi K H' ks cs kvs svs p l' b m [] → Ch [p] H H' → Q (.ref t) H') ∧
  (∀ (rows : List Rw) (d rt l' : Addr) (rvs : List V) H', Way ks cs held stk.reverse e ans rows none [] → H' d = some (.xd [("rows", .ref rt)]) → SqT K H' rt rvs → DtA K H' rvs (rows.map Rw.d) → H l' = none → Pi K H' ks cs kvs svs p l' b m [] → Ch [p] H H' → E (.ref (He.ga K "NoAnswer")) (some d) H')
section
variable {P : Program} {w : World} {K : PySem.W.Frag} {mg : Str → Option Value} {base : Heap}
theorem ok_NoAnswer___init__ (T : Txt K mg)  : FD P w K mg base CX0 1 (He.ma K (He.ga K "NoAnswer") "__init__") ["self", "rows"] (sp_NoAnswer___init__ K) := by
  refine FD.mk0 T.f_NoAnswer___init__ sc_NoAnswer___init__ (fun vs H Q E h => ?_) (fun _ _ _ _ _ _ us hl => match us, hl with | [_, _], _ => rfl) (fun cdv A outer s H vs Q E hr h => ⟨_, (pss_cons (ps_expr (pe_veinitB (by rfl) T.g_DeedError T.b_DeedError (pa_cons (pv 0) (pa_cons pe_str pa_nil))))
  (pss_one (ps_ost (pv 0) (pv 1) (by rfl)))), ?_⟩)
  · obtain ⟨a, r, rfl, _⟩ := h
    rfl
  · obtain ⟨a, r, rfl, ha, kk⟩ := h
    walk_at "st"
    walk_at "rd"
    refine x_vei ?_
    walk_at "rd"
    refine ⟨a, _, _, rfl, by decide, T.ox_NoAnswer, ha, ?_⟩
    refine x_ost ?_
    walk_at "rd"
    exact ⟨a, _, rfl, T.ox_NoAnswer, T.nr_NoAnswer, .inl ⟨ha, kk⟩⟩
theorem ok_Pile_unwind (T : Txt K mg)  : FD P w K mg base (L2.CX P w) 9 (He.ma K (He.ga K "Pile") "unwind") ["self", "pending", "store", "world"] (sp_Pile_unwind K) := by
  refine FD.mkX T.f_Pile_unwind sc_Pile_unwind (fun vs H Q E h => ?_) (fun _ _ _ _ _ _ us hl => match us, hl with | [_, _, _, _], _ => rfl) (fun cdv A outer s H vs Q E hr h => ⟨_, (pss_one (ps_fin3 rfl rfl rfl (takes_of rfl rfl rfl rfl) (fun W pn xe tk _ => (ps_asg (pe_callD (ok_way_out T) hr (by decide) (by rfl) T.g_way_out pass0 (pa_cons (pe_fldE (K := K) (by rfl) (pv 0) (by rfl)) (pa_cons (pv 1) (pa_cons (pv 2) (pa_cons (pe_fldE (K := K) (by rfl) (pv 0) (by rfl)) (pa_cons (pe_fldE (K := K) (by rfl) (pv 3) (by rfl)) pa_nil)))))) (pg_tupE (n := 3) (K := K) (by rfl) rfl (pgs_cons (pg_name (i := 4) sc_Pile_unwind.nd rfl (.inl rfl)) (pgs_cons (pg_name (i := 5) sc_Pile_unwind.nd rfl (.inl rfl)) (pgs_cons (pg_name (i := 6) sc_Pile_unwind.nd rfl (.inl rfl)) pgs_nil))))))
  (fun W pn xe tk _ => (ps_if (pt_cmpR u_is (pv 5) pe_non (nomark _)) (pss_one (ps_raise (by rfl) tk (pmk_oexD T.ox_NoAnswer T.m_NoAnswer___init__ (ok_NoAnswer___init__ T) (hr.mono (by decide)) (by rfl) T.g_NoAnswer (pa_cons (pe_callTy (c_tupleE (K := K) (by rfl)) (by rfl) T.n_tuple bb_tuple (pa_cons (pv 4) pa_nil)) pa_nil)))) pss_nil))
  (fun W pn xe tk _ => (pe_tup (pa_cons (pv 4) (pa_cons (pv 5) (pa_cons (StX.pe_makeR T.mk_World (ok_World___init__ T).raw (hr.mono (by decide)) (by rfl) T.g_World pass0 (pa_cons (pe_slice (u_sliceE (K := K) (by rfl)) (pe_fldE (K := K) (by rfl) (pv 3) (by rfl)) (po_some (pv 6)) po_none) pa_nil)) pa_nil)))))
  (pss_one (ps_fldE (K := K) (by rfl) (pv 0) (pe_lst pa_nil) rfl)) (fun a pn => (pss_one (ps_fldE (K := K) (by rfl) (pv 0) (pe_lst pa_nil) rfl))))), ?_⟩)
  · obtain ⟨p, l, b, s, wd, wt, m, ev, stk, e, ans, ks, cs, kvs, svs, held, rfl, _⟩ := h
    rfl
  · obtain ⟨p, l, b, s, wd, wt, m, ev, stk, e, ans, ks, cs, kvs, svs, held, rfl, lo, hP, hh, he, hs, hsl, ⟨dw, wq, hw1, hw2⟩, hm, hal, k1, k2⟩ := h
    obtain ⟨⟨dx, h1⟩, ⟨xs, h2, h3⟩, h4⟩ := id hP
    have hxl : xs.length = stk.length := by rw [h3.length, List.length_map]
    walk_at "st"
    walk_at "rd"
    refine x_fin3 ?_
    walk_at "rd"
    refine x_fldB h1 T.c_Pile T.na_Pile__halves rfl ?_
    walk_at "rd"
    refine x_fldB h1 T.c_Pile T.na_Pile__book rfl ?_
    walk_at "rd"
    refine x_fldB hw1 T.c_World T.na_World_answers rfl ?_
    walk_at "rd"
    refine ⟨l, s, b, wt, ev, xs, stk, e, ans, ks, cs, kvs, svs, held, rfl, h2, h3, hh, he, h4, lo, hs, hsl, hw2, hm, hal, fun rows r rest t rl pv rvs H1 hway ht hrl hrv hpv c1 => ?_⟩
    walk_at "rd"
    cases r with
    | none =>
      have hrest := hway.gone rfl
      subst hrest
      have hpv' : Dt K H1 pv .none := hpv
      cases hpv'
      walk_at "rd"
      refine x_mko ?_
      walk_at "rd"
      refine x_tupL (SqL.of hrl) fun rt H2 hrt hrt2 c2 => ?_
      walk_at "rd"
      refine ⟨by simp, fun a na => ?_⟩
      refine ⟨a, .ref rt, rfl, upd_same, fun d nd hda => ⟨rfl, d, _, upd_same, by rw [upd_ne hda, upd_same], by rwa [upd_ne hda] at nd, ?_⟩⟩
      rw [upd_ne hda] at nd
      refine x_wfin ?_
      have c3 := exc_ch (C := He.ga K "NoAnswer") (r := .ref rt) (o := exo a (He.ga K "NoAnswer") none) (u := exd d [("rows", .ref rt)]) na nd hda
      have hd3 : upd (del (upd (upd (upd H2 a (exo a (He.ga K "NoAnswer") none)) d (exd d [("rows", .ref rt)])) a (exo a (He.ga K "NoAnswer") (some d))) a) d (.xd [("rows", .ref rt)]) d = some (.xd [("rows", .ref rt)]) := upd_same
      revert c3 hd3
      generalize upd (del (upd (upd (upd H2 a (exo a (He.ga K "NoAnswer") none)) d (exd d [("rows", .ref rt)])) a (exo a (He.ga K "NoAnswer") (some d))) a) d (.xd [("rows", .ref rt)]) = H3
      intro c3 hd3
      walk_at "rd"
      refine nL fun l' H4 hl' hl4 c4 => ?_
      have c04 : Ch [] H H4 := ((c1.nilL c2).nilL c3).nilL c4
      have h14 := c04.get0 h1
      walk_at "rd"
      refine x_sfldB h14 T.c_Pile T.na_Pile__halves (by simp [pfs]) fun H5 h5 c5 => ?_
      have hdp : d ≠ p := Ne.symm (ne_of_none ((c1.nilL c2).get0 h1) nd)
      refine k2 rows d rt l' rvs H5 hway (c5.get1 (c4.get0 hd3) hdp) (c5.sqT (c4.sqT (c3.sqT (SqT.of hrt2)))) ((((hrv.ch c2).ch c3).ch c4).ch c5) ?_ ⟨⟨_, h5⟩, ⟨[], c5.get1 hl4 (ne_of hl4 h14 (by simp)), .nil⟩, (h4.ch0 c04).ch c5 (nbs_ins h14 rfl)⟩ (c04.nilL c5)
      exact ((c1.nilL c2).nilL c3).free0 hl'
    | some e' =>
      have hpv' : Dt K H1 pv e'.d := hpv
      obtain ⟨pa, rfl⟩ : ∃ pa, pv = .ref pa := by
        cases e' <;> (cases hpv'; exact ⟨_, rfl⟩)
      walk_at "rd"
      refine x_fldB (c1.get0 hw1) T.c_World T.na_World_answers rfl ?_
      walk_at "rd"
      obtain ⟨u1, u2⟩ := hway.used
      refine x_slT (c1.sqT hw2) fun wt2 H2 hwt2 c2 => ?_
      rw [cutV_up _ rows.length (by rw [List.length_map]; exact u2), ← List.map_drop, u1] at hwt2
      walk_at "rd"
      refine nO fun w2 dw2 H3 hw2n hw2i c3 => ?_
      refine ⟨w2, dw2, wt2, rest, rfl, hw2i, .inr (c3.sqT hwt2), fun t2 H4 hWd c4 => ⟨rfl, ?_⟩⟩
      have c24 : Ch [] H2 H4 := (c3.nilL c4).drop hw2n
      walk_at "rd"
      refine nT fun t' H5 ht' ht5 c5 => ?_
      walk_at "rd"
      refine nL fun l' H6 hl' hl6 c6 => ?_
      have c06 : Ch [] H H6 := (((c1.nilL c2).nilL c24).nilL c5).nilL c6
      have h16 := c06.get0 h1
      walk_at "rd"
      refine x_sfldB h16 T.c_Pile T.na_Pile__halves (by simp [pfs]) fun H7 h7 c7 => ?_
      have cc : Ch [p] H1 H7 := (((c2.nilL c24).nilL c5).nilL c6).nilL c7
      have hpr : rl ≠ p := ne_of hrl (c1.get0 h1) (by simp)
      have hpw : w2 ≠ p := Ne.symm (ne_of_none ((c1.nilL c2).get0 h1) hw2n)
      exact k1 rows e' rest t' rl w2 t2 l' (.ref pa) rvs H7 hway (c7.sqT (c6.sqT (SqT.of ht5))) (cc.get1 hrl hpr) (hrv.ch cc) (hpv'.ch cc) (((hWd.ch c5 (by simp)).ch c6 (by simp)).ch c7 (by simpa using hpw)) ((((c1.nilL c2).nilL c24).nilL c5).free0 hl') ⟨⟨_, h7⟩, ⟨[], c7.get1 hl6 (ne_of hl6 h16 (by simp)), .nil⟩, (h4.ch0 c06).ch c7 (nbs_ins h16 rfl)⟩ (c06.nilL c7)
end
def Atm (x : V) : Prop := x = .non ∨ (∃ b, x = .bl b) ∨ (∃ i, x = .int i) ∨ ∃ z, x = .str z
def Sm (K : PySem.W.Frag) (H : Hp) : Nat → V → V → Prop
  | 0, x, y => x = y ∧ Atm x
  | n + 1, x, y => (x = y ∧ Atm x) ∨ ∃ (a b : Addr) (xs ys : List V), x = .ref a ∧ y = .ref b ∧ (SqT K H a xs ∧ SqT K H b ys ∨ H a = some (.lst xs) ∧ H b = some (.lst ys)) ∧ xs.length = ys.length ∧ ys.length ≤ 100000 ∧ ∀ (i : Nat) u v, xs[i]? = some u → ys[i]? = some v → Sm K H n u v
section
variable {K : PySem.W.Frag} {H : Hp}
theorem Sm.atm {n : Nat} {x : V} (h : Atm x) : Sm K H n x x := by
  cases n with
  | zero => exact ⟨rfl, h⟩
  | succ n => exact .inl ⟨rfl, h⟩
theorem Sm.inv {n : Nat} {x y : V} (h : Sm K H n x y) : (x = y ∧ Atm x) ∨ ∃ (q : Nat) (a b : Addr) (xs ys : List V), n = q + 1 ∧ x = .ref a ∧ y = .ref b ∧ (SqT K H a xs ∧ SqT K H b ys ∨ H a = some (.lst xs) ∧ H b = some (.lst ys)) ∧ xs.length = ys.length ∧ ys.length ≤ 100000 ∧ ∀ (i : Nat) u v, xs[i]? = some u → ys[i]? = some v → Sm K H q u v := by
  cases n with
  | zero => exact .inl h
  | succ n =>
    rcases h with h | ⟨a, b, xs, ys, h⟩
    · exact .inl h
    · exact .inr ⟨n, a, b, xs, ys, rfl, h⟩
theorem Sm.up : ∀ {n m : Nat} {x y : V}, Sm K H n x y → n ≤ m → Sm K H m x y := by
  intro n
  induction n with
  | zero =>
    intro m x y h _
    obtain ⟨rfl, h⟩ := h
    exact Sm.atm h
  | succ n ih =>
    intro m x y h hm
    rcases h with ⟨rfl, h⟩ | ⟨a, b, xs, ys, e1, e2, h1, h2, h3, h4⟩
    · exact Sm.atm h
    · match m, hm with
      | m + 1, hm => exact .inr ⟨a, b, xs, ys, e1, e2, h1, h2, h3, fun i u v hu hv => ih (h4 i u v hu hv) (by omega)⟩
/-- flat enough, narrow enough -/
def Sd : Nat → PyData → Prop
  | _, .none => True
  | _, .bool _ => True
  | _, .int _ => True
  | _, .str _ => True
  | n + 1, .tuple ds => ds.length ≤ 100000 ∧ ∀ d ∈ ds, Sd n d
  | _, _ => False
theorem Sd.up : ∀ {n m : Nat} {d : PyData}, Sd n d → n ≤ m → Sd m d := by
  intro n
  induction n with
  | zero =>
    intro m d h _
    cases d with
    | none => cases m <;> exact trivial
    | bool => cases m <;> exact trivial
    | int => cases m <;> exact trivial
    | str => cases m <;> exact trivial
    | tuple ds => exact h.elim
    | list ds => exact h.elim
    | dict ds => exact h.elim
  | succ n ih =>
    intro m d h hm
    cases d with
    | none => cases m <;> exact trivial
    | bool => cases m <;> exact trivial
    | int => cases m <;> exact trivial
    | str => cases m <;> exact trivial
    | tuple ds =>
      match m, hm with
      | m + 1, hm => exact ⟨h.1, fun d hd => ih (h.2 d hd) (by omega)⟩
    | list ds => exact h.elim
    | dict ds => exact h.elim
theorem DtA.at_ {vs : List V} {ds : List PyData} (h : DtA K H vs ds) {i : Nat} {v : V} (e : vs[i]? = some v) : ∃ d, d ∈ ds ∧ ds[i]? = some d ∧ Dt K H v d := by
  obtain ⟨d, hd, hv⟩ := h.get e
  exact ⟨d, List.mem_of_getElem? hd, hd, hv⟩
theorem Sm.of_dt : ∀ {n : Nat} {d : PyData} {x y : V}, Sd n d → Dt K H x d → Dt K H y d → Sm K H n x y := by
  intro n
  induction n with
  | zero =>
    intro d x y h hx hy
    cases hx with
    | non => cases hy; exact Sm.atm (.inl rfl)
    | bl b => cases hy; exact Sm.atm (.inr (.inl ⟨_, rfl⟩))
    | int i => cases hy; exact Sm.atm (.inr (.inr (.inl ⟨_, rfl⟩)))
    | str z => cases hy; exact Sm.atm (.inr (.inr (.inr ⟨_, rfl⟩)))
    | tup _ _ => exact h.elim
  | succ n ih =>
    intro d x y h hx hy
    cases hx with
    | non => cases hy; exact Sm.atm (.inl rfl)
    | bl b => cases hy; exact Sm.atm (.inr (.inl ⟨_, rfl⟩))
    | int i => cases hy; exact Sm.atm (.inr (.inr (.inl ⟨_, rfl⟩)))
    | str z => cases hy; exact Sm.atm (.inr (.inr (.inr ⟨_, rfl⟩)))
    | @tup a xs ds hs ha =>
      cases hy with
      | @tup b ys _ hs2 ha2 =>
      refine .inr ⟨a, b, xs, ys, rfl, rfl, .inl ⟨hs, hs2⟩, by rw [ha.length, ha2.length], by rw [ha2.length]; exact h.1, fun i u v hu hv => ?_⟩
      obtain ⟨d, hd, e, hd1⟩ := ha.at_ hu
      obtain ⟨d', hd', e', hd2⟩ := ha2.at_ hv
      rw [e] at e'
      cases e'
      exact ih (h.2 d hd) hd1 hd2
theorem Sm.lst {n : Nat} {a b : Addr} {xs ys : List V} {ds : List PyData} (h1 : H a = some (.lst xs)) (h2 : H b = some (.lst ys)) (ha : DtA K H xs ds) (hb : DtA K H ys ds) (hd : ∀ d ∈ ds, Sd n d) (hl : ds.length ≤ 100000) : Sm K H (n + 1) (.ref a) (.ref b) := by
  refine .inr ⟨a, b, xs, ys, rfl, rfl, .inr ⟨h1, h2⟩, by rw [ha.length, hb.length], by rw [hb.length]; exact hl, fun i u v hu hv => ?_⟩
  obtain ⟨d, hd1, e, q1⟩ := ha.at_ hu
  obtain ⟨d', hd', e', q2⟩ := hb.at_ hv
  rw [e] at e'
  cases e'
  exact Sm.of_dt (hd d hd1) q1 q2
theorem Sm.tup {n : Nat} {a b : Addr} {xs ys : List V} {ds : List PyData} (h1 : SqT K H a xs) (h2 : SqT K H b ys) (ha : DtA K H xs ds) (hb : DtA K H ys ds) (hd : ∀ d ∈ ds, Sd n d) (hl : ds.length ≤ 100000) : Sm K H (n + 1) (.ref a) (.ref b) := by
  refine .inr ⟨a, b, xs, ys, rfl, rfl, .inl ⟨h1, h2⟩, by rw [ha.length, hb.length], by rw [hb.length]; exact hl, fun i u v hu hv => ?_⟩
  obtain ⟨d, hd1, e, q1⟩ := ha.at_ hu
  obtain ⟨d', hd', e', q2⟩ := hb.at_ hv
  rw [e] at e'
  cases e'
  exact Sm.of_dt (hd d hd1) q1 q2
theorem Sd.ar (n : Nat) (a : Ar) : Sd (n + 1) a.d := by
  cases a with
  | non => exact trivial
  | num i => exact trivial
  | now z => exact ⟨by simp, fun d hd => by
      have : d = .str "now" ∨ d = .str z := by simpa using hd
      rcases this with rfl | rfl <;> cases n <;> exact trivial⟩
  | late z => exact ⟨by simp, fun d hd => by
      have : d = .str "late" ∨ d = .str z := by simpa using hd
      rcases this with rfl | rfl <;> cases n <;> exact trivial⟩
theorem Sd.str (n : Nat) (z : Str) : Sd n (.str z) := by cases n <;> exact trivial
theorem Sd.int (n : Nat) (z : Int) : Sd n (.int z) := by cases n <;> exact trivial
theorem Sd.act {N C : List Str} : ∀ {r : Nat} {x : Act}, OkAct N C r x → Sd (2 * r + 2) x.d := by
  intro r
  induction r with
  | zero =>
    intro x h
    have e : x.fs = [] := h.2.2
    rw [Act.d_eq, e]
    refine ⟨by simp, fun d hd => ?_⟩
    have : d = .str x.g.s ∨ d = .str x.st ∨ d = x.a.d ∨ d = .tuple [] := by simpa using hd
    rcases this with rfl | rfl | rfl | rfl
    · exact Sd.str _ _
    · exact Sd.str _ _
    · exact Sd.ar _ _
    · exact ⟨by simp, fun d hd => by cases hd⟩
  | succ r ih =>
    intro x h
    rw [Act.d_eq]
    refine ⟨by simp, fun d hd => ?_⟩
    have : d = .str x.g.s ∨ d = .str x.st ∨ d = x.a.d ∨ d = .tuple (x.fs.map Act.d) := by simpa using hd
    rcases this with rfl | rfl | rfl | rfl
    · exact Sd.str _ _
    · exact Sd.str _ _
    · exact Sd.ar _ _
    · refine ⟨by rw [List.length_map]; have := h.le; omega, fun d hd => ?_⟩
      obtain ⟨f, hf, rfl⟩ := List.mem_map.mp hd
      obtain ⟨q, e, o⟩ := h.sub hf
      injection e with e
      subst e
      exact (ih o).up (by omega)
theorem Sd.rw_ (r : Rw) : Sd 2 r.d := by
  refine ⟨by simp, fun d hd => ?_⟩
  have : d = .str "way" ∨ d = .str r.st ∨ d = r.v.d ∨ d = .int (if r.a then 1 else 0) := by simpa using hd
  rcases this with rfl | rfl | rfl | rfl
  · exact Sd.str _ _
  · exact Sd.str _ _
  · exact Sd.ar _ _
  · exact Sd.int _ _
theorem Sd.ex (e : Ex) : Sd 1 e.d := by
  cases e with
  | ret n => exact ⟨by simp, fun d hd => by
      have : d = .str "return" ∨ d = .int n := by simpa using hd
      rcases this with rfl | rfl <;> exact trivial⟩
  | leave n => exact ⟨by simp, fun d hd => by
      have : d = .str "leave" ∨ d = .str n := by simpa using hd
      rcases this with rfl | rfl <;> exact trivial⟩
  | raise n => exact ⟨by simp, fun d hd => by
      have : d = .str "raise" ∨ d = .str n := by simpa using hd
      rcases this with rfl | rfl <;> exact trivial⟩
end
def sp__law_same (K : PySem.W.Frag) (n : Nat) : Sp := fun vs H Q E => ∃ (x y : V), vs = [x, y] ∧ Sm K H n x y ∧ Q (.bl true) H
section
variable {P : Program} {w : World} {K : PySem.W.Frag} {mg : Str → Option Value} {base : Heap}
theorem st__law_same (T : Txt K mg) {j k : Nat} {sp' : Sp} (r : Nat) (F : FD P w K mg base CX0 j (He.ga K "_law_same") ["actual", "expected"] sp') (hj : j ≤ k) (hsp : ∀ q, r = q + 1 → sp' = sp__law_same K q) :
    FD P w K mg base CX0 (k + 1) (He.ga K "_law_same") ["actual", "expected"] (sp__law_same K r) := by
  refine FD.mk0 T.f__law_same sc__law_same (fun vs H Q E h => ?_) (fun _ _ _ _ _ _ us hl => match us, hl with | [_, _], _ => rfl) (fun cdv A outer s H vs Q E hr h => ⟨_, (pss_cons (ps_if (pt_cmpR u_is (pv 1) pe_non (nomark _)) (pss_one (ps_ret (pe_cmpR u_is (pv 0) pe_non (nomark _)))) pss_nil)
  (pss_cons (ps_if (pt_val (pe_callB call_isi (by rfl) T.n_isinstance bb_isinstance (pa_cons (pv 1) (pa_cons (pe_bltn (v := .ty "bool") (by rfl) T.n_bool bb_bool rfl) pa_nil)))) (pss_one (ps_ret (pe_and (pe_callB call_isi (by rfl) T.n_isinstance bb_isinstance (pa_cons (pv 0) (pa_cons (pe_bltn (v := .ty "bool") (by rfl) T.n_bool bb_bool rfl) pa_nil))) (pe_one (pe_cmpR (u_eq (hu64 hr)) (pv 0) (pv 1) (nomark _)))))) pss_nil)
  (pss_cons (ps_if (pt_val (pe_callB call_isi (by rfl) T.n_isinstance bb_isinstance (pa_cons (pv 1) (pa_cons (pe_bltn (v := .ty "int") (by rfl) T.n_int bb_int rfl) pa_nil)))) (pss_one (ps_ret (pe_and (pe_callB call_isi (by rfl) T.n_isinstance bb_isinstance (pa_cons (pv 0) (pa_cons (pe_bltn (v := .ty "int") (by rfl) T.n_int bb_int rfl) pa_nil))) (pe_and (pe_not (pe_callB call_isi (by rfl) T.n_isinstance bb_isinstance (pa_cons (pv 0) (pa_cons (pe_bltn (v := .ty "bool") (by rfl) T.n_bool bb_bool rfl) pa_nil)))) (pe_one (pe_cmpR (u_eq (hu64 hr)) (pv 0) (pv 1) (nomark _))))))) pss_nil)
  (pss_cons (ps_if (pt_val (pe_callB call_isi (by rfl) T.n_isinstance bb_isinstance (pa_cons (pv 1) (pa_cons (pe_bltn (v := .ty "str") (by rfl) T.n_str bb_str rfl) pa_nil)))) (pss_one (ps_ret (pe_and (pe_callB call_isi (by rfl) T.n_isinstance bb_isinstance (pa_cons (pv 0) (pa_cons (pe_bltn (v := .ty "str") (by rfl) T.n_str bb_str rfl) pa_nil))) (pe_one (pe_cmpR (u_eq (hu64 hr)) (pv 0) (pv 1) (nomark _)))))) pss_nil)
  (pss_cons (ps_if (PW.pt (pw_and (pt_val (pe_callB call_isi (by rfl) T.n_isinstance bb_isinstance (pa_cons (pv 1) (pa_cons (pe_bltn (v := .ty "tuple") (by rfl) T.n_tuple bb_tuple rfl) pa_nil)))) (pw_and1 (pt_not (pt_val (pe_callB call_isi (by rfl) T.n_isinstance bb_isinstance (pa_cons (pv 0) (pa_cons (pe_bltn (v := .ty "tuple") (by rfl) T.n_tuple bb_tuple rfl) pa_nil)))))))) (pss_one (ps_ret pe_bl)) pss_nil)
  (pss_cons (ps_if (PW.pt (pw_and (pt_val (pe_callB call_isi (by rfl) T.n_isinstance bb_isinstance (pa_cons (pv 1) (pa_cons (pe_bltn (v := .ty "list") (by rfl) T.n_list bb_list rfl) pa_nil)))) (pw_and1 (pt_not (pt_val (pe_callB call_isi (by rfl) T.n_isinstance bb_isinstance (pa_cons (pv 0) (pa_cons (pe_bltn (v := .ty "list") (by rfl) T.n_list bb_list rfl) pa_nil)))))))) (pss_one (ps_ret pe_bl)) pss_nil)
  (pss_cons (ps_if (pt_cmpR (u_ne (hu64 hr)) (pe_callB c_len (by rfl) T.n_len bb_len (pa_cons (pv 0) pa_nil)) (pe_callB c_len (by rfl) T.n_len bb_len (pa_cons (pv 1) pa_nil)) (nomark _)) (pss_one (ps_ret pe_bl)) pss_nil)
  (pss_cons (ps_for PassesOwn.never rfl (pi_range1 (by rfl) T.n_range (pa_cons (pe_callB c_len (by rfl) T.n_len bb_len (pa_cons (pv 1) pa_nil)) pa_nil)) (pg_name (i := 2) sc__law_same.nd rfl (.inl rfl)) (pss_one (ps_if (pt_not (pt_val (pe_callD F hr (by first | decide | omega) (by rfl) T.g__law_same pass0 (pa_cons (pe_ix ix_seq (pv 0) (pv 2) (by intro _ _; rfl)) (pa_cons (pe_ix ix_seq (pv 1) (pv 2) (by intro _ _; rfl)) pa_nil))))) (pss_one (ps_ret pe_bl)) pss_nil)))
  (pss_one (ps_ret pe_bl)))))))))), ?_⟩)
  · obtain ⟨x, y, rfl, _⟩ := h
    rfl
  · obtain ⟨x, y, rfl, hS, kk⟩ := h
    walk_at "st"
    rcases hS.inv with ⟨rfl, hA⟩ | ⟨q, a, b, xs, ys, rfl, rfl, rfl, hq, hl, hz, hs⟩
    · rcases hA with rfl | ⟨b, rfl⟩ | ⟨i, rfl⟩ | ⟨z, rfl⟩
      · have e : decide (V.non = V.non) = true := decide_eq_true rfl
        walk_at "rd"
        rw [e]
        exact kk
      · have e : decide (b = b) = true := decide_eq_true rfl
        walk_at "rd"
        refine x_isBl (b := true) (by decide +kernel) ?_
        walk_at "rd"
        refine x_isBl (b := true) (by decide +kernel) ?_
        walk_at "rd"
        rw [e]
        exact kk
      · have e : decide (i = i) = true := decide_eq_true rfl
        walk_at "rd"
        refine x_isInt (b := false) (by decide +kernel) ?_
        walk_at "rd"
        refine x_isInt (b := true) (by decide +kernel) ?_
        walk_at "rd"
        refine x_isInt (b := true) (by decide +kernel) ?_
        walk_at "rd"
        refine x_isInt (b := false) (by decide +kernel) ?_
        walk_at "rd"
        rw [e]
        exact kk
      · have e : decide (z = z) = true := decide_eq_true rfl
        walk_at "rd"
        refine x_isStr (b := false) (by decide +kernel) ?_
        walk_at "rd"
        refine x_isStr (b := false) (by decide +kernel) ?_
        walk_at "rd"
        refine x_isStr (b := true) (by decide +kernel) ?_
        walk_at "rd"
        refine x_isStr (b := true) (by decide +kernel) ?_
        walk_at "rd"
        rw [e]
        exact kk
    · have hl2 : (xs.length : Int) = (ys.length : Int) := by omega
      rcases hq with ⟨ha, hb⟩ | ⟨ha, hb⟩
      · walk_at "rd"
        refine x_isTup (b := false) hb (by decide +kernel) ?_
        walk_at "rd"
        refine x_isTup (b := false) hb (by decide +kernel) ?_
        walk_at "rd"
        refine x_isTup (b := false) hb (by decide +kernel) ?_
        walk_at "rd"
        refine x_isTup (b := true) hb (by decide +kernel) ?_
        walk_at "rd"
        refine x_isTup (b := true) ha (by decide +kernel) ?_
        walk_at "rd"
        refine x_isTup (b := false) hb (by decide +kernel) ?_
        walk_at "rd"
        refine goR (fun i σ H' => H' = H ∧ ∃ o, σ = [some (.ref a), some (.ref b), o]) ⟨rfl, none, rfl⟩ (fun i σ H' hi hI => ?_) (fun σ H' hI => ?_)
        · obtain ⟨rfl, o, rfl⟩ := hI
          obtain ⟨u, hu⟩ : ∃ u, xs[i]? = some u := ⟨_, List.getElem?_eq_getElem (by omega)⟩
          obtain ⟨v, hv⟩ : ∃ v, ys[i]? = some v := ⟨_, List.getElem?_eq_getElem (by omega)⟩
          rw [hsp q rfl]
          walk_at "rd"
          refine x_ixT (k := i) ha (by omega) hu ?_
          walk_at "rd"
          refine x_ixT (k := i) hb (by omega) hv ?_
          walk_at "rd"
          refine ⟨u, v, rfl, hs i u v hu hv, ?_⟩
          walk_at "rd"
          exact ⟨rfl, _, rfl⟩
        · obtain ⟨rfl, o, rfl⟩ := hI
          walk_at "rd"
          exact kk
      · walk_at "rd"
        refine x_isLst (b := false) hb (by decide +kernel) ?_
        walk_at "rd"
        refine x_isLst (b := false) hb (by decide +kernel) ?_
        walk_at "rd"
        refine x_isLst (b := false) hb (by decide +kernel) ?_
        walk_at "rd"
        refine x_isLst (b := false) hb (by decide +kernel) ?_
        walk_at "rd"
        refine x_isLst (b := true) hb (by decide +kernel) ?_
        walk_at "rd"
        refine x_isLst (b := true) ha (by decide +kernel) ?_
        walk_at "rd"
        refine goR (fun i σ H' => H' = H ∧ ∃ o, σ = [some (.ref a), some (.ref b), o]) ⟨rfl, none, rfl⟩ (fun i σ H' hi hI => ?_) (fun σ H' hI => ?_)
        · obtain ⟨rfl, o, rfl⟩ := hI
          obtain ⟨u, hu⟩ : ∃ u, xs[i]? = some u := ⟨_, List.getElem?_eq_getElem (by omega)⟩
          obtain ⟨v, hv⟩ : ∃ v, ys[i]? = some v := ⟨_, List.getElem?_eq_getElem (by omega)⟩
          rw [hsp q rfl]
          walk_at "rd"
          refine x_ixL (k := i) (SqL.of ha) (by omega) hu ?_
          walk_at "rd"
          refine x_ixL (k := i) (SqL.of hb) (by omega) hv ?_
          walk_at "rd"
          refine ⟨u, v, rfl, hs i u v hu hv, ?_⟩
          walk_at "rd"
          exact ⟨rfl, _, rfl⟩
        · obtain ⟨rfl, o, rfl⟩ := hI
          walk_at "rd"
          exact kk
theorem ok__law_sameN (T : Txt K mg) : ∀ r : Nat, FD P w K mg base CX0 (2 + r) (He.ga K "_law_same") ["actual", "expected"] (sp__law_same K r)
  | 0 => st__law_same T (sp' := fun _ _ _ _ => False) (j := 1) (k := 1) 0 (FD.mk0 T.f__law_same sc__law_same (fun vs H Q E h => h.elim) (fun _ _ _ _ _ _ us hl => match us, hl with | [_, _], _ => rfl) (fun cdv A outer s H vs Q E hr h => h.elim)) (Nat.le_refl _) fun q e => by cases e
  | r + 1 => st__law_same T (r + 1) (ok__law_sameN T r) (Nat.le_refl _) fun q e => by injection e with e; rw [e]
theorem ok__law_same (T : Txt K mg) : FD P w K mg base CX0 10 (He.ga K "_law_same") ["actual", "expected"] (sp__law_same K 8) := ok__law_sameN T 8
theorem use_same {H : Hp} {Q : VK} {E : XK} {n : Nat} {x y : V} (h : Sm K H n x y) (hn : n ≤ 8) (q : Q (.bl true) H) : sp__law_same K 8 [x, y] H Q E := ⟨x, y, rfl, h.up hn, q⟩
end
def sp__law_argument (K : PySem.W.Frag) : Sp := fun vs H Q E => ∃ (p c lo : Addr) (Z : List Addr) (ks : List (Str × Kd)) (cs : List (Str × Int)), vs = [.ref p, .ref lo, .bl true] ∧ Pl H p c ∧ p ∈ Z ∧ Lr K H Z lo ks cs ∧ LoOk ks cs ∧ ∀ (v : V) (a : Ar) H', Dt K H' v a.d → ArOk (cs.map (·.1)) a → Pl H' p c → Ch [p] H H' → Q v H'
def sp__law_action (K : PySem.W.Frag) (r : Nat) : Sp := fun vs H Q E => ∃ (p c lo : Addr) (Z : List Addr) (ks : List (Str × Kd)) (cs : List (Str × Int)), vs = [.ref p, .ref lo, .int (2 - r)] ∧ r ≤ 2 ∧ Pl H p c ∧ p ∈ Z ∧ Lr K H Z lo ks cs ∧ LoOk ks cs ∧ ∀ (v : V) (x : Act) H', Dt K H' v x.d → OkAct (ks.map (·.1)) (cs.map (·.1)) r x → Pl H' p c → Ch [p] H H' → Q v H'
theorem in1 {p : Addr} {Z : List Addr} (h : p ∈ Z) : ∀ s ∈ [p], s ∈ Z := fun s m => by rw [List.mem_singleton.mp m]; exact h
section
variable {P : Program} {w : World} {K : PySem.W.Frag} {mg : Str → Option Value} {base : Heap}
theorem ok__law_argument (T : Txt K mg)  : FD P w K mg base CX0 4 (He.ga K "_law_argument") ["pool", "lore", "late"] (sp__law_argument K) := by
  refine FD.mk0 T.f__law_argument sc__law_argument (fun vs H Q E h => ?_) (fun _ _ _ _ _ _ us hl => match us, hl with | [_, _, _], _ => rfl) (fun cdv A outer s H vs Q E hr h => ⟨_, (pss_cons (ps_set (i := 3) sc__law_argument.nd rfl (.inl rfl) (pe_callD (ok__law_draw T) hr (by first | decide | omega) (by rfl) T.g__law_draw pass0 (pa_cons (pv 0) (pa_cons pe_int pa_nil))))
  (pss_cons (ps_if (PW.pt (pw_or (pt_cmpR (u_eq (hu64 hr)) (pv 3) pe_int (nomark _)) (pw_or1 (PW.pt (pw_and (pt_cmpR (u_eq (hu64 hr)) (pv 3) pe_int (nomark _)) (pw_and (pt_cmpR u_gt (pe_callB c_len (by rfl) T.n_len bb_len (pa_cons (pe_ix ix_seq (pv 1) pe_int (by intro _ _; rfl)) pa_nil)) pe_int (nomark _)) (pw_and1 (pt_cmpR (u_eq (hu64 hr)) (pe_callD (ok__law_draw T) hr (by first | decide | omega) (by rfl) T.g__law_draw pass0 (pa_cons (pv 0) (pa_cons pe_int pa_nil))) pe_int (nomark _))))))))) (pss_one (ps_ret pe_non)) pss_nil)
  (pss_cons (ps_if (PW.pt (pw_or (pt_cmpR (u_eq (hu64 hr)) (pv 3) pe_int (nomark _)) (pw_or1 (pt_cmpR (u_eq (hu64 hr)) (pe_callB c_len (by rfl) T.n_len bb_len (pa_cons (pe_ix ix_seq (pv 1) pe_int (by intro _ _; rfl)) pa_nil)) pe_int (nomark _))))) (pss_one (ps_ret (pe_callD (ok__law_number T) hr (by first | decide | omega) (by rfl) T.g__law_number pass0 (pa_cons (pv 0) pa_nil)))) pss_nil)
  (pss_cons (ps_set (i := 4) sc__law_argument.nd rfl (.inl rfl) (pe_ix ix_seq (pe_ix ix_seq (pe_ix ix_seq (pv 1) pe_int (by intro _ _; rfl)) (pe_callD (ok__law_draw T) hr (by first | decide | omega) (by rfl) T.g__law_draw pass0 (pa_cons (pv 0) (pa_cons (pe_callB c_len (by rfl) T.n_len bb_len (pa_cons (pe_ix ix_seq (pv 1) pe_int (by intro _ _; rfl)) pa_nil)) pa_nil))) (by intro _ _; rfl)) pe_int (by intro _ _; rfl)))
  (pss_cons (ps_if (PW.pt (pw_and (pt_val (pv 2)) (pw_and1 (pt_cmpR u_gt (pe_callD (ok__law_draw T) hr (by first | decide | omega) (by rfl) T.g__law_draw pass0 (pa_cons (pv 0) (pa_cons pe_int pa_nil))) pe_int (nomark _))))) (pss_one (ps_ret (pe_tup (pa_cons pe_str (pa_cons (pv 4) pa_nil))))) pss_nil)
  (pss_one (ps_ret (pe_tup (pa_cons pe_str (pa_cons (pv 4) pa_nil)))))))))), ?_⟩)
  · obtain ⟨p, c, lo, Z, ks, cs, rfl, _⟩ := h
    rfl
  · obtain ⟨p, c, lo, Z, ks, cs, rfl, hp, hz, hL, lok, kk⟩ := h
    walk_at "st"
    walk_at "rd"
    refine use_draw hp (by omega) (by omega) fun d H1 hd0 hd1 hp1 c1 => ?_
    have hL1 := hL.ch c1 (in1 hz)
    obtain ⟨nl, kd, pl, kvs, ps, h1, h2, h3, h4, h5, h6, h7⟩ := hL1
    obtain ⟨n1, n2, n3, n4⟩ := h7 p hz
    have hpl : ps.length = cs.length := by rw [h6.length, List.length_map]
    have hcl := cs_len lok.co
    by_cases e0 : d = 0
    · walk_at "rd"
      exact kk .non .non H1 .non trivial hp1 c1
    by_cases e1 : d = 1
    · by_cases el : (0 : Int) < (ps.length : Int)
      · walk_at "rd"
        refine use_draw hp1 (by omega) (by omega) fun d2 H2 hd20 hd21 hp2 c2 => ?_
        walk_at "rd"
        refine ite_by (fun e => ?_) (fun e => ?_)
        · walk_at "rd"
          exact kk .non .non H2 .non trivial hp2 (c1.seq c2)
        · walk_at "rd"
          exact use_number hp2 fun n H3 hn0 hn1 hp3 c3 => kk _ (.num n) H3 (.int _) ⟨hn0, hn1⟩ hp3 ((c1.seq c2).seq c3)
      · walk_at "rd"
        exact use_number hp1 fun n H3 hn0 hn1 hp3 c3 => kk _ (.num n) H3 (.int _) ⟨hn0, hn1⟩ hp3 (c1.seq c3)
    by_cases el : (ps.length : Int) = 0
    · walk_at "rd"
      exact use_number hp1 fun n H3 hn0 hn1 hp3 c3 => kk _ (.num n) H3 (.int _) ⟨hn0, hn1⟩ hp3 (c1.seq c3)
    walk_at "rd"
    refine use_draw hp1 (by omega) (by omega) fun j H2 hj0 hj1 hp2 c2 => ?_
    obtain ⟨q, pa, hq, hpa, hsp⟩ := Cl.get ⟨h4, h6⟩ (by omega : j.toNat < ps.length)
    have hsp2 := c2.sqT hsp
    have hqm : q.1 ∈ cs.map (·.1) := List.mem_map.mpr ⟨q, List.mem_of_getElem? hq, rfl⟩
    refine x_ixL (k := j.toNat) (SqL.of (c2.get1 h4 n4)) (by omega) hpa ?_
    walk_at "rd"
    refine use_draw hp2 (by omega) (by omega) fun d3 H3 hd30 hd31 hp3 c3 => ?_
    walk_at "rd"
    refine ite_by (fun e => ?_) (fun e => ?_)
    · walk_at "rd"
      refine nT fun t H4 ht h4 c4 => ?_
      exact kk _ (.late q.1) H4 (two_d h4 (.str _) (.str _)) hqm (hp3.ch0 c4) (((c1.seq c2).seq c3).nilR c4)
    · walk_at "rd"
      refine nT fun t H4 ht h4 c4 => ?_
      exact kk _ (.now q.1) H4 (two_d h4 (.str _) (.str _)) hqm (hp3.ch0 c4) (((c1.seq c2).seq c3).nilR c4)
theorem st__law_action (T : Txt K mg) {j k : Nat} {sp' : Sp} (r : Nat) (F : FD P w K mg base CX0 j (He.ga K "_law_action") ["pool", "lore", "depth"] sp') (hj : j ≤ k) (hk : 4 ≤ k) (hsp : ∀ q, r = q + 1 → sp' = sp__law_action K q) :
    FD P w K mg base CX0 (k + 1) (He.ga K "_law_action") ["pool", "lore", "depth"] (sp__law_action K r) := by
  refine FD.mk0 T.f__law_action sc__law_action (fun vs H Q E h => ?_) (fun _ _ _ _ _ _ us hl => match us, hl with | [_, _, _], _ => rfl) (fun cdv A outer s H vs Q E hr h => ⟨_, (pss_cons (ps_set (i := 3) sc__law_action.nd rfl (.inl rfl) (pe_ix ix_seq (pe_lst (pa_cons pe_str (pa_cons pe_str (pa_cons pe_str pa_nil)))) (pe_callD (ok__law_draw T) hr (by first | decide | omega) (by rfl) T.g__law_draw pass0 (pa_cons (pv 0) (pa_cons pe_int pa_nil))) (by intro _ _; rfl)))
  (pss_cons (ps_set (i := 4) sc__law_action.nd rfl (.inl rfl) (pe_ix ix_seq (pe_ix ix_seq (pv 1) pe_int (by intro _ _; rfl)) (pe_callD (ok__law_draw T) hr (by first | decide | omega) (by rfl) T.g__law_draw pass0 (pa_cons (pv 0) (pa_cons (pe_callB c_len (by rfl) T.n_len bb_len (pa_cons (pe_ix ix_seq (pv 1) pe_int (by intro _ _; rfl)) pa_nil)) pa_nil))) (by intro _ _; rfl)))
  (pss_cons (ps_set (i := 5) sc__law_action.nd rfl (.inl rfl) (pe_callD (ok__law_argument T) hr (by first | decide | omega) (by rfl) T.g__law_argument pass0 (pa_cons (pv 0) (pa_cons (pv 1) (pa_cons pe_bl pa_nil)))))
  (pss_cons (ps_set (i := 6) sc__law_action.nd rfl (.inl rfl) (pe_tup pa_nil))
  (pss_cons (ps_if (PW.pt (pw_and (pt_cmpR (u_ne (hu64 hr)) (pv 3) pe_str (nomark _)) (pw_and (pt_cmpR u_lt (pv 2) pe_int (nomark _)) (pw_and1 (pt_cmpR (u_eq (hu64 hr)) (pe_callD (ok__law_draw T) hr (by first | decide | omega) (by rfl) T.g__law_draw pass0 (pa_cons (pv 0) (pa_cons pe_int pa_nil))) pe_int (nomark _)))))) (pss_one (ps_for PassesOwn.never rfl (pi_range1 (by rfl) T.n_range (pa_cons (pe_op u_add pe_int (pe_callD (ok__law_draw T) hr (by first | decide | omega) (by rfl) T.g__law_draw pass0 (pa_cons (pv 0) (pa_cons pe_int pa_nil)))) pa_nil)) (pg_name (i := 7) sc__law_action.nd rfl (.inl rfl)) (pss_one (ps_set (i := 6) sc__law_action.nd rfl (.inl rfl) (pe_op u_add (pv 6) (pe_tup (pa_cons (pe_callD F hr (by first | decide | omega) (by rfl) T.g__law_action pass0 (pa_cons (pv 0) (pa_cons (pv 1) (pa_cons (pe_op u_add (pv 2) pe_int) pa_nil)))) pa_nil))))))) pss_nil)
  (pss_one (ps_ret (pe_tup (pa_cons (pv 3) (pa_cons (pv 4) (pa_cons (pv 5) (pa_cons (pv 6) pa_nil)))))))))))), ?_⟩)
  · obtain ⟨p, c, lo, Z, ks, cs, rfl, _⟩ := h
    rfl
  · obtain ⟨p, c, lo, Z, ks, cs, rfl, hr2, hp, hz, hL, lok, kk⟩ := h
    walk_at "st"
    walk_at "rd"
    refine nL fun gl H1 hgl hg1 c1 => ?_
    walk_at "rd"
    refine use_draw (hp.ch0 c1) (by omega) (by omega) fun d H2 hd0 hd1 hp2 c2 => ?_
    have hglp := (hp.off hgl).1
    obtain ⟨g, hg⟩ : ∃ g : Gd, [V.str "done", .str "error", .str "always"][d.toNat]? = some (.str g.s) := by
      have : d = 0 ∨ d = 1 ∨ d = 2 := by omega
      rcases this with rfl | rfl | rfl
      · exact ⟨.done, rfl⟩
      · exact ⟨.error, rfl⟩
      · exact ⟨.always, rfl⟩
    refine x_ixL (k := d.toNat) (SqL.of (c2.get1 hg1 hglp)) (by omega) hg ?_
    have c02 : Ch [p] H H2 := c1.nilL c2
    have hL2 := hL.ch c02 (in1 hz)
    obtain ⟨nl, kd, pl, kvs, ps, h1, h2, h3, h4, h5, h6, h7⟩ := id hL2
    obtain ⟨n1, n2, n3, n4⟩ := h7 p hz
    have hne := List.length_pos_iff.mpr lok.ne
    have hle := lok.le
    walk_at "rd"
    refine use_draw hp2 (by rw [List.length_map]; omega) (by rw [List.length_map]; omega) fun j H3 hj0 hj1 hp3 c3 => ?_
    rw [List.length_map] at hj1
    obtain ⟨q, hq⟩ : ∃ q, ks[j.toNat]? = some q := ⟨_, List.getElem?_eq_getElem (by omega)⟩
    have hqm : q.1 ∈ ks.map (·.1) := List.mem_map.mpr ⟨q, List.mem_of_getElem? hq, rfl⟩
    refine x_ixL (k := j.toNat) (v := .str q.1) (SqL.of (c3.get1 h2 n2)) (by omega) (by rw [List.getElem?_map, hq]; rfl) ?_
    walk_at "rd"
    have hL3 := hL2.ch c3 (in1 hz)
    refine ⟨p, c, lo, Z, ks, cs, rfl, hp3, hz, hL3, lok, fun av a H4 hav ha hp4 c4 => ?_⟩
    walk_at "rd"
    refine nT fun fa H5 hfa hf5 c5 => ?_
    walk_at "rd"
    have c05 : Ch [p] H H5 := ((c02.seq c3).seq c4).nilR c5
    have hp5 := hp4.ch0 c5
    have rest : ∀ (fa : Addr) (fv : List V) (fs : List Act) (o7 : Option V) H6, Ch [p] H5 H6 → Pl H6 p c → SqT K H6 fa fv → DtA K H6 fv (fs.map Act.d) → OkAct (ks.map (·.1)) (cs.map (·.1)) r (.mk g q.1 a fs) → tRet (tTup (tCons (tVar 3) (tCons (tVar 4) (tCons (tVar 5) (tCons (tVar 6) tNil))))) ⟨fun _ H' => Q .non H', Q, fun _ _ => False, fun _ _ => False⟩ [some (.ref p), some (.ref lo), some (.int (2 - r)), some (.str g.s), some (.str q.1), some av, some (.ref fa), o7] H6 := fun fa fv fs o7 H6 c6 hp6 hfa hfv ok => by
      walk_at "rd"
      refine nT fun t H7 ht h7 c7 => ?_
      exact kk _ (.mk g q.1 a fs) H7 (act_mk (SqT.of h7) (((hav.ch c5).ch c6).ch c7) (.tup (c7.sqT hfa) (hfv.ch c7))) ok (hp6.ch0 c7) ((c05.seq c6).nilR c7)
    have empty : OkAct (ks.map (·.1)) (cs.map (·.1)) r (.mk g q.1 a []) := by
      cases r with
      | zero => exact ⟨hqm, ha, rfl⟩
      | succ r => exact ⟨hqm, ha, Nat.zero_le _, fun n => absurd rfl n, fun f m => by cases m⟩
    have rest0 := fun o7 => rest fa [] [] o7 H5 ((Ch.refl _).any) hp5 (SqT.of hf5) .nil empty
    by_cases hge : g = .error
    · have e : g.s = Str.ofString "error" := by rw [hge]; rfl
      repeat (first | with_reducible exact rest0 _ | walk_at "rd1")
    have he : ¬ (g.s = Str.ofString "error") := fun e => by
      cases hg : g with
      | error => exact hge hg
      | done => rw [hg] at e; exact absurd e (by decide)
      | always => rw [hg] at e; exact absurd e (by decide)
    cases r with
    | zero =>
      have hd2 : ¬ ((2 - ((0 : Nat) : Int)) < 2) := by omega
      repeat (first | with_reducible exact rest0 _ | walk_at "rd1")
    | succ r =>
      have hd2 : (2 - ((r + 1 : Nat) : Int)) < 2 := by omega
      walk_at "rd"
      refine use_draw hp5 (by omega) (by omega) fun d6 H6 hd60 hd61 hp6 c6 => ?_
      walk_at "rd"
      refine ite_by (fun e => ?_) (fun e => ?_)
      · walk_at "rd"
        refine use_draw hp6 (by omega) (by omega) fun n H7 hn0 hn1 hp7 c7 => ?_
        walk_at "rd"
        have hL7 := ((hL3.ch (c4.nilR c5) (in1 hz)).ch (c6.seq c7) (in1 hz))
        refine goR (fun i σ H' => ∃ (fa : Addr) (fv : List V) (fs : List Act) (o7 : Option V), σ = [some (.ref p), some (.ref lo), some (.int (2 - ((r + 1 : Nat) : Int))), some (.str g.s), some (.str q.1), some av, some (.ref fa), o7] ∧ Ch [p] H5 H' ∧ Pl H' p c ∧ Lr K H' Z lo ks cs ∧ SqT K H' fa fv ∧ DtA K H' fv (fs.map Act.d) ∧ fs.length = i ∧ ∀ f ∈ fs, OkAct (ks.map (·.1)) (cs.map (·.1)) r f)
          ⟨fa, [], [], none, rfl, c6.seq c7, hp7, hL7, c7.sqT (c6.sqT (SqT.of hf5)), .nil, rfl, fun f m => by cases m⟩ (fun i σ H' hi hI => ?_) (fun σ H' hI => ?_)
        · obtain ⟨fa, fv, fs, o7, rfl, cc, hp8, hL8, hfa8, hfv8, hlen, hok⟩ := hI
          rw [hsp r rfl]
          walk_at "rd"
          refine ⟨p, c, lo, Z, ks, cs, ?_, by omega, hp8, hz, hL8, lok, fun v x H9 hv hx hp9 c9 => ?_⟩
          · have e : (2 - ((r + 1 : Nat) : Int) + 1) = 2 - (r : Int) := by omega
            rw [e]
          walk_at "rd"
          refine nT fun t H10 ht h10 c10 => ?_
          have hfa10 := c10.sqT (c9.sqT hfa8)
          have hfl : fv.length = fs.length := by rw [hfv8.length, List.length_map]
          refine x_addT hfa10 (SqT.of h10) (by have := szB; rw [List.length_singleton]; omega) fun u H11 h11 c11 => ?_
          walk_at "rd"
          refine ⟨u, _, fs ++ [x], _, rfl, ((cc.seq c9).nilR c10).nilR c11, (hp9.ch0 c10).ch0 c11, (hL8.ch c9 (in1 hz)).ch0 (c10.nilL c11), h11, ?_, by rw [List.length_append, hlen]; rfl, fun f m => ?_⟩
          · rw [List.map_append]
            exact (((hfv8.ch c9).ch c10).ch c11).append (.cons ((hv.ch c10).ch c11) .nil)
          · rcases List.mem_append.mp m with m | m
            · exact hok f m
            · rw [List.mem_singleton.mp m]
              exact hx
        · obtain ⟨fa, fv, fs, o7, rfl, cc, hp8, hL8, hfa8, hfv8, hlen, hok⟩ := hI
          exact rest fa fv fs o7 H' cc hp8 hfa8 hfv8 ⟨hqm, ha, by rw [show (Act.mk g q.1 a fs).fs = fs from rfl, hlen]; omega, fun _ => hge, hok⟩
      · repeat (first | with_reducible exact rest fa [] [] _ _ c6 hp6 (c6.sqT (SqT.of hf5)) .nil empty | walk_at "rd1")
theorem ok__law_actionN (T : Txt K mg) : ∀ r : Nat, FD P w K mg base CX0 (5 + r) (He.ga K "_law_action") ["pool", "lore", "depth"] (sp__law_action K r)
  | 0 => st__law_action T (sp' := fun _ _ _ _ => False) (j := 1) (k := 4) 0 (FD.mk0 T.f__law_action sc__law_action (fun vs H Q E h => h.elim) (fun _ _ _ _ _ _ us hl => match us, hl with | [_, _, _], _ => rfl) (fun cdv A outer s H vs Q E hr h => h.elim)) (by decide) (Nat.le_refl _) fun q e => by cases e
  | r + 1 => st__law_action T (r + 1) (ok__law_actionN T r) (Nat.le_refl _) (show 4 ≤ 5 + r by omega) fun q e => by injection e with e; rw [e]
theorem ok__law_action (T : Txt K mg) : FD P w K mg base CX0 7 (He.ga K "_law_action") ["pool", "lore", "depth"] (sp__law_action K 2) := ok__law_actionN T 2
end
/-- o.m(e, ..), what it lets out hanging on the slots -/
def tMethRS (C : Addr) (m : Str) (sp : Sp) (E : L2.St → XK) (ta : TE) (t : TA) : TE := fun σ H Q => ta σ H fun x H1 => ∃ a dx fs, x = .ref a ∧ H1 a = some (.ins C dx fs) ∧ fs.lookup m = none ∧ t σ H1 fun vs H2 => sp (x :: vs) H2 Q (E σ)
theorem pe_methRS {X : Cx} {CX : CXT} {k : Nat} {C f : Addr} {m : Str} {sp : Sp} {E : L2.St → XK} {o e : Expr} {es : List Expr} {ta : TE} {t : TA} {apos pos : Pos} {pl : Sem Bool} (he : PE X o ta) (c : Cls X.K C) (hm : Meth X.K C m f)
    (F : FnR X.prog X.w X.K X.mg X.base CX k f sp) (hr : Room k X.A) (hx : ∀ σ, PassesAt CX X σ (E σ)) (ha : PA X (e :: es) t)
    (hst : starEach (e :: es) X.env = (false, eval e X.env) :: starEach es X.env := by rfl) (hpl : (backTo pos (starEach es X.env)).any (·.1) = false := by rfl)
    (ht : eval (.Call (.Attribute o m apos) (e :: es) [] pos) X.env = (do
      let ov ← eval o X.env
      standAt apos.atName
      let (f, first) ← holding [ov] (getMethod ov m pl)
      callWith pos f first (backTo pos (starEach (e :: es) X.env)) (backToKw pos (keywordEach [] X.env))) := by rfl) :
    PE X (.Call (.Attribute o m apos) (e :: es) [] pos) (tMethRS C m sp E ta t) := by
  refine ⟨fun pins s σ H Q I h => ?_⟩
  refine PySem.W.methodCall_KW (pl := pl) (thn (he.run pins s σ H _ I h) fun u s1 ⟨x, H1, I1, rx, a, dx, fs, ex, ea, l, q⟩ => ?_) ht
  subst ex
  obtain rfl : u = Value.ref a := rx
  refine getmeth_ok I1 ea c hm l ?_
  refine PySem.W.callWith_K (first := [.ref a]) (h₀ := X.base) I.ok.mod.kin hm.kp (thn (ha.run pos pins s1 σ H1 _ I1 q) fun us s2 ⟨vs, H2, I2, r, q2⟩ => ⟨I2.kIn, ?_⟩) hst hpl
  refine wpAny_call (codeAny_mono (F X.A X.stack s2 H2 (.ref a :: us) (.ref a :: vs) Q (E σ) hr I2.env0 (.cons rfl r) q2) fun r s' hq => ?_)
  cases r with
  | error e => exact hx σ pins H2 s2 e s' I2 hq
  | ok fl =>
    cases fl with
    | ret u => exact I2.after hq
    | next => exact False.elim hq
    | brk => exact False.elim hq
    | cont => exact False.elim hq
theorem x_methRS {C : Addr} {m : Str} {sp : Sp} {E : L2.St → XK} {ta : TE} {t : TA} {σ : L2.St} {H : Hp} {Q : VK} (h : ta σ H fun x H1 => ∃ a dx fs, x = .ref a ∧ H1 a = some (.ins C dx fs) ∧ fs.lookup m = none ∧ t σ H1 fun vs H2 => sp (x :: vs) H2 Q (E σ)) : tMethRS C m sp E ta t σ H Q := h
theorem x_xf {a : Addr} {cls : Value} {d : Option Addr} {C : Addr} {f : Str} {te : TE} {σ : L2.St} {H : Hp} {Q : VK} (h : te σ H fun x H1 => x = .ref a ∧ cls = .ref C ∧ ∃ (dd : Addr) (fs : List (Str × V)) (v : V), d = some dd ∧ H1 dd = some (.xd fs) ∧ fs.lookup f = some v ∧ Q v H1) : tXf a cls d C f te σ H Q := h
theorem x_st {ts : TS} {D : Ends} {σ σ' : L2.St} {H : Hp} (e : σ = σ') (h : ts D σ' H) : ts D σ H := by subst e; exact h
def bD (a : Bool) : PyData := .int (if a then 1 else 0)
theorem bools_dt {K : PySem.W.Frag} {H : Hp} (ans : List Bool) : DtA K H (ans.map bV) (ans.map bD) := by
  induction ans with
  | nil => exact .nil
  | cons a r ih => exact .cons (.int _) ih
theorem bools_sd (n : Nat) (ans : List Bool) : ∀ d ∈ ans.map bD, Sd n d := fun d hd => by
  obtain ⟨a, _, rfl⟩ := List.mem_map.mp hd
  exact Sd.int _ _
theorem flat_se_len (cs : List (Str × Int)) (held : List Int) : ∀ l : List Act, (l.flatMap (se cs held)).length ≤ 2 * l.length
  | [] => Nat.zero_le _
  | f :: r => by
    have := flat_se_len cs held r
    have := se_len cs held f
    rw [List.flatMap_cons, List.length_append, List.length_cons]
    omega
def sp__law_put (K : PySem.W.Frag) : Sp := fun vs H Q E => ∃ (p l b s al : Addr) (avs : List V) (m : Int) (acts stk : List Act) (ks : List (Str × Kd)) (cs : List (Str × Int)) (kvs svs : List (Key × V)) (held : List Int), vs = [.ref p, .ref al, .ref s] ∧ LoOk ks cs ∧ Pi K H ks cs kvs svs p l b m stk ∧ H al = some (.lst avs) ∧ al ≠ l ∧ DtA K H avs (acts.map Act.d) ∧ (∀ x ∈ acts, OkAct (ks.map (·.1)) (cs.map (·.1)) 2 x) ∧ Hd K H s held ∧ held.length = cs.length ∧ ((stk.length + 2 * acts.length : Nat) : Int) ≤ m ∧ m ≤ 999 ∧
  ∀ H', Pi K H' ks cs kvs svs p l b m (stk ++ acts.flatMap (se cs held)) → Ch [l] H H' → Q (.bl true) H'
def sp__law_unwound (K : PySem.W.Frag) : Sp := fun vs H Q E => ∃ (p l b s an : Addr) (m : Int) (ev : V) (stk : List Act) (e : Ex) (ans : List Bool) (ks : List (Str × Kd)) (cs : List (Str × Int)) (kvs svs : List (Key × V)) (held : List Int), vs = [.ref p, ev, .ref s, .ref an] ∧
  LoOk ks cs ∧ Pi K H ks cs kvs svs p l b m stk ∧ HvA ks cs stk ∧ Dt K H ev e.d ∧ Hd K H s held ∧ held.length = cs.length ∧ H an = some (.lst (ans.map bV)) ∧ mL stk ≤ 100000 ∧ ans.length ≤ 1000 ∧
  (∀ (rows : List Rw) (e' : Ex) (rest : List Bool) (t rl l' ra : Addr) (pv : V) (rvs : List V) H', Way ks cs held stk.reverse e ans rows (some e') rest → H' t = some (.lst [.ref rl, pv, .ref ra]) → H' rl = some (.lst rvs) → DtA K H' rvs (rows.map Rw.d) → Dt K H' pv e'.d → H' ra = some (.lst (rest.map bV)) → H l' = none → Pi K H' ks cs kvs svs p l' b m [] → Ch [p] H H' → Q (.ref t) H') ∧
  (∀ (rows : List Rw) (t rt l' ra : Addr) (rvs : List V) H', Way ks cs held stk.reverse e ans rows none [] → H' t = some (.lst [.ref rt, .non, .ref ra]) → SqT K H' rt rvs → DtA K H' rvs (rows.map Rw.d) → H' ra = some (.lst (ans.map bV)) → H l' = none → Pi K H' ks cs kvs svs p l' b m [] → Ch [p] H H' → Q (.ref t) H')
section
variable {P : Program} {w : World} {K : PySem.W.Frag} {mg : Str → Option Value} {base : Heap}
theorem ok__law_put (T : Txt K mg)  : FD P w K mg base CX0 12 (He.ga K "_law_put") ["pile", "actions", "held"] (sp__law_put K) := by
  refine FD.mk0 T.f__law_put sc__law_put (fun vs H Q E h => ?_) (fun _ _ _ _ _ _ us hl => match us, hl with | [_, _, _], _ => rfl) (fun cdv A outer s H vs Q E hr h => ⟨_, (pss_cons (ps_for PassesOwn.never rfl (pi_list (pv 1)) (pg_name (i := 3) sc__law_put.nd rfl (.inl rfl)) (pss_one (ps_if (pt_cmpR u_isnot (pe_methK (E := E0) (pv 0) T.c_Pile T.m_Pile_put (ok_Pile_put T) (hr.mono (by decide)) pass0 (pa_cons (pv 3) pa_nil) (pv 2)) pe_non (nomark _)) (pss_one (ps_ret pe_bl)) pss_nil)))
  (pss_one (ps_ret pe_bl))), ?_⟩)
  · obtain ⟨p, l, b, s, al, avs, m, acts, stk, ks, cs, kvs, svs, held, rfl, _⟩ := h
    rfl
  · obtain ⟨p, l, b, s, al, avs, m, acts, stk, ks, cs, kvs, svs, held, rfl, lo, hP, hal, hall, hav, hok, hs, hsl, hm, hm2, kk⟩ := h
    have havl : avs.length = acts.length := by rw [hav.length, List.length_map]
    walk_at "st"
    walk_at "rd"
    refine goL avs (fun i σ H' => Ch [l] H H' ∧ Pi K H' ks cs kvs svs p l b m (stk ++ (acts.take i).flatMap (se cs held)) ∧ ∃ o, σ = [some (.ref p), some (.ref al), some (.ref s), o]) ⟨(Ch.refl _).any, by simpa using hP, none, rfl⟩ (fun i σ H' _ hI => SqL.of (hI.1.get1 hal hall)) (fun i y σ H' hy hI => ?_) (fun σ H' hI => ?_)
    · obtain ⟨c, hP', o, rfl⟩ := hI
      obtain ⟨d, hd, hyd⟩ := hav.get hy
      obtain ⟨x, hx, rfl⟩ : ∃ x, acts[i]? = some x ∧ d = x.d := by
        rw [List.getElem?_map] at hd
        cases e : acts[i]? with
        | none => rw [e] at hd; cases hd
        | some f => rw [e] at hd; exact ⟨f, rfl, (Option.some.inj hd).symm⟩
      have hlt : i < acts.length := (List.getElem?_eq_some_iff.mp hx).1
      obtain ⟨⟨dx, hp1⟩, _, _⟩ := id hP'
      walk_at "rd"
      refine x_objM hp1 rfl ?_
      walk_at "rd"
      refine ⟨_, rfl, _, _, _, rfl, fun ta hta => ?_⟩
      have c1 : Ch [] H' (upd H' ta (.tup [y])) := Ch.new hta
      have hta2 : upd H' ta (.tup [y]) ta = some (.tup [y]) := upd_same
      have hfl := flat_se_len cs held (acts.take i)
      have hti : (acts.take i).length ≤ i := by rw [List.length_take]; omega
      refine ⟨p, l, b, s, ta, y, m, x, _, ks, cs, kvs, svs, held, rfl, SqT.of hta2, lo, hP'.ch0 c1, (hyd.ch c).ch c1, hok x (List.mem_of_getElem? hx), (hs.ch c).ch c1, hsl, by rw [List.length_append]; omega, hm2, fun H2 hP2 c2 => ?_⟩
      walk_at "rd"
      refine ⟨c.seq (c1.nilL c2), ?_, _, rfl⟩
      rw [take_snoc hx, List.flatMap_append, ← List.append_assoc, List.flatMap_singleton]
      exact hP2
    · obtain ⟨c, hP', o, rfl⟩ := hI
      walk_at "rd"
      rw [havl, List.take_length] at hP'
      exact kk H' hP' c
theorem ok__law_unwound (T : Txt K mg)  : FD P w K mg base CX0 12 (He.ga K "_law_unwound") ["pile", "pending", "held", "answers"] (sp__law_unwound K) := by
  refine FD.mk0 T.f__law_unwound sc__law_unwound (fun vs H Q E h => ?_) (fun _ _ _ _ _ _ us hl => match us, hl with | [_, _, _, _], _ => rfl) (fun cdv A outer s H vs Q E hr h => ⟨_, (pss_cons (ps_set (i := 4) sc__law_unwound.nd rfl (.inl rfl) (StX.pe_makeR T.mk_World (ok_World___init__ T).raw (hr.mono (by decide)) (by rfl) T.g_World pass0 (pa_cons (pv 3) pa_nil)))
  (pss_cons (ps_try_as (i := 8) rfl rfl sc__law_unwound.nd rfl rfl ⟨rfl, by decide, .inl T.g_NoAnswer⟩ takes0 (fun W pn xe tk _ => (pss_one (ps_asg (pe_methRS (pv 0) T.c_Pile T.m_Pile_unwind (ok_Pile_unwind T).raw (hr.mono (by decide)) (fun σ => passAt tk σ) (pa_cons (pv 1) (pa_cons (pv 2) (pa_cons (pv 4) pa_nil)))) (pg_tupE (n := 3) (K := K) (by rfl) rfl (pgs_cons (pg_name (i := 5) sc__law_unwound.nd rfl (.inl rfl)) (pgs_cons (pg_name (i := 6) sc__law_unwound.nd rfl (.inl rfl)) (pgs_cons (pg_name (i := 7) sc__law_unwound.nd rfl (.inl rfl)) pgs_nil)))))))
  (fun a oe cls d pn hz hf => (pss_one (ps_ret (pe_lst (pa_cons (pe_xf T.xf_NoAnswer T.nr_NoAnswer hz hf (pv 8)) (pa_cons pe_non (pa_cons (pe_callTy (c_listE (K := K) (by rfl)) (by rfl) T.n_list bb_list (pa_cons (pe_fldE (K := K) (by rfl) (pv 4) (by rfl)) pa_nil)) pa_nil))))))))
  (pss_cons (ps_if (PW.pt (pw_or (pt_not (pt_val (pe_callB call_isi (by rfl) T.n_isinstance bb_isinstance (pa_cons (pv 7) (pa_cons (pe_glob (v := .ref (He.ga K "World")) (by rfl) T.g_World rfl) pa_nil))))) (pw_or1 (pt_not (pt_val (pe_callD (ok__law_same T) hr (by first | decide | omega) (by rfl) T.g__law_same pass0 (pa_cons (pe_fld (pv 4) (by rfl)) (pa_cons (pe_callTy c_tuple (by rfl) T.n_tuple bb_tuple (pa_cons (pv 3) pa_nil)) pa_nil)))))))) (pss_one (ps_ret (pe_lst (pa_cons pe_non (pa_cons pe_non (pa_cons (pe_lst pa_nil) pa_nil)))))) pss_nil)
  (pss_one (ps_ret (pe_lst (pa_cons (pv 5) (pa_cons (pv 6) (pa_cons (pe_callTy c_list (by rfl) T.n_list bb_list (pa_cons (pe_fld (pv 7) (by rfl)) pa_nil)) pa_nil))))))))), ?_⟩)
  · obtain ⟨p, l, b, s, an, m, ev, stk, e, ans, ks, cs, kvs, svs, held, rfl, _⟩ := h
    rfl
  · obtain ⟨p, l, b, s, an, m, ev, stk, e, ans, ks, cs, kvs, svs, held, rfl, lo, hP, hh, he, hs, hsl, han, hm, hal, k1, k2⟩ := h
    obtain ⟨⟨dx, h1⟩, ⟨xs, h2, h3⟩, h4⟩ := id hP
    have hanp : an ≠ p := ne_of han h1 (by simp)
    walk_at "st"
    walk_at "rd"
    refine nO fun wd dw H1 hwd hwi c1 => ?_
    refine ⟨wd, dw, an, ans, rfl, hwi, .inl (c1.get0 han), fun wt H2 hW c2 => ⟨rfl, ?_⟩⟩
    have c02 : Ch [] H H2 := (c1.nilL c2).drop hwd
    have hwp : wd ≠ p := Ne.symm (ne_of_none h1 hwd)
    walk_at "rd"
    refine x_methRS ?_
    walk_at "rd"
    refine x_objM (c02.get0 h1) rfl ?_
    walk_at "rd"
    refine ⟨p, l, b, s, wd, wt, m, ev, stk, e, ans, ks, cs, kvs, svs, held, rfl, lo, hP.ch0 c02, hh, he.ch c02, hs.ch c02, hsl, hW, hm, hal, fun rows e' rest t rl w2 t2 l' pv rvs H3 hway ht hrl hrv hpv hW2 hl' hP3 c3 => ?_, fun rows d rt l' rvs H3 hway hd hrt hrv hl' hP3 c3 => ?_⟩
    · obtain ⟨dw2, wq2, hw21, hw22⟩ := id hW2
      have c03 : Ch [p] H H3 := c02.nilL c3
      have hW3 := hW.ch c3 (by simpa using hwp)
      obtain ⟨dw3, wq3, hw31, hw32⟩ := id hW3
      have han3 := c03.get1 han hanp
      walk_at "rd"
      refine x_isC hw21 T.c_World T.is_World ?_
      walk_at "rd"
      refine x_fldB hw31 T.c_World T.na_World_answers rfl ?_
      walk_at "rd"
      refine x_tupL (SqL.of han3) fun t3 H4 ht3 ht34 c4 => ?_
      walk_at "rd"
      refine use_same (n := 1) (Sm.tup (c4.sqT hw32) (SqT.of ht34) (bools_dt ans) (bools_dt ans) (bools_sd 0 ans) (by rw [List.length_map]; omega)) (by decide) ?_
      walk_at "rd"
      refine x_fldB (c4.get0 hw21) T.c_World T.na_World_answers rfl ?_
      walk_at "rd"
      refine x_listT (c4.sqT hw22) fun ra H5 hra hra5 c5 => ?_
      walk_at "rd"
      refine nL fun tt H6 htt htt6 c6 => ?_
      have cc : Ch [] H3 H6 := (c4.nilL c5).nilL c6
      exact k1 rows e' rest tt rl l' ra pv rvs H6 hway htt6 (cc.get0 hrl) (hrv.ch cc) (hpv.ch cc) (c6.get0 hra5) (c02.free0 hl') (hP3.ch0 cc) (c03.nilR cc)
    · refine ⟨true, T.ex_NoAnswer, fun _ a ha => ?_, fun q => by cases q⟩
      have c03 : Ch [p] H H3 := c02.nilL c3
      have hW3 := hW.ch c3 (by simpa using hwp)
      obtain ⟨dw3, wq3, hw31, hw32⟩ := id hW3
      refine x_st (σ' := [some (.ref p), some ev, some (.ref s), some (.ref an), some (.ref wd), none, none, none, some (.ref a)]) rfl ?_
      walk_at "rd"
      refine x_xf ?_
      walk_at "rd"
      refine ⟨rfl, rfl, d, _, .ref rt, rfl, hd, rfl, ?_⟩
      walk_at "rd"
      refine x_fldB hw31 T.c_World T.na_World_answers rfl ?_
      walk_at "rd"
      refine x_listT hw32 fun ra H5 hra hra5 c5 => ?_
      walk_at "rd"
      refine nL fun tt H6 htt htt6 c6 => ?_
      have cc : Ch [] H3 H6 := c5.nilL c6
      exact k2 rows tt rt l' ra rvs H6 hway htt6 (cc.sqT hrt) (hrv.ch cc) (c6.get0 hra5) (c02.free0 hl') (hP3.ch0 cc) (c03.nilR cc)
end
section
variable {K : PySem.W.Frag} {H H' : Hp} {S : List Addr} {ks : List (Str × Kd)} {cs : List (Str × Int)} {kvs svs : List (Key × V)} {p l b : Addr} {m : Int} {stk : List Act} {Q : VK}
/-- only instances change -/
def InsS (H : Hp) (S : List Addr) : Prop := ∀ x ∈ S, ∃ C dx fs, H x = some (.ins C dx fs)
theorem InsS.off {a : Addr} {xs : List V} (h : InsS H S) (e : H a = some (.lst xs)) : a ∉ S := fun m => by
  obtain ⟨C, dx, fs, q⟩ := h a m
  rw [e] at q
  cases q
theorem Ch.lst {a : Addr} {xs : List V} (c : Ch S H H') (i : InsS H S) (e : H a = some (.lst xs)) : H' a = some (.lst xs) := c.st _ _ (i.off e) e
theorem Pi.ins (h : Pi K H ks cs kvs svs p l b m stk) : InsS H [p] := fun x hx => by
  obtain ⟨⟨dx, h1⟩, _, _⟩ := h
  rw [List.mem_singleton.mp hx]
  exact ⟨_, _, _, h1⟩
theorem use_listP (h : Pi K H ks cs kvs svs p l b m stk) (q : ∀ t xs H', H t = none → H' t = some (.lst xs) → DtA K H' xs (stk.map Act.d) → Ch [] H H' → Q (.ref t) H') : rListO K (He.ga K "Pile") "_halves" [.ref p] H Q := by
  obtain ⟨⟨dx, h1⟩, ⟨xs, h2, h3⟩, h4⟩ := h
  exact ⟨p, dx, _, l, xs, rfl, h1, rfl, h2, fun t H' ht ht' c => q t xs H' ht ht' (h3.ch c) c⟩
theorem use_lenP {E : XK} (h : Pi K H ks cs kvs svs p l b m stk) (hz : stk.length ≤ 100000) (q : Q (.int (stk.length : Nat)) H) : rLenO (He.ga K "Pile") (sp_Pile___len__ K) E [.ref p] H Q := by
  obtain ⟨⟨dx, h1⟩, ⟨xs, h2, h3⟩, h4⟩ := h
  have e : xs.length = stk.length := by rw [h3.length, List.length_map]
  refine ⟨p, dx, _, rfl, h1, p, dx, _, l, xs, rfl, h1, rfl, h2, stk.length, by rw [e], by omega, q⟩
end
theorem hva_sd {ks : List (Str × Kd)} {cs : List (Str × Int)} {stk : List Act} (h : HvA ks cs stk) : ∀ d ∈ stk.map Act.d, Sd 6 d := fun d hd => by
  obtain ⟨x, hx, rfl⟩ := List.mem_map.mp hd
  exact Sd.act (h x hx).1
theorem rw_sd (rows : List Rw) : ∀ d ∈ rows.map Rw.d, Sd 2 d := fun d hd => by
  obtain ⟨x, _, rfl⟩ := List.mem_map.mp hd
  exact Sd.rw_ x
/-- lists of three -/
theorem Sm.three {K : PySem.W.Frag} {H : Hp} {n : Nat} {a b : Addr} {x y z x' y' z' : V} (h1 : H a = some (.lst [x, y, z])) (h2 : H b = some (.lst [x', y', z'])) (q1 : Sm K H n x x') (q2 : Sm K H n y y') (q3 : Sm K H n z z') : Sm K H (n + 1) (.ref a) (.ref b) := by
  refine .inr ⟨a, b, _, _, rfl, rfl, .inr ⟨h1, h2⟩, rfl, by simp, fun i u v hu hv => ?_⟩
  match i with
  | 0 => cases hu; cases hv; exact q1
  | 1 => cases hu; cases hv; exact q2
  | 2 => cases hu; cases hv; exact q3
  | i + 3 => simp at hu
def sp__law_part (K : PySem.W.Frag) : Sp := fun vs H Q E => ∃ (lo p st le an s l b : Addr) (Z : List Addr) (m : Int) (ev : V) (xs : List V) (stk : List Act) (e : Ex) (ans : List Bool) (ks : List (Str × Kd)) (cs : List (Str × Int)) (kvs svs : List (Key × V)) (held : List Int), vs = [.ref lo, .ref p, .ref st, .ref le, .ref an] ∧
  Lr K H Z lo ks cs ∧ p ∈ Z ∧ LoOk ks cs ∧ Pi K H ks cs kvs svs p l b m stk ∧ HvA ks cs stk ∧ H st = some (.lst xs) ∧ DtA K H xs (stk.map Act.d) ∧ SqT K H le [ev, .ref s] ∧ Dt K H ev e.d ∧ Hd K H s held ∧ held.length = cs.length ∧ H an = some (.lst (ans.map bV)) ∧ mL stk ≤ 100000 ∧ ans.length ≤ 1000 ∧
  ∀ (rows : List Rw) (r : Option Ex) (rest : List Bool) (t rl l' : Addr) (pv : V) (rvs : List V) H', Way ks cs held stk.reverse e ans rows r rest → H' t = some (.lst [.ref rl, pv]) → H' rl = some (.lst rvs) → DtA K H' rvs (rows.map Rw.d) → Dt K H' pv (exD r) → H l' = none → Pi K H' ks cs kvs svs p l' b m [] → Ch [p] H H' → Q (.ref t) H'
section
variable {P : Program} {w : World} {K : PySem.W.Frag} {mg : Str → Option Value} {base : Heap}
theorem ok__law_part (T : Txt K mg)  : FD P w K mg base CX0 13 (He.ga K "_law_part") ["lore", "pile", "part", "leaving", "answers"] (sp__law_part K) := by
  refine FD.mk0 T.f__law_part sc__law_part (fun vs H Q E h => ?_) (fun _ _ _ _ _ _ us hl => match us, hl with | [_, _, _, _, _], _ => rfl) (fun cdv A outer s H vs Q E hr h => ⟨_, (pss_cons (ps_set (i := 5) sc__law_part.nd rfl (.inl rfl) (pe_callD (ok__law_way T) hr (by first | decide | omega) (by rfl) T.g__law_way pass0 (pa_cons (pv 0) (pa_cons (pv 2) (pa_cons (pe_ix ix_seq (pv 3) pe_int (by intro _ _; rfl)) (pa_cons (pe_ix ix_seq (pv 3) pe_int (by intro _ _; rfl)) (pa_cons (pv 4) pa_nil)))))))
  (pss_cons (ps_set (i := 6) sc__law_part.nd rfl (.inl rfl) (pe_lst (pa_cons (pe_callTy c_tuple (by rfl) T.n_tuple bb_tuple (pa_cons (pe_ix ix_seq (pv 5) pe_int (by intro _ _; rfl)) pa_nil)) (pa_cons pe_non (pa_cons (pv 4) pa_nil)))))
  (pss_cons (ps_if (pt_cmpR u_isnot (pe_ix ix_seq (pv 5) pe_int (by intro _ _; rfl)) pe_non (nomark _)) (pss_one (ps_set (i := 6) sc__law_part.nd rfl (.inl rfl) (pe_lst (pa_cons (pe_ix ix_seq (pv 5) pe_int (by intro _ _; rfl)) (pa_cons (pe_ix ix_seq (pv 5) pe_int (by intro _ _; rfl)) (pa_cons (pe_slice u_slice (pv 4) (po_some (pe_callB c_len (by rfl) T.n_len bb_len (pa_cons (pe_ix ix_seq (pv 5) pe_int (by intro _ _; rfl)) pa_nil))) po_none) pa_nil)))))) pss_nil)
  (pss_cons (ps_if (PW.pt (pw_or (pt_not (pt_val (pe_callD (ok__law_same T) hr (by first | decide | omega) (by rfl) T.g__law_same pass0 (pa_cons (pe_callTy (c_listO T.m_Pile___len__ T.m_Pile___iter__ (ok_Pile___len__ T).raw (ok_Pile___iter__ T).raw (by rfl) (hr.mono (by decide))) (by rfl) T.n_list bb_list (pa_cons (pv 1) pa_nil)) (pa_cons (pv 2) pa_nil))))) (pw_or1 (pt_not (pt_val (pe_callD (ok__law_same T) hr (by first | decide | omega) (by rfl) T.g__law_same pass0 (pa_cons (pe_callD (ok__law_unwound T) hr (by first | decide | omega) (by rfl) T.g__law_unwound pass0 (pa_cons (pv 1) (pa_cons (pe_ix ix_seq (pv 3) pe_int (by intro _ _; rfl)) (pa_cons (pe_ix ix_seq (pv 3) pe_int (by intro _ _; rfl)) (pa_cons (pv 4) pa_nil))))) (pa_cons (pv 6) pa_nil)))))))) (pss_one (ps_ret pe_non)) pss_nil)
  (pss_cons (ps_if (pt_cmpR (u_ne (hu64 hr)) (pe_callB (c_lenO (E := E0) T.m_Pile___len__ (ok_Pile___len__ T).raw (hr.mono (by decide)) pass0) (by rfl) T.n_len bb_len (pa_cons (pv 1) pa_nil)) pe_int (nomark _)) (pss_one (ps_ret pe_non)) pss_nil)
  (pss_one (ps_ret (pv 5)))))))), ?_⟩)
  · obtain ⟨lo, p, st, le, an, s, l, b, Z, m, ev, xs, stk, e, ans, ks, cs, kvs, svs, held, rfl, _⟩ := h
    rfl
  · obtain ⟨lo, p, st, le, an, s, l, b, Z, m, ev, xs, stk, e, ans, ks, cs, kvs, svs, held, rfl, hL, hz, lok, hP, hh, hst, hxs, hle, he, hs, hsl, han, hm, hal, kk⟩ := h
    have hsk : stk.length ≤ 100000 := Nat.le_trans (mL_len stk) hm
    walk_at "st"
    walk_at "rd"
    refine ⟨lo, s, st, an, Z, ev, xs, stk, e, ans, ks, cs, held, rfl, hst, hxs, hh, he, hL, lok, hs, hsl, SqL.of han, hm, hal, fun rows r rest t rl pv rvs H1 hway htn ht hrln hrl hrv hpv c1 => ?_⟩
    obtain ⟨u1, u2⟩ := hway.used
    walk_at "rd"
    refine x_tupL (SqL.of hrl) fun rt H2 hrt hrt2 c2 => ?_
    walk_at "rd"
    refine nL fun w1 H3 hw1 hw13 c3 => ?_
    have c13 : Ch [] H1 H3 := c2.nilL c3
    have c03 : Ch [] H H3 := c1.nilL c13
    have ht3 := c13.get0 ht
    have hrl3 := c13.get0 hrl
    have hrv3 := hrv.ch c13
    have han3 := c03.get0 han
    have hrt3 : SqT K H3 rt rvs := c3.sqT (SqT.of hrt2)
    have hP3 := hP.ch0 c03
    have hst3 := c03.get0 hst
    have hle3 := c03.sqT hle
    have hxs3 := hxs.ch c03
    have he3 := he.ch c03
    have hs3 := hs.ch c03
    have hi3 := hP3.ins
    cases r with
    | none =>
      have hpv' : Dt K H1 pv .none := hpv
      cases hpv'
      walk_at "rd"
      refine use_listP hP3 fun lt lxs H5 hlt hlt5 hlx c5 => ?_
      have hst5 := c5.get0 hst3
      walk_at "rd"
      refine use_same (n := 7) (Sm.lst hlt5 hst5 hlx (hxs3.ch c5) (hva_sd hh) (by rw [List.length_map]; exact hsk)) (by decide) ?_
      have hle5 := c5.sqT hle3
      walk_at "rd"
      refine ⟨p, l, b, s, an, m, ev, stk, e, ans, ks, cs, kvs, svs, held, rfl, lok, hP3.ch0 c5, hh, he3.ch c5, hs3.ch c5, hsl, c5.get0 han3, hm, hal, fun rows' e'' rest' t' rl' l' ra pv' rvs' H6 hway' ht' hrl' hrv' hpv' hra hl' hP6 c6 => ?_, fun rows' t' rt' l' ra rvs' H6 hway' ht' hrt' hrv' hra hl' hP6 c6 => ?_⟩
      · obtain ⟨_, q, _⟩ := hway.det hway'
        cases q
      obtain ⟨rfl, _, rfl⟩ := hway.det hway'
      have hi5 := (hP3.ch0 c5).ins
      have cc : Ch [p] H3 H6 := c5.nilL c6
      have han6 := cc.lst hi3 han3
      have hw6 := cc.lst hi3 hw13
      walk_at "rd"
      refine use_same (n := 4) (Sm.three ht' hw6 (Sm.tup hrt' (cc.sqT hrt3) hrv' (hrv3.ch cc) (rw_sd rows) (by rw [List.length_map]; omega)) (Sm.atm (.inl rfl)) ((Sm.lst hra han6 (bools_dt ans) (bools_dt ans) (bools_sd 0 ans) (by rw [List.length_map]; omega)).up (by decide))) (by decide) ?_
      walk_at "rd"
      refine use_lenP hP6 (Nat.zero_le _) ?_
      walk_at "rd"
      refine kk rows none [] t rl l' .non rvs H6 hway (cc.lst hi3 ht3) (cc.lst hi3 hrl3) (hrv3.ch cc) .non ((c03.nilL c5).free0 hl') hP6 (c03.nilL cc)
    | some e' =>
      have hpv1 : Dt K H1 pv e'.d := hpv
      obtain ⟨pa, rfl⟩ : ∃ pa, pv = .ref pa := by
        cases e' <;> (cases hpv1; exact ⟨_, rfl⟩)
      have hpv3 := hpv1.ch c13
      have hrvl : rvs.length = rows.length := by rw [hrv.length, List.length_map]
      walk_at "rd"
      refine x_slL (SqL.of han3) fun ra2 H3' hra2 hra3 c3' => ?_
      rw [hrvl, cutV_up _ rows.length (by rw [List.length_map]; exact u2), ← List.map_drop, u1] at hra3
      walk_at "rd"
      refine nL fun w2 H4 hw2 hw24 c4 => ?_
      have c34 : Ch [] H3 H4 := c3'.nilL c4
      have hP4 := hP3.ch0 c34
      have hi4 := hP4.ins
      have hst4 := c34.get0 hst3
      have hle4 := c34.sqT hle3
      have hra4 := c4.get0 hra3
      walk_at "rd"
      refine use_listP hP4 fun lt lxs H5 hlt hlt5 hlx c5 => ?_
      have hst5 := c5.get0 hst4
      walk_at "rd"
      refine use_same (n := 7) (Sm.lst hlt5 hst5 hlx (hxs3.ch (c34.nilL c5)) (hva_sd hh) (by rw [List.length_map]; exact hsk)) (by decide) ?_
      have hle5 := c5.sqT hle4
      have c35 : Ch [] H3 H5 := c34.nilL c5
      walk_at "rd"
      refine ⟨p, l, b, s, an, m, ev, stk, e, ans, ks, cs, kvs, svs, held, rfl, lok, hP3.ch0 c35, hh, he3.ch c35, hs3.ch c35, hsl, c35.get0 han3, hm, hal, fun rows' e'' rest' t' rl' l' ra pv' rvs' H6 hway' ht' hrl' hrv' hpv' hra hl' hP6 c6 => ?_, fun rows' t' rt' l' ra rvs' H6 hway' ht' hrt' hrv' hra hl' hP6 c6 => ?_⟩
      rotate_left 1
      · obtain ⟨_, q, _⟩ := hway.det hway'
        cases q
      obtain ⟨rfl, q, rfl⟩ := hway.det hway'
      cases q
      have c46 : Ch [p] H4 H6 := c5.nilL c6
      have cc : Ch [p] H3 H6 := c34.nilL c46
      have hw6 := c46.lst hi4 hw24
      have hra6 := c46.lst hi4 hra4
      have hrl6 := cc.lst hi3 hrl3
      have hrest : rest.length ≤ 1000 := by
        rw [← u1, List.length_drop]
        omega
      walk_at "rd"
      refine use_same (n := 4) (Sm.three ht' hw6 (Sm.lst hrl' hrl6 hrv' (hrv3.ch cc) (rw_sd rows) (by rw [List.length_map]; omega)) ((Sm.of_dt (Sd.ex e') hpv' (hpv3.ch cc)).up (by decide)) ((Sm.lst hra hra6 (bools_dt rest) (bools_dt rest) (bools_sd 0 rest) (by rw [List.length_map]; omega)).up (by decide))) (by decide) ?_
      walk_at "rd"
      refine use_lenP hP6 (Nat.zero_le _) ?_
      walk_at "rd"
      refine kk rows (some e') rest t rl l' (.ref pa) rvs H6 hway (cc.lst hi3 ht3) hrl6 (hrv3.ch cc) (hpv3.ch cc) ((c03.nilL c35).free0 hl') hP6 (c03.nilL cc)
end
structure PR where
  p : Addr
  l : Addr
  b : Addr
  m : Int
  stk : List Act
  kvs : List (Key × V)
  svs : List (Key × V)
def Pr (K : PySem.W.Frag) (H : Hp) (ks : List (Str × Kd)) (cs : List (Str × Int)) (r : PR) : Prop := Pi K H ks cs r.kvs r.svs r.p r.l r.b r.m r.stk
/-- the parts' halves, the topmost part standing first -/
def tot : List PR → List Act
  | [] => []
  | r :: L => tot L ++ r.stk
section
variable {K : PySem.W.Frag} {H H' : Hp} {S : List Addr} {ks : List (Str × Kd)} {cs : List (Str × Int)}
theorem tot_drop {L : List PR} {i : Nat} {r : PR} (h : L[i]? = some r) : tot (L.drop i) = tot (L.drop (i + 1)) ++ r.stk := by
  obtain ⟨hl, e⟩ := List.getElem?_eq_some_iff.mp h
  rw [List.drop_eq_getElem_cons hl, e]
  rfl
theorem tot_pre : ∀ (L : List PR) (i : Nat), ∃ up, tot L = tot (L.drop i) ++ up
  | [], i => ⟨[], by simp [tot]⟩
  | r :: L, 0 => ⟨[], by simp⟩
  | r :: L, i + 1 => by
    obtain ⟨up, e⟩ := tot_pre L i
    exact ⟨up ++ r.stk, by show tot L ++ r.stk = _; rw [e, List.append_assoc]; rfl⟩
theorem mL_le_of_mem {L : List PR} {i : Nat} {r : PR} (h : L[i]? = some r) : mL r.stk ≤ mL (tot L) := by
  obtain ⟨up, e⟩ := tot_pre L i
  rw [e, tot_drop h, mL_app, mL_app]
  omega
theorem hva_of {L : List PR} {i : Nat} {r : PR} (h : L[i]? = some r) (hh : HvA ks cs (tot L)) : HvA ks cs r.stk := fun y hy => by
  obtain ⟨up, e⟩ := tot_pre L i
  refine hh y ?_
  rw [e, tot_drop h]
  simp [hy]
theorem cutV_mid (xs : List V) (i j : Nat) (h : j ≤ xs.length) (hi : i ≤ j) : cutV xs (some (i : Int)) (some (j : Int)) = (xs.drop i).take (j - i) := by
  unfold cutV
  rw [HT.sIx_nat, HT.sIx_nat, Nat.min_eq_left h, Nat.min_eq_left (by omega)]
theorem mid_app {α : Type} (a b c : List α) : ((a ++ b ++ c).drop a.length).take ((a ++ b).length - a.length) = b := by
  rw [List.append_assoc, List.drop_left' rfl, List.length_append, Nat.add_sub_cancel_left, List.take_left' rfl]
end
def sp__law_goes (K : PySem.W.Frag) : Sp := fun vs H Q E => ∃ (lo pl st le an s : Addr) (Z : List Addr) (ev : V) (xs : List V) (r0 : PR) (L : List PR) (e : Ex) (ans : List Bool) (ks : List (Str × Kd)) (cs : List (Str × Int)) (held : List Int), vs = [.ref lo, .ref pl, .ref st, .ref le, .ref an] ∧
  Lr K H Z lo ks cs ∧ LoOk ks cs ∧ (∀ r ∈ r0 :: L, r.p ∈ Z ∧ Pr K H ks cs r) ∧ ((r0 :: L).map PR.p).Nodup ∧ H pl = some (.lst ((r0 :: L).map fun r => .ref r.p)) ∧ HvA ks cs (tot (r0 :: L)) ∧ H st = some (.lst xs) ∧ DtA K H xs ((tot (r0 :: L)).map Act.d) ∧ SqT K H le [ev, .ref s] ∧ Dt K H ev e.d ∧ Hd K H s held ∧ held.length = cs.length ∧ H an = some (.lst (ans.map bV)) ∧ mL (tot (r0 :: L)) ≤ 100000 ∧ ans.length ≤ 1000 ∧
  ∀ l' H', H l' = none → Pi K H' ks cs r0.kvs r0.svs r0.p l' r0.b r0.m [] → Ch ((r0 :: L).map PR.p) H H' → Q (.bl true) H'
section
variable {P : Program} {w : World} {K : PySem.W.Frag} {mg : Str → Option Value} {base : Heap}
theorem ok__law_goes (T : Txt K mg)  : FD P w K mg base CX0 14 (He.ga K "_law_goes") ["lore", "parts", "stack", "leaving", "answers"] (sp__law_goes K) := by
  refine FD.mk0 T.f__law_goes sc__law_goes (fun vs H Q E h => ?_) (fun _ _ _ _ _ _ us hl => match us, hl with | [_, _, _, _, _], _ => rfl) (fun cdv A outer s H vs Q E hr h => ⟨_, (pss_cons (ps_asg (pv 3) (pg_tup rfl (pgs_cons (pg_name (i := 5) sc__law_goes.nd rfl (.inl rfl)) (pgs_cons (pg_name (i := 6) sc__law_goes.nd rfl (.inl rfl)) pgs_nil))))
  (pss_cons (ps_set (i := 7) sc__law_goes.nd rfl (.inl rfl) (pe_lst pa_nil))
  (pss_cons (ps_set (i := 8) sc__law_goes.nd rfl (.inl rfl) (pe_callB c_len (by rfl) T.n_len bb_len (pa_cons (pv 2) pa_nil)))
  (pss_cons (ps_for PassesOwn.never rfl (pi_list (pv 1)) (pg_name (i := 9) sc__law_goes.nd rfl (.inl rfl)) (pss_cons (ps_set (i := 10) sc__law_goes.nd rfl (.inl rfl) (pe_callB (c_lenO (E := E0) T.m_Pile___len__ (ok_Pile___len__ T).raw (hr.mono (by decide)) pass0) (by rfl) T.n_len bb_len (pa_cons (pv 9) pa_nil)))
  (pss_cons (ps_if (PW.pt (pw_or (pt_cmpR u_gt (pv 10) (pv 8) (nomark _)) (pw_or1 (pt_not (pt_val (pe_callD (ok__law_same T) hr (by first | decide | omega) (by rfl) T.g__law_same pass0 (pa_cons (pe_callTy (c_listO T.m_Pile___len__ T.m_Pile___iter__ (ok_Pile___len__ T).raw (ok_Pile___iter__ T).raw (by rfl) (hr.mono (by decide))) (by rfl) T.n_list bb_list (pa_cons (pv 9) pa_nil)) (pa_cons (pe_slice u_slice (pv 2) (po_some (pe_op u_sub (pv 8) (pv 10))) (po_some (pv 8))) pa_nil)))))))) (pss_one (ps_ret pe_bl)) pss_nil)
  (pss_cons (ps_if (pt_cmpR u_isnot (pv 5) pe_non (nomark _)) (pss_cons (ps_set (i := 11) sc__law_goes.nd rfl (.inl rfl) (pe_callD (ok__law_part T) hr (by first | decide | omega) (by rfl) T.g__law_part pass0 (pa_cons (pv 0) (pa_cons (pv 9) (pa_cons (pe_slice u_slice (pv 2) (po_some (pe_op u_sub (pv 8) (pv 10))) (po_some (pv 8))) (pa_cons (pe_tup (pa_cons (pv 5) (pa_cons (pv 6) pa_nil))) (pa_cons (pe_slice u_slice (pv 4) (po_some (pe_callB c_len (by rfl) T.n_len bb_len (pa_cons (pv 7) pa_nil))) po_none) pa_nil)))))))
  (pss_cons (ps_if (pt_cmpR u_is (pv 11) pe_non (nomark _)) (pss_one (ps_ret pe_bl)) pss_nil)
  (pss_cons (ps_set (i := 5) sc__law_goes.nd rfl (.inl rfl) (pe_ix ix_seq (pv 11) pe_int (by intro _ _; rfl)))
  (pss_one (ps_set (i := 7) sc__law_goes.nd rfl (.inl rfl) (pe_op u_add (pv 7) (pe_ix ix_seq (pv 11) pe_int (by intro _ _; rfl)))))))) pss_nil)
  (pss_one (ps_set (i := 8) sc__law_goes.nd rfl (.inl rfl) (pe_op u_sub (pv 8) (pv 10))))))))
  (pss_cons (ps_set (i := 12) sc__law_goes.nd rfl (.inl rfl) (pe_callD (ok__law_way T) hr (by first | decide | omega) (by rfl) T.g__law_way pass0 (pa_cons (pv 0) (pa_cons (pv 2) (pa_cons (pe_ix ix_seq (pv 3) pe_int (by intro _ _; rfl)) (pa_cons (pv 6) (pa_cons (pv 4) pa_nil)))))))
  (pss_one (ps_ret (pe_and (pe_cmpR (u_eq (hu64 hr)) (pv 8) pe_int (nomark _)) (pe_and (pe_callD (ok__law_same T) hr (by first | decide | omega) (by rfl) T.g__law_same pass0 (pa_cons (pv 7) (pa_cons (pe_ix ix_seq (pv 12) pe_int (by intro _ _; rfl)) pa_nil))) (pe_one (pe_callD (ok__law_same T) hr (by first | decide | omega) (by rfl) T.g__law_same pass0 (pa_cons (pv 5) (pa_cons (pe_ix ix_seq (pv 12) pe_int (by intro _ _; rfl)) pa_nil))))))))))))), ?_⟩)
  · obtain ⟨lo, pl, st, le, an, s, Z, ev, xs, r0, L, e, ans, ks, cs, held, rfl, _⟩ := h
    rfl
  · obtain ⟨lo, pl, st, le, an, s, Z, ev, xs, r0, L, e, ans, ks, cs, held, rfl, hL, lok, hP, nd, hpl, hh, hst, hxs, hle, he, hs, hsl, han, hm, hal, kk⟩ := h
    have hsk := Nat.le_trans (mL_len (tot (r0 :: L))) hm
    have hxl : xs.length = (tot (r0 :: L)).length := by rw [hxs.length, List.length_map]
    have hins : ∀ S : List Addr, (∀ x ∈ S, x ∈ (r0 :: L).map PR.p) → InsS H S := fun S hS x hx => by
      obtain ⟨r, hr, e⟩ := List.mem_map.mp (hS x hx)
      subst e
      exact (hP r hr).2.ins _ (List.mem_singleton.mpr rfl)
    generalize hLe : r0 :: L = M at hP nd hpl hh hxs hm kk hsk hxl hins
    have h0 : M[0]? = some r0 := by rw [← hLe]; rfl
    walk_at "st"
    walk_at "rd"
    refine nL fun rl0 H1 hrl0 hrl1 c1 => ?_
    have hst1 := c1.get0 hst
    walk_at "rd"
    have hpl1 := c1.get0 hpl
    refine goL (M.map fun r => .ref r.p) (fun i σ H' => ∃ (S : List Addr) (rl : Addr) (rvs : List V) (rows : List Rw) (r : Option Ex) (pv : V) (tv : Int) (o9 o10 o11 : Option V), S = (M.take i).map PR.p ∧ σ = [some (.ref lo), some (.ref pl), some (.ref st), some (.ref le), some (.ref an), some pv, some (.ref s), some (.ref rl), some (.int tv), o9, o10, o11, none] ∧ tv = ((tot (M.drop i)).length : Nat) ∧ Ch S H H' ∧ H' rl = some (.lst rvs) ∧ DtA K H' rvs (rows.map Rw.d) ∧ Dt K H' pv (exD r) ∧ rows.length ≤ ans.length ∧ (i = 0 → r = some e) ∧
        (∀ e1, r = some e1 → ∀ rows2 r2 rest2, Way ks cs held (tot (M.drop i)).reverse e1 (ans.drop rows.length) rows2 r2 rest2 → Way ks cs held (tot M).reverse e ans (rows ++ rows2) r2 rest2) ∧ (r = none → Way ks cs held (tot M).reverse e ans rows none []) ∧
        (0 < i → ∃ l', H l' = none ∧ Pi K H' ks cs r0.kvs r0.svs r0.p l' r0.b r0.m []))
      ⟨[], rl0, [], [], some e, ev, _, none, none, none, rfl, rfl, by rw [hxl]; rfl, c1, hrl1, .nil, he.ch c1, Nat.zero_le _, fun _ => rfl, (fun e1 q rows2 r2 rest2 w => by cases q; exact w), (fun q => by cases q), fun q => absurd q (by omega)⟩ (fun i σ H' hi hI => ?_) (fun i y σ H' hy hI => ?_) (fun σ H' hI => ?_)
    · obtain ⟨S, rl, rvs, rows, r, pv, tv, o9, o10, o11, rfl, rfl, htv, c, hrest⟩ := hI
      exact SqL.of (c.lst (hins _ fun x hx => by rw [List.map_take] at hx; exact List.mem_of_mem_take hx) hpl)
    · obtain ⟨S, rl, rvs, rows, r, pv, tv, o9, o10, o11, rfl, rfl, htv, c, hrl, hrv, hpv, hrows, hi0, hw, hwn, hfirst⟩ := hI
      obtain ⟨pr, hpr, rfl⟩ : ∃ pr, M[i]? = some pr ∧ y = .ref pr.p := by
        rw [List.getElem?_map] at hy
        cases q : M[i]? with
        | none => rw [q] at hy; cases hy
        | some f => rw [q] at hy; exact ⟨f, rfl, (Option.some.inj hy).symm⟩
      have hprm : pr ∈ M := List.mem_of_getElem? hpr
      have hSm : ∀ x ∈ (M.take i).map PR.p, x ∈ M.map PR.p := fun x hx => by rw [List.map_take] at hx; exact List.mem_of_mem_take hx
      have hiS := hins _ hSm
      have hnS : pr.p ∉ (M.take i).map PR.p := by
        rw [List.map_take]
        intro hx
        obtain ⟨j, hj, e⟩ := List.mem_iff_getElem.mp hx
        rw [List.getElem_take] at e
        rw [List.length_take] at hj
        have := nodup_at nd (i := j) (j := i) (x := pr.p) (by rw [List.getElem?_eq_getElem (by omega), e]) (by rw [List.getElem?_map, hpr]; rfl)
        omega
      obtain ⟨hpz, hPi⟩ := hP pr hprm
      have hPi' : Pi K H' ks cs pr.kvs pr.svs pr.p pr.l pr.b pr.m pr.stk := by
        obtain ⟨_, ⟨xs, q, _⟩, _⟩ := id hPi
        refine Pi.ch hPi c hnS (hiS.off q) fun x hx o ho => ?_
        obtain ⟨r', hr', e'⟩ := List.mem_map.mp (hSm x hx)
        subst e'
        obtain ⟨⟨dx, q1⟩, _, _⟩ := (hP r' hr').2
        rw [q1] at ho
        cases ho
        rfl
      have htd := tot_drop hpr
      have hpsk : pr.stk.length ≤ (tot (M.drop i)).length := by rw [htd, List.length_append]; omega
      obtain ⟨up, hup⟩ := tot_pre M i
      have htot : tot M = tot (M.drop (i + 1)) ++ pr.stk ++ up := by rw [hup, htd]
      have htl : (tot (M.drop i)).length ≤ xs.length := by rw [hxl, hup, List.length_append]; omega
      have hst' := c.lst hiS hst
      have han' := c.lst hiS han
      have hle' := c.sqT hle
      have hxs' := hxs.ch c
      have hmp := mL_le_of_mem hpr
      have hhp := hva_of hpr hh
      have hpk : pr.stk.length ≤ 100000 := by omega
      have hng : ¬ (tv < (pr.stk.length : Int)) := by omega
      have ha0 : (tv - (pr.stk.length : Int)) = ((tot (M.drop (i + 1))).length : Nat) := by rw [htv, htd, List.length_append]; omega
      have hmid : cutV xs (some (tv - (pr.stk.length : Int))) (some tv) = (xs.drop (tot (M.drop (i + 1))).length).take ((tot (M.drop i)).length - (tot (M.drop (i + 1))).length) := by
        rw [ha0, htv]
        exact cutV_mid xs _ _ htl (by rw [htd, List.length_append]; omega)
      have hmidD : ∀ {H0 : Hp}, DtA K H0 xs ((tot M).map Act.d) → DtA K H0 ((xs.drop (tot (M.drop (i + 1))).length).take ((tot (M.drop i)).length - (tot (M.drop (i + 1))).length)) (pr.stk.map Act.d) := fun {H0} h => by
        have q := (h.drop (tot (M.drop (i + 1))).length).take ((tot (M.drop i)).length - (tot (M.drop (i + 1))).length)
        rw [← List.map_drop, ← List.map_take] at q
        have e : ((tot M).drop (tot (M.drop (i + 1))).length).take ((tot (M.drop i)).length - (tot (M.drop (i + 1))).length) = pr.stk := by
          rw [htot, htd]
          exact mid_app _ _ _
        rw [e] at q
        exact q
      walk_at "rd"
      refine use_lenP hPi' hpk ?_
      walk_at "rd"
      refine use_listP hPi' fun lt lxs H2 hlt hlt2 hlx c2 => ?_
      have hst2 := c2.get0 hst'
      walk_at "rd"
      refine x_slL (SqL.of hst2) fun sl H3 hsl3 hslc c3 => ?_
      rw [hmid] at hslc
      walk_at "rd"
      have c23 : Ch [] H' H3 := c2.nilL c3
      refine use_same (n := 7) (Sm.lst (c3.get0 hlt2) hslc (hlx.ch c3) (hmidD (hxs'.ch c23)) (hva_sd hhp) (by rw [List.length_map]; exact hpk)) (by decide) ?_
      have hrl3 := c23.get0 hrl
      have hrv3 := hrv.ch c23
      have hpv3 := hpv.ch c23
      have hS1 : ((M.take i).map PR.p) ++ [pr.p] = (M.take (i + 1)).map PR.p := by rw [take_snoc hpr, List.map_append]; rfl
      have hplen : tv - (pr.stk.length : Int) = ((tot (M.drop (i + 1))).length : Nat) := ha0
      cases r with
      | none =>
        have hpv0 : Dt K H3 pv .none := hpv3
        cases hpv0
        have hi1 : 0 < i := by
          rcases Nat.eq_zero_or_pos i with q | q
          · have := hi0 q
            cases this
          · exact q
        walk_at "rd"
        obtain ⟨l', hl', hP0⟩ := hfirst hi1
        refine ⟨_, rl, rvs, rows, none, .non, _, _, _, _, rfl, rfl, hplen, (c.nilR c23).mono (fun x hx => by rw [← hS1]; exact List.mem_append_left _ hx), hrl3, hrv3, .non, hrows, fun q => absurd q (by omega), (fun e1 q => by cases q), hwn, fun _ => ⟨l', hl', hP0.ch0 c23⟩⟩
      | some e1 =>
        have hpv1 : Dt K H3 pv e1.d := hpv3
        obtain ⟨pa, rfl⟩ : ∃ pa, pv = .ref pa := by
          cases e1 <;> (cases hpv1; exact ⟨_, rfl⟩)
        have hst3 := c3.get0 hst2
        have han3 := c23.get0 han'
        have hrvl : rvs.length = rows.length := by rw [hrv.length, List.length_map]
        walk_at "rd"
        refine x_slL (SqL.of hst3) fun sl2 H4 hsl4 hslc4 c4 => ?_
        rw [hmid] at hslc4
        have hrl4 := c4.get0 hrl3
        have han4 := c4.get0 han3
        walk_at "rd"
        refine nT fun le2 H5 hle25 hle5 c5 => ?_
        have hrl5 := c5.get0 hrl4
        have han5 := c5.get0 han4
        walk_at "rd"
        refine x_slL (SqL.of han5) fun an2 H6 han26 han6 c6 => ?_
        rw [hrvl, cutV_up _ rows.length (by rw [List.length_map]; exact hrows), ← List.map_drop] at han6
        have c36 : Ch [] H3 H6 := (c4.nilL c5).nilL c6
        have c06 : Ch [] H' H6 := c23.nilL c36
        have cS6 : Ch ((M.take i).map PR.p) H H6 := c.nilR c06
        have hL6 := hL.ch cS6 fun x hx => by
          obtain ⟨r', hr', e'⟩ := List.mem_map.mp (hSm x hx)
          rw [← e']
          exact (hP r' hr').1
        walk_at "rd"
        refine ⟨lo, pr.p, sl2, le2, an2, s, pr.l, pr.b, Z, pr.m, .ref pa, _, pr.stk, e1, ans.drop rows.length, ks, cs, pr.kvs, pr.svs, held, rfl, hL6, hpz, lok, hPi'.ch0 c06, hhp, c6.get0 (c5.get0 hslc4), hmidD (hxs'.ch c06), c6.sqT (SqT.of hle5), hpv1.ch c36, hs.ch cS6, hsl, han6, by omega, by rw [List.length_drop]; omega, fun rows' r' rest' t' rl' l' pv' rvs' H7 hway ht' hrl' hrv' hpv' hl' hP7 c7 => ?_⟩
        have hi6 := (hPi'.ch0 c06).ins
        have hrl7 := c7.lst hi6 (c36.get0 hrl3)
        have hrv7 := (hrv3.ch c36).ch c7
        obtain ⟨u1, u2⟩ := hway.used
        rw [List.length_drop] at u2
        walk_at "rd"
        have hl1 := hrv7.length
        have hl2 := hrv'.length
        rw [List.length_map] at hl1 hl2
        refine x_addL hrl7 hrl' (by have := szB; omega) fun rl8 H8 hrl8 hrl8' c8 => ?_
        walk_at "rd"
        have cA : Ch ((M.take (i + 1)).map PR.p) H H8 := by
          rw [← hS1]
          exact (cS6.trans c7).nilR c8
        have hwapp := Way.app (lo := (tot (M.drop (i + 1))).reverse) hway
        have hrevd : (tot (M.drop i)).reverse = pr.stk.reverse ++ (tot (M.drop (i + 1))).reverse := by rw [htd, List.reverse_append]
        rw [hrevd] at hw
        refine ⟨_, rl8, _, rows ++ rows', r', pv', _, _, _, _, rfl, rfl, hplen, cA, hrl8', ?_, hpv'.ch c8, by rw [List.length_append]; omega, fun q => absurd q (by omega), fun e2 q rows2 r2 rest2 w2 => ?_, fun q => ?_, fun _ => ?_⟩
        · rw [List.map_append]
          exact (hrv7.append hrv').ch c8
        · have w3 := hwapp.1 e2 q (rows2 := rows2) (r2 := r2) (rest2 := rest2) (by
            rw [← u1, List.drop_drop, ← List.length_append]
            exact w2)
          rw [List.append_assoc]
          exact hw e1 rfl _ _ _ w3
        · have w3 := hwapp.2 q
          rw [hway.gone q] at w3
          exact hw e1 rfl _ _ _ w3
        · by_cases hz0 : i = 0
          · subst hz0
            have : pr = r0 := by rw [h0] at hpr; exact (Option.some.inj hpr).symm
            subst this
            exact ⟨l', cS6.free hl' (by simp), hP7.ch0 c8⟩
          · obtain ⟨l0, hl0, hP0⟩ := hfirst (by omega)
            refine ⟨l0, hl0, ((hP0.ch0 c06).ch c7 ?_ ?_ ?_).ch0 c8⟩
            · have : r0.p ∈ (M.take i).map PR.p := List.mem_map.mpr ⟨r0, List.mem_of_getElem? (i := 0) (by rw [List.getElem?_take, if_pos (by omega), h0]), rfl⟩
              intro hx
              rw [List.mem_singleton.mp hx] at this
              exact hnS this
            · obtain ⟨_, ⟨_, q, _⟩, _⟩ := hP0.ch0 c06
              exact hi6.off q
            · exact (hPi'.ch0 c06).nbs.1
    · obtain ⟨S, rl, rvs, rows, r, pv, tv, o9, o10, o11, rfl, rfl, htv, c, hrl, hrv, hpv, hrows, hi0, hw, hwn, hfirst⟩ := hI
      rw [List.length_map, List.take_length] at c
      rw [List.length_map, List.drop_length] at htv
      have htv' : tv = 0 := htv
      subst htv'
      have hiS := hins (M.map PR.p) fun x hx => hx
      obtain ⟨l', hl', hP0⟩ := hfirst (by rw [List.length_map, ← hLe]; simp)
      have hL' := hL.ch c fun x hx => by
        obtain ⟨r', hr', e'⟩ := List.mem_map.mp hx
        rw [← e']
        exact (hP r' hr').1
      have hway : ∃ rest, Way ks cs held (tot M).reverse e ans rows r rest := by
        cases r with
        | none => exact ⟨_, hwn rfl⟩
        | some e1 =>
          have := hw e1 rfl [] (some e1) (ans.drop rows.length) (by rw [List.length_map, List.drop_length]; exact .nil)
          rw [List.append_nil] at this
          exact ⟨_, this⟩
      obtain ⟨rest, hway⟩ := hway
      have hle' := c.sqT hle
      walk_at "rd"
      refine ⟨lo, s, st, an, Z, ev, xs, tot M, e, ans, ks, cs, held, rfl, c.lst hiS hst, hxs.ch c, hh, he.ch c, hL', lok, hs.ch c, hsl, SqL.of (c.lst hiS han), hm, hal, fun rows' r' rest' t rl' pv' rvs' H2 hway' htn ht hrln hrl' hrv' hpv' c2 => ?_⟩
      obtain ⟨rfl, rfl, _⟩ := hway.det hway'
      have hrl2 := c2.get0 hrl
      walk_at "rd"
      refine use_same (n := 3) (Sm.lst hrl2 hrl' (hrv.ch c2) hrv' (rw_sd rows) (by rw [List.length_map]; omega)) (by decide) ?_
      walk_at "rd"
      have hsx : Sd 1 (exD r) := by
        cases r with
        | none => exact trivial
        | some e1 => exact Sd.ex e1
      refine use_same (n := 1) (Sm.of_dt hsx (hpv.ch c2) hpv') (by decide) ?_
      walk_at "rd"
      exact kk l' H2 hl' (hP0.ch0 c2) (c.nilR c2)
end
theorem Lr.sub {K : PySem.W.Frag} {H : Hp} {Z Z' : List Addr} {lo : Addr} {ks : List (Str × Kd)} {cs : List (Str × Int)} (h : Lr K H Z lo ks cs) (s : ∀ z ∈ Z', z ∈ Z) : Lr K H Z' lo ks cs := by
  obtain ⟨nl, kd, pl, kvs, ps, h1, h2, h3, h4, h5, h6, h7⟩ := h
  exact ⟨nl, kd, pl, kvs, ps, h1, h2, h3, h4, h5, h6, fun z hz => h7 z (s z hz)⟩
theorem HvA.sub {ks : List (Str × Kd)} {cs : List (Str × Int)} {l l' : List Act} (h : HvA ks cs l) (s : ∀ x ∈ l', x ∈ l) : HvA ks cs l' := fun x hx => h x (s x hx)
theorem mL_take (l : List Act) (n : Nat) : mL (l.take n) ≤ mL l := by
  have e := mL_app (l.take n) (l.drop n)
  rw [List.take_append_drop] at e
  omega
theorem mL_drop (l : List Act) (n : Nat) : mL (l.drop n) ≤ mL l := by
  have e := mL_app (l.take n) (l.drop n)
  rw [List.take_append_drop] at e
  omega
theorem Pl.nbs {H : Hp} {p c : Addr} (h : Pl H p c) : NBs H [p] := by
  obtain ⟨⟨_, _, _, _, h1, _⟩, _⟩ := h
  exact nbs_lst h1
theorem Pl.ins {H H' : Hp} {S : List Addr} {p c : Addr} (h : Pl H p c) (k : Ch S H H') (i : InsS H S) : Pl H' p c := by
  obtain ⟨⟨a, b, d, e, h3, h4⟩, ns, h5, h6⟩ := id h
  exact h.ch k (i.off h3) (i.off h5)
theorem Pl.ne_ins {H : Hp} {p c x C dx : Addr} {fs : List (Str × V)} (h : Pl H p c) (e : H x = some (.ins C dx fs)) : x ≠ p ∧ x ≠ c := by
  obtain ⟨⟨_, _, _, _, h1, _⟩, ns, h2, _⟩ := h
  exact ⟨ne_of e h1 (by simp), ne_of e h2 (by simp)⟩
def sp__law_pool (K : PySem.W.Frag) : Sp := fun vs H Q E => ∃ (a : Addr) (ns : List Int), vs = [.ref a] ∧ SqL K H a (ns.map V.int) ∧ ns.length ≤ 63 ∧ ∀ p c H', Pl H' p c → Ch [] H H' → Q (.ref p) H'
def sp__law_apart (K : PySem.W.Frag) : Sp := fun vs H Q E => ∃ (p c lo pp l b st : Addr) (Z : List Addr) (m : Int) (xs : List V) (stk : List Act) (ks : List (Str × Kd)) (cs : List (Str × Int)) (kvs svs : List (Key × V)), vs = [.ref p, .ref lo, .ref pp, .ref st] ∧
  Pl H p c ∧ p ∈ Z ∧ pp ∈ Z ∧ Lr K H Z lo ks cs ∧ LoOk ks cs ∧ Pi K H ks cs kvs svs pp l b m stk ∧ l ≠ p ∧ HvA ks cs stk ∧ H st = some (.lst xs) ∧ st ≠ p ∧ DtA K H xs (stk.map Act.d) ∧ mL stk ≤ 100000 ∧ ∀ H', Ch [p, pp] H H' → Q (.bl true) H'
section
variable {P : Program} {w : World} {K : PySem.W.Frag} {mg : Str → Option Value} {base : Heap}
theorem ok__law_pool (T : Txt K mg)  : FD P w K mg base CX0 1 (He.ga K "_law_pool") ["script"] (sp__law_pool K) := by
  refine FD.mk0 T.f__law_pool sc__law_pool (fun vs H Q E h => ?_) (fun _ _ _ _ _ _ us hl => match us, hl with | [_], _ => rfl) (fun cdv A outer s H vs Q E hr h => ⟨_, (pss_one (ps_ret (pe_lst (pa_cons (pe_callTy c_list (by rfl) T.n_list bb_list (pa_cons (pv 0) pa_nil)) (pa_cons pe_int (pa_cons pe_int (pa_cons pe_int (pa_cons pe_int pa_nil)))))))), ?_⟩)
  · obtain ⟨a, ns, rfl, _⟩ := h
    rfl
  · obtain ⟨a, ns, rfl, hq, hl, kk⟩ := h
    walk_at "st"
    walk_at "rd"
    refine x_listL hq fun c H1 hc hc1 c1 => ?_
    walk_at "rd"
    refine nL fun p H2 hp hp2 c2 => ?_
    exact kk p c H2 ⟨⟨0, 0, 0, 0, hp2, Int.le_refl 0⟩, ns, c2.get0 hc1, hl⟩ (c1.nilL c2)
theorem ok__law_apart (T : Txt K mg)  : FD P w K mg base CX0 14 (He.ga K "_law_apart") ["pool", "lore", "pile", "stack"] (sp__law_apart K) := by
  refine FD.mk0 T.f__law_apart sc__law_apart (fun vs H Q E h => ?_) (fun _ _ _ _ _ _ us hl => match us, hl with | [_, _, _, _], _ => rfl) (fun cdv A outer s H vs Q E hr h => ⟨_, (pss_cons (ps_set (i := 4) sc__law_apart.nd rfl (.inl rfl) (pe_callD (ok__law_draw T) hr (by first | decide | omega) (by rfl) T.g__law_draw pass0 (pa_cons (pv 0) (pa_cons (pe_op u_add (pe_callB c_len (by rfl) T.n_len bb_len (pa_cons (pv 3) pa_nil)) pe_int) pa_nil))))
  (pss_cons (ps_set (i := 5) sc__law_apart.nd rfl (.inl rfl) (pe_methR (pv 2) T.c_Pile T.m_Pile_cut (ok_Pile_cut T).raw (hr.mono (by decide)) pass0 (pa_cons (pv 4) pa_nil)))
  (pss_cons (ps_if (pt_cmpR u_is (pe_callD (ok__law_part T) hr (by first | decide | omega) (by rfl) T.g__law_part pass0 (pa_cons (pv 1) (pa_cons (pv 2) (pa_cons (pe_slice u_slice (pv 3) po_none (po_some (pv 4))) (pa_cons (pe_callD (ok__law_leaving T) hr (by first | decide | omega) (by rfl) T.g__law_leaving pass0 (pa_cons (pv 0) (pa_cons (pv 1) pa_nil))) (pa_cons (pe_callD (ok__law_answers T) hr (by first | decide | omega) (by rfl) T.g__law_answers pass0 (pa_cons (pv 0) (pa_cons pe_int pa_nil))) pa_nil)))))) pe_non (nomark _)) (pss_one (ps_ret pe_bl)) pss_nil)
  (pss_one (ps_ret (pe_cmpR u_isnot (pe_callD (ok__law_part T) hr (by first | decide | omega) (by rfl) T.g__law_part pass0 (pa_cons (pv 1) (pa_cons (pv 5) (pa_cons (pe_slice u_slice (pv 3) (po_some (pv 4)) po_none) (pa_cons (pe_callD (ok__law_leaving T) hr (by first | decide | omega) (by rfl) T.g__law_leaving pass0 (pa_cons (pv 0) (pa_cons (pv 1) pa_nil))) (pa_cons (pe_callD (ok__law_answers T) hr (by first | decide | omega) (by rfl) T.g__law_answers pass0 (pa_cons (pv 0) (pa_cons pe_int pa_nil))) pa_nil)))))) pe_non (nomark _))))))), ?_⟩)
  · obtain ⟨p, c, lo, pp, l, b, st, Z, m, xs, stk, ks, cs, kvs, svs, rfl, _⟩ := h
    rfl
  · obtain ⟨p, c, lo, pp, l, b, st, Z, m, xs, stk, ks, cs, kvs, svs, rfl, hp, hz, hzp, hL, lok, hP, hlp, hh, hst, hstp, hxs, hm, kk⟩ := h
    have hsk := Nat.le_trans (mL_len stk) hm
    have hxl : xs.length = stk.length := by rw [hxs.length, List.length_map]
    obtain ⟨⟨dx0, hpp0⟩, _, _⟩ := id hP
    have hppp := (hp.ne_ins hpp0).1
    walk_at "st"
    walk_at "rd"
    refine use_draw hp (by omega) (by omega) fun n H1 hn0 hn1 hp1 c1 => ?_
    have hP1 := hP.ch c1 (by simpa using hppp) (by simpa using hlp) hp.nbs
    have hst1 := c1.get1 hst hstp
    have hL1 := hL.ch c1 (in1 hz)
    obtain ⟨⟨dx, hpp1⟩, _, _⟩ := id hP1
    obtain ⟨k, rfl⟩ : ∃ k : Nat, n = (k : Int) := ⟨n.toNat, by omega⟩
    have hk : k ≤ stk.length := by omega
    walk_at "rd"
    refine x_objM hpp1 rfl ?_
    walk_at "rd"
    refine ⟨pp, l, b, m, k, stk, ks, cs, kvs, svs, rfl, hk, hP1, fun u lu bu l' H2 hu hlu hl' hne hU hP2 c2 => ?_⟩
    have hi1 := hP1.ins
    have hp2 := hp1.ins c2 hi1
    have hst2 := c2.lst hi1 hst1
    have hL2 := (hL1.more hu).ch c2 (fun s m => by rw [List.mem_singleton.mp m]; exact List.mem_cons_of_mem _ hzp)
    have hpu : u ≠ p := (hp1.off hu).1
    have hplu : lu ≠ p := (hp1.off hlu).1
    have hpl' : l' ≠ p := (hp1.off hl').1
    have hxs2 := (hxs.ch c1).ch c2
    walk_at "rd"
    refine x_slL (SqL.of hst2) fun sl H3 hsl hsl3 c3 => ?_
    rw [cutV_lo xs k (by omega)] at hsl3
    have hp3 := hp2.ch0 c3
    have hslp := (hp2.off hsl).1
    have hL3 := hL2.ch0 c3
    walk_at "rd"
    refine ⟨p, c, lo, u :: Z, ks, cs, rfl, hp3, List.mem_cons_of_mem _ hz, hL3, lok, fun t s v e held H4 ht hv hs hsl' hp4 c4 => ?_⟩
    have hL4 := hL3.ch c4 (in1 (List.mem_cons_of_mem _ hz))
    walk_at "rd"
    refine ⟨p, c, 8, rfl, by decide, hp4, fun an ans H5 han0 han hans hp5 c5 => ?_⟩
    have hL5 := hL4.ch c5 (in1 (List.mem_cons_of_mem _ hz))
    have c45 : Ch [p] H3 H5 := c4.seq c5
    have hP3 := hP2.ch0 c3
    have hU3 := hU.ch0 c3
    obtain ⟨⟨du, hu3⟩, _, _⟩ := id hU3
    have hppu : pp ≠ u := ne_of_none hpp1 hu
    have hP5 := hP3.ch c45 (by simpa using hppp) (by simpa using hpl') hp3.nbs
    have hU5 := hU3.ch c45 (by simpa using hpu) (by simpa using hplu) hp3.nbs
    have hans' : ans.length ≤ 1000 := by omega
    walk_at "rd"
    refine ⟨lo, pp, sl, t, an, s, l', b, u :: Z, m, v, xs.take k, stk.take k, e, ans, ks, cs, kvs, svs, held, rfl, hL5, List.mem_cons_of_mem _ hzp, lok, hP5, hh.sub fun x hx => List.mem_of_mem_take hx, c45.get1 hsl3 hslp, by rw [List.map_take]; exact ((hxs2.ch c3).ch c45).take k, c5.sqT ht, hv.ch c5, hs.ch c5, hsl', han, by have := mL_take stk k; omega, hans', fun rows r rest tt rl l2 pv rvs H6 hway htt hrl hrv hpv hl2 hP6 c6 => ?_⟩
    have hi5 := hP5.ins
    have hp6 := hp5.ins c6 hi5
    have hL6 := hL5.ch c6 (in1 (List.mem_cons_of_mem _ hzp))
    have hU6 : Pi K H6 ks cs kvs svs u lu bu m (stk.drop k) := by
      refine hU5.ch c6 (by simpa using Ne.symm hppu) ?_ hP5.nbs.1
      obtain ⟨_, ⟨_, q, _⟩, _⟩ := hU5
      exact hi5.off q
    have hst6 := c6.lst hi5 (c45.get1 (c3.get0 hst2) hstp)
    have hxs6 := ((hxs2.ch c3).ch c45).ch c6
    walk_at "rd"
    refine x_slL (SqL.of hst6) fun sl2 H7 hsl2 hsl7 c7 => ?_
    rw [cutV_up xs k (by omega)] at hsl7
    have hp7 := hp6.ch0 c7
    have hslp2 := (hp6.off hsl2).1
    have hL7 := hL6.ch0 c7
    walk_at "rd"
    refine ⟨p, c, lo, u :: Z, ks, cs, rfl, hp7, List.mem_cons_of_mem _ hz, hL7, lok, fun t2 s2 v2 e2 held2 H8 ht2 hv2 hs2 hsl2' hp8 c8 => ?_⟩
    have hL8 := hL7.ch c8 (in1 (List.mem_cons_of_mem _ hz))
    walk_at "rd"
    refine ⟨p, c, 8, rfl, by decide, hp8, fun an2 ans2 H9 han20 han2 hans2 hp9 c9 => ?_⟩
    have hL9 := hL8.ch c9 (in1 (List.mem_cons_of_mem _ hz))
    have c89 : Ch [p] H7 H9 := c8.seq c9
    have hU9 := (hU6.ch0 c7).ch c89 (by simpa using hpu) (by simpa using hplu) hp7.nbs
    have hans2' : ans2.length ≤ 1000 := by omega
    walk_at "rd"
    refine ⟨lo, u, sl2, t2, an2, s2, lu, bu, u :: Z, m, v2, xs.drop k, stk.drop k, e2, ans2, ks, cs, kvs, svs, held2, rfl, hL9, List.mem_cons_self, lok, hU9, hh.sub fun x hx => List.mem_of_mem_drop hx, c89.get1 hsl7 hslp2, by rw [List.map_drop]; exact ((hxs6.ch c7).ch c89).drop k, c9.sqT ht2, hv2.ch c9, hs2.ch c9, hsl2', han2, by have := mL_drop stk k; omega, hans2', fun rows2 r2 rest2 tt2 rl2 l3 pv2 rvs2 H10 hway2 htt2 hrl2 hrv2 hpv2 hl3 hU10 c10 => ?_⟩
    walk_at "rd"
    have hu0 : H u = none := c1.free hu (by simpa using hpu)
    have cA : Ch [p, pp] H H6 := ((c1.mono (by simp)).seq (c2.mono (by simp))).seq (((c3.nilL c45).mono (by simp)).seq (c6.mono (by simp)))
    have cB : Ch [p, pp] H H9 := cA.seq ((c7.nilL c89).mono (by simp))
    have cC : Ch (u :: [p, pp]) H H10 := (cB.mono fun x hx => List.mem_cons_of_mem _ hx).seq (c10.mono fun x hx => by rw [List.mem_singleton.mp hx]; exact List.mem_cons_self)
    exact kk H10 (cC.drop hu0)
end
theorem Lr.fill {K : PySem.W.Frag} {H : Hp} {Z Z' : List Addr} {lo : Addr} {ks : List (Str × Kd)} {cs : List (Str × Int)} (h : Lr K H Z lo ks cs) (n : ∀ z ∈ Z', z ∈ Z ∨ H z = none) : Lr K H (Z' ++ Z) lo ks cs := by
  obtain ⟨nl, kd, pl, kvs, ps, h1, h2, h3, h4, h5, h6, h7⟩ := h
  refine ⟨nl, kd, pl, kvs, ps, h1, h2, h3, h4, h5, h6, fun y hy => ?_⟩
  rcases List.mem_append.mp hy with hy | hy
  · rcases n y hy with q | q
    · exact h7 y q
    · exact ⟨ne_of_none h1 q, ne_of_none h2 q, ne_of_none h3 q, ne_of_none h4 q⟩
  · exact h7 y hy
structure Fw (K : PySem.W.Frag) (H : Hp) (X : List Addr) (p c lo : Addr) (ks : List (Str × Kd)) (cs : List (Str × Int)) (Ls : List (Addr × List V)) (L : List PR) : Prop where
  pl : Pl H p c
  lr : Lr K H (X ++ p :: (L.map PR.p ++ L.map PR.l)) lo ks cs
  cx : c ∉ X
  ls : ∀ q ∈ Ls, H q.1 = some (.lst q.2) ∧ q.1 ≠ p ∧ ∀ r ∈ L, q.1 ≠ r.l
  pr : ∀ r ∈ L, Pr K H ks cs r ∧ r.l ≠ p ∧ r.l ≠ c
  np : (L.map PR.p).Nodup
  nn : (L.map PR.l).Nodup
section
variable {K : PySem.W.Frag} {H H' : Hp} {X S : List Addr} {p c lo a : Addr} {ks : List (Str × Kd)} {cs : List (Str × Int)} {Ls Ls' : List (Addr × List V)} {L L' M M' N : List PR} {xs ys : List V} {r : PR}
theorem Pr.at_ (h : Pr K H ks cs r) : (∃ dx, H r.p = some (.ins (He.ga K "Pile") dx (pfs r.b r.l r.m))) ∧ ∃ xs, H r.l = some (.lst xs) := by
  obtain ⟨h1, ⟨xs, h2, _⟩, _⟩ := h
  exact ⟨h1, xs, h2⟩
theorem Fw.perm (h : Fw K H X p c lo ks cs Ls L) (q : L.Perm L') : Fw K H X p c lo ks cs Ls L' := by
  have m : ∀ r, r ∈ L' → r ∈ L := fun r hr => q.mem_iff.mpr hr
  refine ⟨h.pl, h.lr.sub fun z hz => ?_, h.cx, fun x hx => ⟨(h.ls x hx).1, (h.ls x hx).2.1, fun r hr => (h.ls x hx).2.2 r (m r hr)⟩, fun r hr => h.pr r (m r hr), (q.map _).nodup_iff.mp h.np, (q.map _).nodup_iff.mp h.nn⟩
  simp only [List.mem_append, List.mem_cons, List.mem_map] at hz ⊢
  rcases hz with q1 | q1 | ⟨r, q2, q3⟩ | ⟨r, q2, q3⟩
  · exact .inl q1
  · exact .inr (.inl q1)
  · exact .inr (.inr (.inl ⟨r, m r q2, q3⟩))
  · exact .inr (.inr (.inr ⟨r, m r q2, q3⟩))
theorem Fw.lsub (h : Fw K H X p c lo ks cs Ls L) (s : ∀ q ∈ Ls', q ∈ Ls) : Fw K H X p c lo ks cs Ls' L := ⟨h.pl, h.lr, h.cx, fun x hx => h.ls x (s x hx), h.pr, h.np, h.nn⟩
theorem Fw.unX (h : Fw K H (a :: X) p c lo ks cs Ls L) : Fw K H X p c lo ks cs Ls L := ⟨h.pl, h.lr.sub fun z hz => (List.mem_append.mp hz).elim (fun q => List.mem_append_left _ (List.mem_cons_of_mem _ q)) fun q => List.mem_append_right _ q, fun m => h.cx (List.mem_cons_of_mem _ m), h.ls, h.pr, h.np, h.nn⟩
theorem Fw.get (h : Fw K H X p c lo ks cs Ls L) (m : (a, xs) ∈ Ls) : H a = some (.lst xs) := (h.ls (a, xs) m).1
theorem Fw.lr1 (h : Fw K H X p c lo ks cs Ls L) : Lr K H [p] lo ks cs := h.lr.sub fun z hz => by
  rw [List.mem_singleton.mp hz]
  simp
/-- a list of its own that is not there as yet -/
theorem Fw.pushH (h : Fw K H X p c lo ks cs Ls L) (n : H a ≠ none) (hp : a ≠ p) (hl : ∀ r ∈ L, a ≠ r.l) (e : H a = some (.lst xs)) : Fw K H X p c lo ks cs ((a, xs) :: Ls) L := ⟨h.pl, h.lr, h.cx, fun q hq => by
  rcases List.mem_cons.mp hq with z | z
  · rw [z]
    exact ⟨e, hp, hl⟩
  · exact h.ls q z, h.pr, h.np, h.nn⟩
theorem Fw.neP (h : Fw K H X p c lo ks cs Ls L) (n : H a = none) : a ≠ p ∧ a ≠ c ∧ ∀ r ∈ L, a ≠ r.l := by
  obtain ⟨q1, q2⟩ := h.pl.off n
  refine ⟨q1, q2, fun r hr => ?_⟩
  obtain ⟨_, xs, e⟩ := (h.pr r hr).1.at_
  exact Ne.symm (ne_of_none e n)
/-- the piles M become M' -/
theorem Fw.gen (h : Fw K H X p c lo ks cs Ls (M ++ N)) (k : Ch (M.map PR.p ++ M.map PR.l) H H') (m : ∀ r ∈ M', Pr K H' ks cs r ∧ (r.p ∈ M.map PR.p ∨ H r.p = none) ∧ (r.l ∈ M.map PR.l ∨ H r.l = none)) (np : (M'.map PR.p).Nodup) (nn : (M'.map PR.l).Nodup) : Fw K H' X p c lo ks cs Ls (M' ++ N) := by
  have hnp := h.np
  have hnn := h.nn
  rw [List.map_append, List.nodup_append] at hnp hnn
  have insM : ∀ x ∈ M.map PR.p, ∃ dx fs, H x = some (.ins (He.ga K "Pile") dx fs) ∧ NB (.ins (He.ga K "Pile") dx fs) = true := fun x hx => by
    obtain ⟨r, hr, rfl⟩ := List.mem_map.mp hx
    obtain ⟨⟨dx, e⟩, _⟩ := (h.pr r (List.mem_append_left _ hr)).1.at_
    exact ⟨dx, _, e, rfl⟩
  have lstM : ∀ x ∈ M.map PR.l, ∃ xs, H x = some (.lst xs) := fun x hx => by
    obtain ⟨r, hr, rfl⟩ := List.mem_map.mp hx
    exact (h.pr r (List.mem_append_left _ hr)).1.at_.2
  have offI : ∀ {x C dx : Addr} {fs : List (Str × V)}, H x = some (.ins C dx fs) → x ∉ M.map PR.l := fun {x C dx fs} e hx => by
    obtain ⟨xs, q⟩ := lstM x hx
    rw [e] at q
    cases q
  have offL : ∀ {x : Addr} {xs : List V}, H x = some (.lst xs) → x ∉ M.map PR.p := fun {x xs} e hx => by
    obtain ⟨dx, fs, q, _⟩ := insM x hx
    rw [e] at q
    cases q
  have hnb : NBs H (M.map PR.p ++ M.map PR.l) := fun x hx o ho => by
    rcases List.mem_append.mp hx with hx | hx
    · obtain ⟨dx, fs, q, q2⟩ := insM x hx
      rw [q] at ho
      cases ho
      exact q2
    · obtain ⟨xs, q⟩ := lstM x hx
      rw [q] at ho
      cases ho
      rfl
  obtain ⟨⟨_, _, _, _, hpl, _⟩, ns, hcl, _⟩ := id h.pl
  have offP : p ∉ M.map PR.p ++ M.map PR.l := fun hx => by
    rcases List.mem_append.mp hx with hx | hx
    · exact offL hpl hx
    · obtain ⟨r, hr, e⟩ := List.mem_map.mp hx
      exact (h.pr r (List.mem_append_left _ hr)).2.1 e
  have offC : c ∉ M.map PR.p ++ M.map PR.l := fun hx => by
    rcases List.mem_append.mp hx with hx | hx
    · exact offL hcl hx
    · obtain ⟨r, hr, e⟩ := List.mem_map.mp hx
      exact (h.pr r (List.mem_append_left _ hr)).2.2 e
  have old : ∀ {x : Addr}, x ∈ M.map PR.l → ∃ r ∈ M ++ N, r.l = x := fun {x} hx => by
    obtain ⟨r, hr, e⟩ := List.mem_map.mp hx
    exact ⟨r, List.mem_append_left _ hr, e⟩
  refine ⟨h.pl.ch k offP offC, ?_, h.cx, fun q hq => ?_, fun r hr => ?_, ?_, ?_⟩
  · have f := h.lr.fill (Z' := M'.map PR.p ++ M'.map PR.l) fun z hz => by
      rcases List.mem_append.mp hz with hz | hz
      · obtain ⟨r, hr, rfl⟩ := List.mem_map.mp hz
        rcases (m r hr).2.1 with q | q
        · exact .inl (by simp only [List.map_append, List.mem_append, List.mem_cons]; exact .inr (.inr (.inl (.inl q))))
        · exact .inr q
      · obtain ⟨r, hr, rfl⟩ := List.mem_map.mp hz
        rcases (m r hr).2.2 with q | q
        · exact .inl (by simp only [List.map_append, List.mem_append, List.mem_cons]; exact .inr (.inr (.inr (.inl q))))
        · exact .inr q
    refine (f.ch k fun z hz => ?_).sub fun z hz => ?_
    · simp only [List.map_append, List.mem_append, List.mem_cons] at hz ⊢
      rcases hz with q | q
      · exact .inr (.inr (.inr (.inl (.inl q))))
      · exact .inr (.inr (.inr (.inr (.inl q))))
    · simp only [List.map_append, List.mem_append, List.mem_cons] at hz ⊢
      rcases hz with q | q | (q | q) | (q | q)
      · exact .inr (.inl q)
      · exact .inr (.inr (.inl q))
      · exact .inl (.inl q)
      · exact .inr (.inr (.inr (.inl (.inr q))))
      · exact .inl (.inr q)
      · exact .inr (.inr (.inr (.inr (.inr q))))
  · obtain ⟨q1, q2, q3⟩ := h.ls q hq
    refine ⟨k.st _ _ (fun hx => ?_) q1, q2, fun r hr => ?_⟩
    · rcases List.mem_append.mp hx with hx | hx
      · exact offL q1 hx
      · obtain ⟨r, hr, e⟩ := old hx
        exact q3 r hr e.symm
    · rcases List.mem_append.mp hr with hr | hr
      · rcases (m r hr).2.2 with z | z
        · obtain ⟨r2, hr2, e⟩ := old z
          rw [← e]
          exact q3 r2 hr2
        · exact ne_of_none q1 z
      · exact q3 r (List.mem_append_right _ hr)
  · rcases List.mem_append.mp hr with hr | hr
    · obtain ⟨q1, q2, q3⟩ := m r hr
      refine ⟨q1, ?_⟩
      rcases q3 with z | z
      · obtain ⟨r2, hr2, e⟩ := old z
        rw [← e]
        exact (h.pr r2 hr2).2
      · exact ⟨Ne.symm (ne_of_none hpl z), Ne.symm (ne_of_none hcl z)⟩
    · obtain ⟨q1, q2⟩ := h.pr r (List.mem_append_right _ hr)
      obtain ⟨⟨dx, e1⟩, xs, e2⟩ := q1.at_
      refine ⟨Pi.ch q1 k (fun hx => ?_) (fun hx => ?_) hnb, q2⟩
      · rcases List.mem_append.mp hx with hx | hx
        · exact hnp.2.2 _ hx _ (List.mem_map.mpr ⟨r, hr, rfl⟩) rfl
        · exact offI e1 hx
      · rcases List.mem_append.mp hx with hx | hx
        · exact offL e2 hx
        · exact hnn.2.2 _ hx _ (List.mem_map.mpr ⟨r, hr, rfl⟩) rfl
  · rw [List.map_append]
    refine List.nodup_append.mpr ⟨np, hnp.2.1, fun x hx y hy e => ?_⟩
    subst e
    obtain ⟨r, hr, e⟩ := List.mem_map.mp hx
    rcases (m r hr).2.1 with z | z
    · rw [e] at z
      exact hnp.2.2 x z x hy rfl
    · obtain ⟨r2, hr2, e2⟩ := List.mem_map.mp hy
      obtain ⟨⟨dx, e3⟩, _⟩ := (h.pr r2 (List.mem_append_right _ hr2)).1.at_
      rw [e2, ← e, z] at e3
      cases e3
  · rw [List.map_append]
    refine List.nodup_append.mpr ⟨nn, hnn.2.1, fun x hx y hy e => ?_⟩
    subst e
    obtain ⟨r, hr, e⟩ := List.mem_map.mp hx
    rcases (m r hr).2.2 with z | z
    · rw [e] at z
      exact hnn.2.2 x z x hy rfl
    · obtain ⟨r2, hr2, e2⟩ := List.mem_map.mp hy
      obtain ⟨_, xs, e3⟩ := (h.pr r2 (List.mem_append_right _ hr2)).1.at_
      rw [e2, ← e, z] at e3
      cases e3
theorem Fw.ch0 (h : Fw K H X p c lo ks cs Ls L) (k : Ch [] H H') : Fw K H' X p c lo ks cs Ls L := Fw.gen (M := []) (M' := []) h k (fun _ z => by cases z) List.nodup_nil List.nodup_nil
theorem Fw.one {r' : PR} (h : Fw K H X p c lo ks cs Ls (r :: N)) (k : Ch [r.p, r.l] H H') (e : r'.p = r.p) (q : Pr K H' ks cs r') (n : r'.l = r.l ∨ H r'.l = none) : Fw K H' X p c lo ks cs Ls (r' :: N) :=
  Fw.gen (M := [r]) (M' := [r']) h k (fun x hx => by
    rw [List.mem_singleton.mp hx]
    refine ⟨q, .inl (by rw [e]; simp), ?_⟩
    rcases n with n | n
    · exact .inl (by rw [n]; simp)
    · exact .inr n) (by simp) (by simp)
theorem Fw.cut {r' u : PR} (h : Fw K H X p c lo ks cs Ls (r :: N)) (k : Ch [r.p] H H') (e : r'.p = r.p) (q : Pr K H' ks cs r') (n : H r'.l = none) (qu : Pr K H' ks cs u) (n1 : H u.p = none) (n2 : H u.l = none) (ne : r'.l ≠ u.l) : Fw K H' X p c lo ks cs Ls (r' :: u :: N) := by
  have hne : r'.p ≠ u.p := fun z => by
    obtain ⟨⟨dx, e1⟩, _⟩ := (h.pr r List.mem_cons_self).1.at_
    rw [← e, z, n1] at e1
    cases e1
  refine Fw.gen (M := [r]) (M' := [r', u]) h (k.mono (by simp)) (fun x hx => ?_) (by simpa using hne) (by simpa using ne)
  rcases List.mem_cons.mp hx with z | z
  · rw [z]
    exact ⟨q, .inl (by rw [e]; simp), .inr n⟩
  · rw [List.mem_singleton.mp z]
    exact ⟨qu, .inr n1, .inr n2⟩
theorem Fw.add {u : PR} (h : Fw K H X p c lo ks cs Ls L) (k : Ch [] H H') (qu : Pr K H' ks cs u) (n1 : H u.p = none) (n2 : H u.l = none) : Fw K H' X p c lo ks cs Ls (u :: L) :=
  Fw.gen (M := []) (M' := [u]) h k (fun x hx => by
    rw [List.mem_singleton.mp hx]
    exact ⟨qu, .inr n1, .inr n2⟩) (by simp) (by simp)
theorem Fw.gone (h : Fw K H X p c lo ks cs Ls (M ++ N)) (k : Ch (M.map PR.p) H H') : Fw K H' X p c lo ks cs Ls N :=
  Fw.gen (M := M) (M' := []) h (k.mono fun x hx => List.mem_append_left _ hx) (fun _ z => by cases z) List.nodup_nil List.nodup_nil
theorem Fw.pool (h : Fw K H X p c lo ks cs Ls L) (k : Ch [p] H H') (hp : Pl H' p c) : Fw K H' X p c lo ks cs Ls L := by
  refine ⟨hp, h.lr.ch k (fun s hs => by rw [List.mem_singleton.mp hs]; simp), h.cx, fun q hq => ?_, fun r hr => ?_, h.np, h.nn⟩
  · obtain ⟨q1, q2, q3⟩ := h.ls q hq
    exact ⟨k.get1 q1 q2, q2, q3⟩
  · obtain ⟨q1, q2, q3⟩ := h.pr r hr
    obtain ⟨⟨dx, e1⟩, xs, e2⟩ := q1.at_
    exact ⟨Pi.ch q1 k (by simpa using (h.pl.ne_ins e1).1) (by simpa using q2) h.pl.nbs, q2, q3⟩
/-- a new list, drawn for or not -/
theorem Fw.push (h : Fw K H X p c lo ks cs Ls L) (k : Ch [] H H') (n : H a = none) (e : H' a = some (.lst xs)) : Fw K H' X p c lo ks cs ((a, xs) :: Ls) L := by
  obtain ⟨q1, q2, q3⟩ := h.neP n
  exact (h.ch0 k).pushH (by rw [e]; simp) q1 q3 e
theorem Fw.pushP (h : Fw K H X p c lo ks cs Ls L) (k : Ch [p] H H') (hp : Pl H' p c) (n : H a = none) (e : H' a = some (.lst xs)) : Fw K H' X p c lo ks cs ((a, xs) :: Ls) L := by
  obtain ⟨q1, q2, q3⟩ := h.neP n
  exact (h.pool k hp).pushH (by rw [e]; simp) q1 q3 e
/-- a list that grows -/
theorem Fw.pushX (h : Fw K H X p c lo ks cs Ls L) (k : Ch [] H H') (n : H a = none) (e : H' a = some (.lst xs)) : Fw K H' (a :: X) p c lo ks cs ((a, xs) :: Ls) L := by
  obtain ⟨q1, q2, q3⟩ := h.neP n
  have f := h.push k n e
  refine ⟨f.pl, ?_, fun m => ?_, f.ls, f.pr, f.np, f.nn⟩
  · exact (h.lr.more n).ch0 k
  · rcases List.mem_cons.mp m with z | z
    · exact q2 z.symm
    · exact h.cx z
theorem Fw.grow (h : Fw K H (a :: X) p c lo ks cs ((a, xs) :: Ls) L) (k : Ch [a] H H') (e : H' a = some (.lst ys)) (n : ∀ q ∈ Ls, q.1 ≠ a) : Fw K H' (a :: X) p c lo ks cs ((a, ys) :: Ls) L := by
  obtain ⟨a1, a2, a3⟩ := h.ls (a, xs) List.mem_cons_self
  have hc : c ≠ a := fun z => h.cx (by rw [z]; exact List.mem_cons_self)
  refine ⟨h.pl.ch k (by simpa using Ne.symm a2) (by simpa using hc), h.lr.ch k (fun s hs => by rw [List.mem_singleton.mp hs]; simp), h.cx, fun q hq => ?_, fun r hr => ?_, h.np, h.nn⟩
  · rcases List.mem_cons.mp hq with z | z
    · rw [z]
      exact ⟨e, a2, a3⟩
    · obtain ⟨q1, q2, q3⟩ := h.ls q (List.mem_cons_of_mem _ z)
      exact ⟨k.get1 q1 (n q z), q2, q3⟩
  · obtain ⟨q1, q2⟩ := h.pr r hr
    obtain ⟨⟨dx, e1⟩, zs, e2⟩ := q1.at_
    exact ⟨Pi.ch q1 k (by simpa using ne_of e1 a1 (by simp)) (by simpa using Ne.symm (a3 r hr)) (nbs_lst a1), q2⟩
end
/-! ### sizes and values -/
theorem tot_app : ∀ (A B : List PR), tot (A ++ B) = tot B ++ tot A
  | [], B => by simp [tot]
  | r :: A, B => by
    show tot (A ++ B) ++ r.stk = _
    rw [tot_app A B, List.append_assoc]
    rfl
def bndA : Nat → Nat
  | 0 => 1
  | r + 1 => 1 + 6 * bndA r
theorem mL_bnd {n : Nat} : ∀ (l : List Act), (∀ x ∈ l, mA x ≤ n) → mL l ≤ l.length * n
  | [], _ => Nat.zero_le _
  | x :: r, h => by
    have h1 := h x List.mem_cons_self
    have h2 := mL_bnd r fun y hy => h y (List.mem_cons_of_mem _ hy)
    rw [mL, List.length_cons, Nat.succ_mul]
    omega
theorem mA_bnd {N C : List Str} : ∀ {r : Nat} {x : Act}, OkAct N C r x → mA x ≤ bndA r := by
  intro r
  induction r with
  | zero =>
    intro x h
    rw [mA_eq, h.2.2]
    simp [mL, bndA]
  | succ r ih =>
    intro x h
    rw [mA_eq, bndA]
    have h1 := mL_bnd x.fs (n := bndA r) fun y hy => ih (h.2.2.2.2 y hy)
    have h2 := h.le
    have h3 : x.fs.length * bndA r ≤ 3 * bndA r := Nat.mul_le_mul_right _ h2
    omega
theorem look_ok {cs : List (Str × Int)} {held : List Int} (h : ∀ v ∈ held, 0 ≤ v ∧ v ≤ 999) (z : Str) : 0 ≤ look cs held z ∧ look cs held z ≤ 999 := by
  unfold look
  cases e : ((cs.map (·.1)).zip held).lookup z with
  | none => exact ⟨Int.le_refl 0, by decide⟩
  | some v =>
    refine h v ?_
    have : ∀ (l : List (Str × Int)), l.lookup z = some v → v ∈ l.map (·.2) := by
      intro l
      induction l with
      | nil => intro e; cases e
      | cons q r ih =>
        intro e
        obtain ⟨y, d⟩ := q
        have e' : (match z == y with | true => some d | false => List.lookup z r) = some v := e
        cases hb : z == y with
        | true =>
          rw [hb] at e'
          have : d = v := Option.some.inj e'
          rw [List.map_cons, this]
          exact List.mem_cons_self
        | false =>
          rw [hb] at e'
          exact List.mem_cons_of_mem _ (ih e')
    have q := this _ e
    obtain ⟨⟨y, d⟩, hq, rfl⟩ := List.mem_map.mp q
    exact (List.of_mem_zip hq).2
theorem se_ok {N C : List Str} {cs : List (Str × Int)} {held : List Int} {r : Nat} {x y : Act} (h : ∀ v ∈ held, 0 ≤ v ∧ v ≤ 999) (ok : OkAct N C r x) (m : y ∈ se cs held x) : OkAct N C r y ∧ y.g ≠ .always := by
  unfold se at m
  refine hv_ok ?_ m
  have ha : ArOk C (seA cs held x.a) := by
    have := ok.ar
    cases hx : x.a with
    | non => rw [hx] at this; exact this
    | num n => rw [hx] at this; exact this
    | late z => rw [hx] at this; exact this
    | now z => exact look_ok h z
  cases r with
  | zero => exact ⟨ok.1, ha, ok.2.2⟩
  | succ r => exact ⟨ok.1, ha, ok.2.2.1, ok.2.2.2.1, ok.2.2.2.2⟩
theorem full_hva {ks : List (Str × Kd)} {cs : List (Str × Int)} {held : List Int} {acts : List Act} (h : ∀ v ∈ held, 0 ≤ v ∧ v ≤ 999) (ok : ∀ x ∈ acts, OkAct (ks.map (·.1)) (cs.map (·.1)) 2 x) : HvA ks cs (acts.flatMap (se cs held)) := fun y hy => by
  obtain ⟨x, hx, m⟩ := List.mem_flatMap.mp hy
  exact se_ok h (ok x hx) m
theorem full_mL {ks : List (Str × Kd)} {cs : List (Str × Int)} {held : List Int} {acts : List Act} (h : ∀ v ∈ held, 0 ≤ v ∧ v ≤ 999) (ok : ∀ x ∈ acts, OkAct (ks.map (·.1)) (cs.map (·.1)) 2 x) (hl : acts.length ≤ 6) : mL (acts.flatMap (se cs held)) ≤ 100000 := by
  have h1 := mL_bnd (acts.flatMap (se cs held)) (n := 43) fun y hy => mA_bnd (full_hva h ok y hy).1
  have h2 := flat_se_len cs held acts
  have h3 : (acts.flatMap (se cs held)).length * 43 ≤ 12 * 43 := Nat.mul_le_mul_right _ (by omega)
  omega
theorem list5 {α : Type} {l : List α} (h : l.length = 5) : ∃ a b c d e, l = [a, b, c, d, e] := by
  match l, h with
  | [a, b, c, d, e], _ => exact ⟨a, b, c, d, e, rfl⟩
theorem c_listOE {X : Cx} {K : PySem.W.Frag} {k : Nat} {C fl fi : Addr} {fd : Str} (hK : X.K = K) (mL : Meth X.K C "__len__" fl) (mI : Meth X.K C "__iter__" fi) (FL : FnR X.prog X.w X.K X.mg X.base CX0 k fl (spLenF X.K C fd)) (FI : FnR X.prog X.w X.K X.mg X.base CX0 k fi (spIterF X.K C fd))
    (hcalm : X.calm = true) (hr : Room (k + 4) X.A) : CallR X (.type "list") (rListO K C fd) := by
  subst hK
  exact c_listO mL mI FL FI hcalm hr
theorem perm_cut (A B U : PR) (P Y : List PR) : (A :: U :: B :: (P ++ Y)).Perm (B :: A :: ((P ++ [U]) ++ Y)) :=
  (List.Perm.cons A (List.Perm.swap B U _)).trans ((List.Perm.swap B A _).trans (List.Perm.cons B (List.Perm.cons A (by rw [List.append_assoc]; exact (List.perm_middle (l₁ := P) (l₂ := Y)).symm))))
theorem perm_cut2 (A B W : PR) (P Q X : List PR) : (B :: W :: A :: (P ++ (Q ++ X))).Perm (A :: B :: (P ++ ((Q ++ [W]) ++ X))) :=
  (List.Perm.cons B (List.Perm.swap A W _)).trans ((List.Perm.swap A B _).trans (List.Perm.cons A (List.Perm.cons B ((List.perm_middle (l₁ := P) (l₂ := Q ++ X)).symm.trans (List.Perm.append_left P (by rw [List.append_assoc]; exact (List.perm_middle (l₁ := Q) (l₂ := X)).symm))))))
theorem mem_tot {L : List PR} {r : PR} {x : Act} (h : r ∈ L) (hx : x ∈ r.stk) : x ∈ tot L := by
  induction L with
  | nil => cases h
  | cons q L ih =>
    show x ∈ tot L ++ q.stk
    rcases List.mem_cons.mp h with e | m
    · rw [← e]
      exact List.mem_append_right _ hx
    · exact List.mem_append_left _ (ih m)
/-- the halves of piles, listed -/
def ShOk (K : PySem.W.Frag) (H : Hp) (pieces : List PR) (sh : Addr) (acc : List V) : Prop := ∀ (j : Nat) (v : V), acc[j]? = some v → ∃ (a : Addr) (xs : List V) (r : PR), v = .ref a ∧ pieces[j]? = some r ∧ H a = some (.lst xs) ∧ DtA K H xs (r.stk.map Act.d) ∧ a ≠ sh
theorem ShOk.ins {K : PySem.W.Frag} {H H' : Hp} {S : List Addr} {pieces : List PR} {sh : Addr} {acc : List V} (h : ShOk K H pieces sh acc) (c : Ch S H H') (i : InsS H S) : ShOk K H' pieces sh acc := fun j v hv => by
  obtain ⟨a, xs, r, e1, e2, e3, e4, e5⟩ := h j v hv
  exact ⟨a, xs, r, e1, e2, c.lst i e3, e4.ch c, e5⟩
theorem ShOk.ch0 {K : PySem.W.Frag} {H H' : Hp} {pieces : List PR} {sh : Addr} {acc : List V} (h : ShOk K H pieces sh acc) (c : Ch [] H H') : ShOk K H' pieces sh acc := h.ins c fun x hx => by cases hx
theorem ShOk.snoc {K : PySem.W.Frag} {H H' : Hp} {pieces : List PR} {sh t : Addr} {acc xs : List V} {r : PR} (h : ShOk K H pieces sh acc) (c : Ch [sh] H H') (hr : pieces[acc.length]? = some r) (ht : H t = some (.lst xs)) (hx : DtA K H xs (r.stk.map Act.d)) (ne : t ≠ sh) : ShOk K H' pieces sh (acc ++ [.ref t]) := fun j v hv => by
  by_cases hj : j < acc.length
  · rw [List.getElem?_append_left hj] at hv
    obtain ⟨a, xs, r, e1, e2, e3, e4, e5⟩ := h j v hv
    exact ⟨a, xs, r, e1, e2, c.get1 e3 e5, e4.ch c, e5⟩
  · rw [List.getElem?_append_right (by omega)] at hv
    have hj0 : j - acc.length = 0 := by
      rcases Nat.eq_zero_or_pos (j - acc.length) with q | q
      · exact q
      · rw [List.getElem?_eq_none (by rw [List.length_singleton]; omega)] at hv
        cases hv
    rw [hj0] at hv
    have e : j = acc.length := by omega
    subst e
    exact ⟨t, xs, r, (Option.some.inj hv).symm, hr, c.get1 ht ne, hx.ch c, ne⟩
theorem ShOk.same {K : PySem.W.Frag} {H : Hp} {ks : List (Str × Kd)} {cs : List (Str × Int)} {pieces : List PR} {s1 s2 t1 t2 : Addr} {a1 a2 : List V} (h1 : ShOk K H pieces t1 a1) (h2 : ShOk K H pieces t2 a2) (e1 : H s1 = some (.lst a1)) (e2 : H s2 = some (.lst a2)) (hl : a1.length = a2.length) (hz : a2.length ≤ 100000) (hh : ∀ r ∈ pieces, HvA ks cs r.stk ∧ r.stk.length ≤ 100000) : Sm K H 8 (.ref s1) (.ref s2) := by
  refine .inr ⟨s1, s2, a1, a2, rfl, rfl, .inr ⟨e1, e2⟩, hl, hz, fun j u v hu hv => ?_⟩
  obtain ⟨x, xs, r, rfl, q1, q2, q3, _⟩ := h1 j u hu
  obtain ⟨y, ys, r', rfl, q1', q2', q3', _⟩ := h2 j v hv
  rw [q1] at q1'
  cases q1'
  obtain ⟨k1, k2⟩ := hh r (List.mem_of_getElem? q1)
  exact Sm.lst q2 q2' q3 q3' (hva_sd k1) (by rw [List.length_map]; exact k2)
theorem use_goes {K : PySem.W.Frag} {H : Hp} {Q : VK} {E : XK} {p c lo row st le an s : Addr} {ev : V} {sxs : List V} {q0 : PR} {M N : List PR} {full : List Act} {e : Ex} {ans : List Bool} {ks : List (Str × Kd)} {cs : List (Str × Int)} {held : List Int} {Ls : List (Addr × List V)}
    (F : Fw K H [] p c lo ks cs Ls ((q0 :: M) ++ N)) (lok : LoOk ks cs) (hq : H row = some (.lst ((q0 :: M).map fun r => V.ref r.p))) (ht : tot (q0 :: M) = full) (hh : HvA ks cs full) (hst : H st = some (.lst sxs)) (hxs : DtA K H sxs (full.map Act.d)) (hle : SqT K H le [ev, .ref s]) (hev : Dt K H ev e.d) (hs : Hd K H s held) (hsl : held.length = cs.length)
    (han : H an = some (.lst (ans.map bV))) (hm : mL full ≤ 100000) (hal : ans.length ≤ 1000) (k : ∀ l' H', H l' = none → Pi K H' ks cs q0.kvs q0.svs q0.p l' q0.b q0.m [] → Ch ((q0 :: M).map PR.p) H H' → Q (.bl true) H') : sp__law_goes K [.ref lo, .ref row, .ref st, .ref le, .ref an] H Q E := by
  subst ht
  refine ⟨lo, row, st, le, an, s, _, ev, sxs, q0, M, e, ans, ks, cs, held, rfl, F.lr, lok, fun r hr => ⟨?_, (F.pr r (List.mem_append_left _ hr)).1⟩, ?_, hq, hh, hst, hxs, hle, hev, hs, hsl, han, hm, hal, k⟩
  · refine List.mem_append_right _ (List.mem_cons_of_mem _ (List.mem_append_left _ ?_))
    exact List.mem_map.mpr ⟨r, List.mem_append_left _ hr, rfl⟩
  · have := F.np
    rw [List.map_append, List.nodup_append] at this
    exact this.1
theorem perm_rows (R R0 : PR) (P Y : List PR) : (R :: R0 :: (P ++ Y)).Perm ((P ++ [R0]) ++ (R :: Y)) := by
  rw [List.append_assoc]
  exact (List.Perm.swap R0 R _).trans (((List.Perm.cons R0 (List.perm_middle (l₁ := P) (l₂ := Y)).symm)).trans (List.perm_middle (l₁ := P) (l₂ := R :: Y)).symm)
theorem map_set_same {α β : Type} (f : α → β) : ∀ {l : List α} {i : Nat} {r r' : α}, l[i]? = some r → f r' = f r → (l.set i r').map f = l.map f
  | [], _, _, _, h, _ => by cases h
  | x :: l, 0, r, r', h, e => by
    have h' : x = r := Option.some.inj h
    subst h'
    rw [List.set_cons_zero, List.map_cons, List.map_cons, e]
  | x :: l, i + 1, r, r', h, e => by
    have h' : l[i]? = some r := h
    rw [List.set_cons_succ, List.map_cons, List.map_cons, map_set_same f h' e]
theorem Fw.drop2 {K : PySem.W.Frag} {H : Hp} {X : List Addr} {p c lo : Addr} {ks : List (Str × Kd)} {cs : List (Str × Int)} {x y : Addr × List V} {Ls : List (Addr × List V)} {L : List PR} (h : Fw K H X p c lo ks cs (x :: y :: Ls) L) : Fw K H X p c lo ks cs (x :: Ls) L :=
  h.lsub fun q hq => (List.mem_cons.mp hq).elim (fun e => by rw [e]; exact List.mem_cons_self) fun m => List.mem_cons_of_mem _ (List.mem_cons_of_mem _ m)
theorem Fw.drop1 {K : PySem.W.Frag} {H : Hp} {X : List Addr} {p c lo : Addr} {ks : List (Str × Kd)} {cs : List (Str × Int)} {x : Addr × List V} {Ls : List (Addr × List V)} {L : List PR} (h : Fw K H X p c lo ks cs (x :: Ls) L) : Fw K H X p c lo ks cs Ls L :=
  h.lsub fun q hq => List.mem_cons_of_mem _ hq
section
variable {P : Program} {w : World} {K : PySem.W.Frag} {mg : Str → Option Value} {base : Heap}
theorem ok_lawF (T : Txt K mg) {fd : FuncData} (F : FunD K "law" "law" (defArgs s_law) (defBody s_law) (defScope s_law) [] [] (He.ga K "law") fd) : FnOk P w K mg base CX0 16 (He.ga K "law") fd ["script"] (sp_law K) := by
  refine F.ok sc_law (fun vs H Q E h => ?_) fun cdv A outer s H vs Q E hr h => ?_
  · obtain ⟨a, ns, rfl, _⟩ := h
    rfl
  have key : ∃ t, PSs (cxOf CX0 P w K mg base N_law "law" (defScope s_law) (He.ga K "law") cdv A outer s H E).nox (defBody s_law) t ∧ t ⟨fun _ H' => Q .non H', Q, fun _ _ => False, fun _ _ => False⟩ (start N_law vs) H := by
    refine ⟨_, (pss_cons (ps_set (i := 1) sc_law.nd rfl (.inr rfl) (pe_callD (ok__law_pool T) hr (by first | decide | omega) (by rfl) T.g__law_pool pass0 (pa_cons (pv 0) pa_nil)))
  (pss_cons (ps_set (i := 2) sc_law.nd rfl (.inr rfl) (pe_callD (ok__law_lore T) hr (by first | decide | omega) (by rfl) T.g__law_lore pass0 (pa_cons (pv 1) (pa_cons pe_int (pa_cons pe_int pa_nil)))))
  (pss_cons (ps_set (i := 3) sc_law.nd rfl (.inl rfl) (pe_callTy c_tuple (by rfl) T.n_tuple bb_tuple (pa_cons (pe_lc (own := [("pair", 20)]) rfl sc_law.nd (pi_list (pe_ix ix_seq (pv 2) pe_int (by intro _ _; rfl))) (blkOk_by (N := N_law) (sc := defScope s_law) (by decide +kernel)) (fun _ _ _ _ _ => (pg_name (i := 20) sc_law.nd rfl (.inl rfl))) (fun _ _ _ _ _ => pts_nil) (fun _ _ _ _ _ => (pe_callD (ok__law_draw T) hr (by first | decide | omega) (by rfl) T.g__law_draw pass0 (pa_cons (pv 1) (pa_cons (pe_ix (ix_seqE (K := K) (by rfl)) (pv 20) pe_int (by intro _ _; rfl)) pa_nil))))) pa_nil)))
  (pss_cons (ps_setLc (i := 5) (own := [("k", 4)]) rfl sc_law.nd rfl rfl (sw_true rfl rfl rfl (by decide +kernel)) (pi_range1 (by rfl) T.n_range (pa_cons (pe_callD (ok__law_draw T) hr (by first | decide | omega) (by rfl) T.g__law_draw pass0 (pa_cons (pv 1) (pa_cons pe_int pa_nil))) pa_nil)) (blkOk_by (N := N_law) (sc := defScope s_law) (by decide +kernel)) (fun _ _ _ _ _ => (pg_name (i := 4) sc_law.nd rfl (.inl rfl))) (fun _ _ _ _ _ => pts_nil) (fun _ _ _ _ _ => (pe_callD (ok__law_action T) hr (by first | decide | omega) (by rfl) T.g__law_action pass0 (pa_cons (pv 1) (pa_cons (pv 2) (pa_cons pe_int pa_nil))))))
  (pss_cons (ps_set (i := 6) sc_law.nd rfl (.inl rfl) (pe_lst pa_nil))
  (pss_cons (ps_for PassesOwn.never rfl (pi_list (pv 5)) (pg_name (i := 7) sc_law.nd rfl (.inl rfl)) (pss_one (ps_set (i := 6) sc_law.nd rfl (.inl rfl) (pe_op u_add (pv 6) (pe_callD (ok__law_settled T) hr (by first | decide | omega) (by rfl) T.g__law_settled pass0 (pa_cons (pv 7) (pa_cons (pe_ix ix_seq (pv 2) pe_int (by intro _ _; rfl)) (pa_cons (pv 3) pa_nil))))))))
  (pss_cons (ps_setLc (i := 8) (own := [("k", 4)]) rfl sc_law.nd rfl rfl (sw_true rfl rfl rfl (by decide +kernel)) (pi_range1 (by rfl) T.n_range (pa_cons pe_int pa_nil)) (blkOk_by (N := N_law) (sc := defScope s_law) (by decide +kernel)) (fun _ _ _ _ _ => (pg_name (i := 4) sc_law.nd rfl (.inl rfl))) (fun _ _ _ _ _ => pts_nil) (fun _ _ _ _ _ => (StX.pe_makeR T.mk_Pile (ok_Pile___init__ T).raw (hr.mono (by decide)) (by rfl) T.g_Pile pass0 (pa_cons (pe_callD (ok__law_book T) hr (by first | decide | omega) (by rfl) T.g__law_book pass0 (pa_cons (pv 2) pa_nil)) pa_nil))))
  (pss_cons (ps_for PassesOwn.never rfl (pi_list (pv 8)) (pg_name (i := 9) sc_law.nd rfl (.inl rfl)) (pss_one (ps_if (pt_not (pt_val (pe_callD (ok__law_put T) hr (by first | decide | omega) (by rfl) T.g__law_put pass0 (pa_cons (pv 9) (pa_cons (pv 5) (pa_cons (pv 3) pa_nil)))))) (pss_one (ps_ret pe_bl)) pss_nil)))
  (pss_cons (ps_set (i := 10) sc_law.nd rfl (.inl rfl) (pe_op u_add (pe_callB c_len (by rfl) T.n_len bb_len (pa_cons (pv 6) pa_nil)) (pe_callD (ok__law_draw T) hr (by first | decide | omega) (by rfl) T.g__law_draw pass0 (pa_cons (pv 1) (pa_cons pe_int pa_nil)))))
  (pss_cons (ps_expr (pe_methR (pe_ix ix_seq (pv 8) pe_int (by intro _ _; rfl)) T.c_Pile T.m_Pile_change_limit (ok_Pile_change_limit T).raw (hr.mono (by decide)) pass0 (pa_cons (pv 10) pa_nil)))
  (pss_cons (ps_set (i := 11) sc_law.nd rfl (.inl rfl) (pe_lst pa_nil))
  (pss_cons (ps_set (i := 12) sc_law.nd rfl (.inl rfl) (pe_lst pa_nil))
  (pss_cons (ps_set (i := 13) sc_law.nd rfl (.inl rfl) (pe_callB c_len (by rfl) T.n_len bb_len (pa_cons (pv 6) pa_nil)))
  (pss_cons (ps_for PassesOwn.never rfl (pi_range1 (by rfl) T.n_range (pa_cons (pe_callD (ok__law_draw T) hr (by first | decide | omega) (by rfl) T.g__law_draw pass0 (pa_cons (pv 1) (pa_cons pe_int pa_nil))) pa_nil)) (pg_name (i := 4) sc_law.nd rfl (.inl rfl)) (pss_cons (ps_set (i := 13) sc_law.nd rfl (.inl rfl) (pe_callD (ok__law_draw T) hr (by first | decide | omega) (by rfl) T.g__law_draw pass0 (pa_cons (pv 1) (pa_cons (pe_op u_add (pv 13) pe_int) pa_nil))))
  (pss_cons (ps_set (i := 11) sc_law.nd rfl (.inl rfl) (pe_op u_add (pv 11) (pe_lst (pa_cons (pe_methR (pe_ix ix_seq (pv 8) pe_int (by intro _ _; rfl)) T.c_Pile T.m_Pile_cut (ok_Pile_cut T).raw (hr.mono (by decide)) pass0 (pa_cons (pv 13) pa_nil)) pa_nil))))
  (pss_one (ps_set (i := 12) sc_law.nd rfl (.inl rfl) (pe_op u_add (pv 12) (pe_lst (pa_cons (pe_methR (pe_ix ix_seq (pv 8) pe_int (by intro _ _; rfl)) T.c_Pile T.m_Pile_cut (ok_Pile_cut T).raw (hr.mono (by decide)) pass0 (pa_cons (pv 13) pa_nil)) pa_nil))))))))
  (pss_cons (ps_set (i := 14) sc_law.nd rfl (.inl rfl) (pe_callD (ok__law_leaving T) hr (by first | decide | omega) (by rfl) T.g__law_leaving pass0 (pa_cons (pv 1) (pa_cons (pv 2) pa_nil))))
  (pss_cons (ps_set (i := 15) sc_law.nd rfl (.inl rfl) (pe_callD (ok__law_answers T) hr (by first | decide | omega) (by rfl) T.g__law_answers pass0 (pa_cons (pv 1) (pa_cons pe_int pa_nil))))
  (pss_cons (ps_setLc (i := 16) (own := [("piece", 19)]) rfl sc_law.nd rfl rfl (sw_true rfl rfl rfl (by decide +kernel)) (pi_list (pv 12)) (blkOk_by (N := N_law) (sc := defScope s_law) (by decide +kernel)) (fun _ _ _ _ _ => (pg_name (i := 19) sc_law.nd rfl (.inl rfl))) (fun _ _ _ _ _ => pts_nil) (fun _ _ _ _ _ => (pe_callTy (c_listOE (K := K) (by rfl) T.m_Pile___len__ T.m_Pile___iter__ (ok_Pile___len__ T).raw (ok_Pile___iter__ T).raw (by rfl) (hr.mono (by decide))) (by rfl) T.n_list bb_list (pa_cons (pv 19) pa_nil))))
  (pss_cons (ps_set (i := 17) sc_law.nd rfl (.inl rfl) (pe_ix ix_seq (pv 8) pe_int (by intro _ _; rfl)))
  (pss_cons (ps_for PassesOwn.never rfl (pi_range1 (by rfl) T.n_range (pa_cons (pe_callB c_len (by rfl) T.n_len bb_len (pa_cons (pv 12) pa_nil)) pa_nil)) (pg_name (i := 4) sc_law.nd rfl (.inl rfl)) (pss_one (ps_if (pt_cmpR u_isnot (pe_methR (pv 17) T.c_Pile T.m_Pile_lay (ok_Pile_lay T).raw (hr.mono (by decide)) pass0 (pa_cons (pe_ix ix_seq (pv 12) (pe_op u_sub (pe_op u_sub (pe_callB c_len (by rfl) T.n_len bb_len (pa_cons (pv 12) pa_nil)) pe_int) (pv 4)) (by intro _ _; rfl)) pa_nil)) pe_non (nomark _)) (pss_one (ps_ret pe_bl)) pss_nil)))
  (pss_cons (ps_if (PW.pt (pw_or (pt_not (pt_val (pe_callD (ok__law_same T) hr (by first | decide | omega) (by rfl) T.g__law_same pass0 (pa_cons (pe_lc (own := [("piece", 19)]) rfl sc_law.nd (pi_list (pv 12)) (blkOk_by (N := N_law) (sc := defScope s_law) (by decide +kernel)) (fun _ _ _ _ _ => (pg_name (i := 19) sc_law.nd rfl (.inl rfl))) (fun _ _ _ _ _ => pts_nil) (fun _ _ _ _ _ => (pe_callTy (c_listOE (K := K) (by rfl) T.m_Pile___len__ T.m_Pile___iter__ (ok_Pile___len__ T).raw (ok_Pile___iter__ T).raw (by rfl) (hr.mono (by decide))) (by rfl) T.n_list bb_list (pa_cons (pv 19) pa_nil)))) (pa_cons (pv 16) pa_nil))))) (pw_or1 (pt_not (pt_val (pe_callD (ok__law_same T) hr (by first | decide | omega) (by rfl) T.g__law_same pass0 (pa_cons (pe_callTy (c_listO T.m_Pile___len__ T.m_Pile___iter__ (ok_Pile___len__ T).raw (ok_Pile___iter__ T).raw (by rfl) (hr.mono (by decide))) (by rfl) T.n_list bb_list (pa_cons (pv 17) pa_nil)) (pa_cons (pv 6) pa_nil)))))))) (pss_one (ps_ret pe_bl)) pss_nil)
  (pss_cons (ps_for PassesOwn.never rfl (pi_list (pe_op u_add (pv 11) (pe_lst (pa_cons (pe_ix ix_seq (pv 8) pe_int (by intro _ _; rfl)) pa_nil)))) (pg_name (i := 9) sc_law.nd rfl (.inl rfl)) (pss_one (ps_if (pt_not (pt_val (pe_callD (ok__law_same T) hr (by first | decide | omega) (by rfl) T.g__law_same pass0 (pa_cons (pe_propF (E := E0) (pv 9) T.c_Pile T.p_Pile_limit (ok_Pile_limit T) (hr.mono (by decide)) (by rfl)) (pa_cons (pv 10) pa_nil))))) (pss_one (ps_ret pe_bl)) pss_nil)))
  (pss_cons (ps_for PassesOwn.never rfl (pi_list (pe_lst (pa_cons (pe_op u_add (pv 11) (pe_lst (pa_cons (pe_ix ix_seq (pv 8) pe_int (by intro _ _; rfl)) pa_nil))) (pa_cons (pe_lst (pa_cons (pe_ix ix_seq (pv 8) pe_int (by intro _ _; rfl)) pa_nil)) (pa_cons (pe_lst (pa_cons (pv 17) pa_nil)) pa_nil))))) (pg_name (i := 18) sc_law.nd rfl (.inl rfl)) (pss_one (ps_if (pt_not (pt_val (pe_callD (ok__law_goes T) hr (by first | decide | omega) (by rfl) T.g__law_goes pass0 (pa_cons (pv 2) (pa_cons (pv 18) (pa_cons (pv 6) (pa_cons (pv 14) (pa_cons (pv 15) pa_nil)))))))) (pss_one (ps_ret pe_bl)) pss_nil)))
  (pss_cons (ps_if (PW.pt (pw_or (pt_not (pt_val (pe_callD (ok__law_put T) hr (by first | decide | omega) (by rfl) T.g__law_put pass0 (pa_cons (pe_ix ix_seq (pv 8) pe_int (by intro _ _; rfl)) (pa_cons (pv 5) (pa_cons (pv 3) pa_nil)))))) (pw_or1 (pt_not (pt_val (pe_callD (ok__law_goes T) hr (by first | decide | omega) (by rfl) T.g__law_goes pass0 (pa_cons (pv 2) (pa_cons (pe_lst (pa_cons (pe_ix ix_seq (pv 8) pe_int (by intro _ _; rfl)) pa_nil)) (pa_cons (pv 6) (pa_cons (pv 14) (pa_cons (pv 15) pa_nil))))))))))) (pss_one (ps_ret pe_bl)) pss_nil)
  (pss_one (ps_ret (pe_and (pe_callD (ok__law_apart T) hr (by first | decide | omega) (by rfl) T.g__law_apart pass0 (pa_cons (pv 1) (pa_cons (pv 2) (pa_cons (pe_ix ix_seq (pv 8) pe_int (by intro _ _; rfl)) (pa_cons (pv 6) pa_nil))))) (pe_one (pe_callD (ok__law_same T) hr (by first | decide | omega) (by rfl) T.g__law_same pass0 (pa_cons (pe_callTy (c_listO T.m_Pile___len__ T.m_Pile___iter__ (ok_Pile___len__ T).raw (ok_Pile___iter__ T).raw (by rfl) (hr.mono (by decide))) (by rfl) T.n_list bb_list (pa_cons (pe_ix ix_seq (pv 8) pe_int (by intro _ _; rfl)) pa_nil)) (pa_cons (pv 6) pa_nil)))))))))))))))))))))))))))))), ?_⟩
    obtain ⟨a, ns, rfl, hq, hl, kk⟩ := h
    walk_at "st"
    walk_at "rd"
    refine ⟨a, ns, rfl, hq, hl, fun p c H1 hp1 c1 => ?_⟩
    walk_at "rd"
    refine ⟨p, c, rfl, hp1, fun lo ks cs H2 hL lok hp2 c2 => ?_⟩
    -- held
    obtain ⟨nl, kd, pl, kvs, ps, h1, h2, h3, h4, h5, h6, h7⟩ := id hL
    have hnp := (h7 p (by simp)).2.2.2
    walk_at "rd"
    refine fun D hD => ?_
    have hDo := hp2.off hD
    have hpsl : ps.length = cs.length := by rw [h6.length, List.length_map]
    have hcl := cs_len lok.co
    have hc : Cl K H2 pl cs ps := ⟨h4, h6⟩
    refine lcL ps hD (fun i acc H' => Ch [p] H2 H' ∧ Pl H' p c ∧ ∃ held : List Int, acc = held.map V.int ∧ held.length = i ∧ ∀ v ∈ held, 0 ≤ v ∧ v ≤ 999) (fun H' hD2 c2 => ⟨c2.any, hp2.ch0 c2, [], rfl, rfl, fun v hv => by cases hv⟩) (fun i acc H' _ hI => hI.1.sqL (SqL.of h4) (by simpa using hnp)) (fun i y acc H' hy hI hA => ?_) (fun acc H' hI hA => ?_)
    · obtain ⟨cc, hp3, held, rfl, rfl, hv⟩ := hI
      have hi : held.length < ps.length := (List.getElem?_eq_some_iff.mp hy).1
      obtain ⟨q, pa, hq, hpa, hsp⟩ := Cl.get hc hi
      have e : V.ref pa = y := Option.some.inj (hpa.symm.trans hy)
      subst e
      have hsp2 := cc.sqT hsp
      have hqs := (lok.cn q (List.mem_of_getElem? hq)).2
      walk_at "rd"
      refine use_draw hp3 (by omega) (by omega) fun z H3 hz0 hz1 hp4 c3 => ?_
      refine x_lcE (c3.get1 hA hDo.1) (by
        rw [List.length_map]
        have := szB
        omega) fun H5 h5 c5 => ?_
      refine ⟨Ch.drop (p := D) (((cc.seq c3).trans c5).mono fun b hb => by simpa [or_comm] using hb) hD, hp4.ch1 c5 hDo, held ++ [z], by rw [List.map_append]; rfl, by simp, fun v hv' => ?_⟩
      rcases List.mem_append.mp hv' with m | m
      · exact hv v m
      · rw [List.mem_singleton.mp m]
        omega
    obtain ⟨c23, hp3, held, rfl, hhl, hheld⟩ := hI
    have hhl' : held.length = cs.length := by omega
    walk_at "rd"
    refine x_tupL (SqL.of hA) fun s H3 hs0 hs c3 => ?_
    have hs3 : Hd K H3 s held := ⟨SqT.of hs⟩
    have c03 : Ch [p] H2 H3 := c23.nilR c3
    have hp4 := hp3.ch0 c3
    have hL3 := hL.ch c03 (fun _ h => h)
    walk_at "rd"
    -- actions
    refine use_draw hp4 (by omega) (by omega) fun n4 H4 hn40 hn41 hp5 c4 => ?_
    walk_at "rd"
    refine fun al hal => ?_
    have halo := hp5.off hal
    refine lcR hal (fun i acc H' => Ch [p] H4 H' ∧ Pl H' p c ∧ ∃ acts : List Act, DtA K H' acc (acts.map Act.d) ∧ acts.length = i ∧ ∀ x ∈ acts, OkAct (ks.map (·.1)) (cs.map (·.1)) 2 x) (fun H' hD2 c2 => ⟨c2.any, hp5.ch0 c2, [], .nil, rfl, fun v hv => by cases hv⟩) (fun i acc H' hi hI hA => ?_) (fun acc H' hI hA => ?_)
    · obtain ⟨cc, hp6, acts, hacc, rfl, hok⟩ := hI
      have hL6 := (hL3.ch c4 (fun _ h => h)).ch cc (fun _ h => h)
      walk_at "rd"
      refine ⟨p, c, lo, [p], ks, cs, rfl, Nat.le_refl _, hp6, List.mem_singleton.mpr rfl, hL6, lok, fun v x H7 hv hx hp7 c7 => ?_⟩
      refine x_lcE (c7.get1 hA halo.1) (by
        rw [hacc.length, List.length_map]
        have := szB
        omega) fun H5 h5 c5 => ?_
      refine ⟨Ch.drop (p := al) (((cc.seq c7).trans c5).mono fun b hb => by simpa [or_comm] using hb) hal, hp7.ch1 c5 halo, acts ++ [x], ?_, by simp, fun y hy => ?_⟩
      · rw [List.map_append]
        exact ((hacc.ch c7).ch c5).append (.cons (hv.ch c5) .nil)
      · rcases List.mem_append.mp hy with m | m
        · exact hok y m
        · rw [List.mem_singleton.mp m]
          exact hx
    obtain ⟨c5, hp6, acts, hacc, hal4, hok⟩ := hI
    have hal6 : acts.length ≤ 6 := by omega
    have c45 : Ch [p] H3 H' := c4.seq c5
    have hs5 := hs3.ch c45
    have F5 : Fw K H' [] p c lo ks cs [(al, acc)] [] := ⟨hp6, (hL3.ch c45 (fun _ h => h)), by simp, fun q hq => by
      rw [List.mem_singleton.mp hq]
      exact ⟨hA, halo.1, fun r hr => by cases hr⟩, (fun r hr => by cases hr), List.nodup_nil, List.nodup_nil⟩
    walk_at "rd"
    -- the stack
    refine nL fun st0 H6 hst0 hst1 c6 => ?_
    walk_at "rd"
    have F6 := F5.push c6 hst0 hst1
    obtain ⟨nl6, kd6, pl6, kvs6, ps6, g1, g2, g3, g4, g5, g6, g7⟩ := F6.lr1
    have hacc6 := hacc.ch c6
    have hs6 := hs5.ch c6
    refine goL acc (fun i σ H7 => ∃ (st : Addr) (sxs : List V) (o : Option V), Ch [] H6 H7 ∧ σ = [some (.ref a), some (.ref p), some (.ref lo), some (.ref s), none, some (.ref al), some (.ref st), o, none, none, none, none, none, none, none, none, none, none, none, none, none] ∧ Fw K H7 [] p c lo ks cs [(st, sxs), (al, acc)] [] ∧ DtA K H7 sxs (((acts.take i).flatMap (se cs held)).map Act.d)) ⟨st0, [], none, Ch.refl _, rfl, F6, .nil⟩ (fun i σ H7 _ hI => ?_) (fun i y σ H7 hy hI => ?_) (fun σ H7 hI => ?_)
    · obtain ⟨st, sxs, o, c7, rfl, F7, hsx⟩ := hI
      exact SqL.of (F7.get (a := al) (by simp))
    · obtain ⟨st, sxs, o, c7, rfl, F7, hsx⟩ := hI
      obtain ⟨d, hd, hyd⟩ := hacc6.get hy
      obtain ⟨x, hx, rfl⟩ : ∃ x, acts[i]? = some x ∧ d = x.d := by
        rw [List.getElem?_map] at hd
        cases e : acts[i]? with
        | none => rw [e] at hd; cases hd
        | some f => rw [e] at hd; exact ⟨f, rfl, (Option.some.inj hd).symm⟩
      have hlt : i < acts.length := (List.getElem?_eq_some_iff.mp hx).1
      have hxm := List.mem_of_getElem? hx
      have g17 := c7.get0 g1
      have hst7 := F7.get (a := st) (xs := sxs) (by simp)
      walk_at "rd"
      refine ⟨y, x, pl6, s, ks, cs, ps6, held, rfl, ⟨c7.get0 g4, g6.ch c7⟩, lok.co, hyd.ch c7, (hok x hxm).ar, hs6.ch c7, hhl', fun t ts H8 ht ht8 hts c8 => ?_⟩
      have hsl := hsx.length
      have htl := hts.length
      rw [List.length_map] at hsl htl
      have q1 := flat_se_len cs held (acts.take i)
      have q2 := se_len cs held x
      have q3 : (acts.take i).length ≤ 6 := by rw [List.length_take]; omega
      refine x_addL (c8.get0 hst7) ht8 (by have := szB; omega) fun st2 H9 hst2 hst9 c9 => ?_
      walk_at "rd"
      refine ⟨st2, _, _, (c7.nilL c8).nilR c9, rfl, ((F7.ch0 c8).push c9 hst2 hst9).drop2, ?_⟩
      rw [take_snoc hx, List.flatMap_append, List.flatMap_singleton, List.map_append]
      exact ((hsx.ch c8).append hts).ch c9
    obtain ⟨st, sxs, o7, c7, rfl, F7, hsx⟩ := hI
    have haccl : acc.length = acts.length := by rw [hacc.length, List.length_map]
    rw [haccl, List.take_length] at hsx
    have hfh := full_hva (ks := ks) hheld hok
    have hfm := full_mL hheld hok hal6
    have hfl : (acts.flatMap (se cs held)).length ≤ 12 := by have := flat_se_len cs held acts; omega
    have hacc7 := hacc6.ch c7
    have hs7 := hs6.ch c7
    walk_at "rd"
    -- five piles
    have hst7 := F7.get (a := st) (xs := sxs) (by simp)
    have hal7 := F7.get (a := al) (xs := acc) (by simp)
    refine fun pl hpl => ?_
    have hplne : st ≠ pl ∧ al ≠ pl := ⟨ne_of_none hst7 hpl, ne_of_none hal7 hpl⟩
    refine lcR hpl (fun i acc8 H8 => Ch [] H7 H8 ∧ ∃ L, Fw K H8 [pl] p c lo ks cs [(pl, acc8), (st, sxs), (al, acc)] L ∧ L.length = i ∧ acc8 = L.map (fun r => V.ref r.p) ∧ ∀ r ∈ L, r.m = 100 ∧ r.stk = []) (fun H8 hD2 c8 => ⟨c8, [], F7.pushX c8 hpl hD2, rfl, rfl, fun r hr => by cases hr⟩) (fun i acc8 H8 hi hI hA => ?_) (fun acc8 H8 hI hA => ?_)
    · obtain ⟨c8, L, F8, rfl, rfl, hLm⟩ := hI
      walk_at "rd"
      refine ⟨lo, [p], ks, cs, rfl, F8.lr1, lok, fun b H9 kvs9 svs9 hb hB9 hk9 hs9 c9 => ?_⟩
      walk_at "rd"
      refine nO fun u du H10 hu hu10 c10 => ?_
      refine ⟨u, du, b, ks, cs, kvs9, svs9, rfl, hu10, (Bo.mk hB9 hk9 hs9).ch0 c10, fun b' l' H11 hl' hu11 hl11 hB11 c11 => ⟨rfl, ?_⟩⟩
      have c911 : Ch [] H9 H11 := (c10.nilL c11).drop hu
      have c811 : Ch [] H8 H11 := c9.nilL c911
      have F11 := F8.add (u := ⟨u, l', b', 100, [], kvs9, svs9⟩) c811 ⟨⟨_, hu11⟩, ⟨_, hl11, .nil⟩, hB11⟩ (c9.free0 hu) ((c9.nilL c10).free0 hl')
      have F11' := F11.perm (L' := L ++ [⟨u, l', b', 100, [], kvs9, svs9⟩]) (List.perm_append_singleton _ L).symm
      refine x_lcE (c811.get0 hA) (by rw [List.length_map]; have := szB; omega) fun H12 h12 c12 => ?_
      refine ⟨(c8.nilL (c811.nilL c12)).drop hpl, L ++ [⟨u, l', b', 100, [], kvs9, svs9⟩], F11'.grow c12 (by rw [h12]) (fun q hq => ?_), by rw [List.length_append]; rfl, by rw [List.map_append]; rfl, fun r hr => ?_⟩
      · rcases List.mem_cons.mp hq with e | hq
        · rw [e]; exact hplne.1
        · rw [List.mem_singleton.mp hq]; exact hplne.2
      · rcases List.mem_append.mp hr with m | m
        · exact hLm r m
        · rw [List.mem_singleton.mp m]; exact ⟨rfl, rfl⟩
    obtain ⟨c8, L, F8, hL5, rfl, hLm⟩ := hI
    have F8' := F8.unX
    have hacc8 := hacc7.ch c8
    have hs8 := hs7.ch c8
    have hsx8 := hsx.ch c8
    walk_at "rd"
    -- filled
    refine goL (L.map fun r => V.ref r.p) (fun i σ H9 => ∃ (L9 : List PR) (o : Option V), Ch (L.map PR.l) H8 H9 ∧ σ = [some (.ref a), some (.ref p), some (.ref lo), some (.ref s), none, some (.ref al), some (.ref st), o7, some (.ref pl), o, none, none, none, none, none, none, none, none, none, none, none] ∧ Fw K H9 [] p c lo ks cs [(pl, L.map fun r => V.ref r.p), (st, sxs), (al, acc)] L9 ∧ L9.map PR.p = L.map PR.p ∧ L9.map PR.l = L.map PR.l ∧ (∀ j r, L9[j]? = some r → r.m = 100 ∧ r.stk = if j < i then acts.flatMap (se cs held) else [])) ⟨L, none, (Ch.refl _).any, rfl, F8', rfl, rfl, fun j r hr => by
      rw [if_neg (by omega)]
      exact hLm r (List.mem_of_getElem? hr)⟩ (fun i σ H9 _ hI => ?_) (fun i y σ H9 hy hI => ?_) (fun σ H9 hI => ?_)
    · obtain ⟨L9, o, c9, rfl, F9, _⟩ := hI
      exact SqL.of (F9.get (a := pl) (by simp))
    · obtain ⟨L9, o, c9, rfl, F9, hp9, hl9, hm9⟩ := hI
      obtain ⟨r, hr, rfl⟩ : ∃ r, L9[i]? = some r ∧ y = .ref r.p := by
        have e : (L9.map PR.p)[i]? = (L.map PR.p)[i]? := by rw [hp9]
        rw [List.getElem?_map, List.getElem?_map] at e
        rw [List.getElem?_map] at hy
        cases q : L[i]? with
        | none => rw [q] at hy; cases hy
        | some f =>
          rw [q] at hy e
          cases q2 : L9[i]? with
          | none => rw [q2] at e; cases e
          | some f2 =>
            rw [q2] at e
            exact ⟨f2, rfl, by rw [← Option.some.inj hy, Option.some.inj e]⟩
      obtain ⟨hlt, hre⟩ := List.getElem?_eq_some_iff.mp hr
      have hsplit : L9 = L9.take i ++ r :: L9.drop (i + 1) := by
        rw [← hre, ← List.drop_eq_getElem_cons hlt, List.take_append_drop]
      have F9' : Fw K H9 [] p c lo ks cs [(pl, L.map fun r => V.ref r.p), (st, sxs), (al, acc)] (r :: (L9.take i ++ L9.drop (i + 1))) := (hsplit ▸ F9).perm List.perm_middle
      obtain ⟨hrm, hrs⟩ := hm9 i r hr
      rw [if_neg (by omega)] at hrs
      obtain ⟨hPr, hrlp, hrlc⟩ := F9'.pr r List.mem_cons_self
      have hPi : Pi K H9 ks cs r.kvs r.svs r.p r.l r.b r.m [] := hrs ▸ hPr
      have hal9 := F9.ls (al, acc) (by simp)
      walk_at "rd"
      refine ⟨r.p, r.l, r.b, s, al, acc, r.m, acts, [], ks, cs, r.kvs, r.svs, held, rfl, lok, hPi, hal9.1, hal9.2.2 r (List.mem_of_getElem? hr), hacc8.ch c9, hok, hs8.ch c9, hhl', by rw [hrm, List.length_nil]; omega, by rw [hrm]; decide, fun H10 hP10 c10 => ?_⟩
      walk_at "rd"
      have F10 := F9'.one (r' := ⟨r.p, r.l, r.b, r.m, acts.flatMap (se cs held), r.kvs, r.svs⟩) (c10.mono (by simp)) rfl hP10 (.inl rfl)
      have F10' := F10.perm (List.perm_middle (l₁ := L9.take i) (l₂ := L9.drop (i + 1))).symm
      have hset : L9.set i ⟨r.p, r.l, r.b, r.m, acts.flatMap (se cs held), r.kvs, r.svs⟩ = L9.take i ++ ⟨r.p, r.l, r.b, r.m, acts.flatMap (se cs held), r.kvs, r.svs⟩ :: L9.drop (i + 1) := List.set_eq_take_append_cons_drop.trans (if_pos hlt)
      have hrl : r.l ∈ L.map PR.l := by rw [← hl9]; exact List.mem_map.mpr ⟨r, List.mem_of_getElem? hr, rfl⟩
      refine ⟨_, _, c9.seq (c10.mono fun x hx => by rw [List.mem_singleton.mp hx]; exact hrl), rfl, F10', ?_, ?_, fun j r2 hj => ?_⟩
      · rw [← hset, map_set_same (r' := ⟨r.p, r.l, r.b, r.m, acts.flatMap (se cs held), r.kvs, r.svs⟩) PR.p hr rfl, hp9]
      · rw [← hset, map_set_same (r' := ⟨r.p, r.l, r.b, r.m, acts.flatMap (se cs held), r.kvs, r.svs⟩) PR.l hr rfl, hl9]
      · rw [← hset, List.getElem?_set] at hj
        by_cases hji : i = j
        · subst hji
          rw [if_pos rfl, if_pos hlt] at hj
          cases hj
          exact ⟨hrm, by rw [if_pos (Nat.lt_succ_self _)]⟩
        · rw [if_neg hji] at hj
          obtain ⟨q1, q2⟩ := hm9 j r2 hj
          refine ⟨q1, ?_⟩
          rw [q2]
          by_cases h1 : j < i
          · rw [if_pos h1, if_pos (by omega)]
          · rw [if_neg h1, if_neg (by omega)]
    obtain ⟨L9, o9, c9, rfl, F9, hp9, hl9, hm9⟩ := hI
    have hL9 : L9.length = 5 := by
      have := congrArg List.length hp9
      rw [List.length_map, List.length_map] at this
      omega
    rw [List.length_map, hL5] at hm9
    generalize hfull : acts.flatMap (se cs held) = full at hm9 hsx8 hfh hfm hfl
    obtain ⟨r0, r1, r2, r3, r4, rfl⟩ := list5 hL9
    have hr0 := hm9 0 r0 rfl
    have hr1 := hm9 1 r1 rfl
    have hr2 := hm9 2 r2 rfl
    have hr3 := hm9 3 r3 rfl
    have hr4 := hm9 4 r4 rfl
    rw [if_pos (by decide)] at hr0 hr1 hr2 hr3 hr4
    have hplv : (L.map fun r => V.ref r.p) = [V.ref r0.p, .ref r1.p, .ref r2.p, .ref r3.p, .ref r4.p] := by
      have : (L.map fun r => V.ref r.p) = (L.map PR.p).map V.ref := by rw [List.map_map]; rfl
      rw [this, ← hp9]
      rfl
    rw [hplv] at F9
    have hacc9 := hacc8.ch c9
    have hs9 := hs8.ch c9
    have hsx9 := hsx8.ch c9
    clear hm9 hL9 hplv hp9 hl9 hLm hL5 F8 F8'
    have hsxl : sxs.length = full.length := by rw [hsx9.length, List.length_map]
    have hst9 := F9.get (a := st) (xs := sxs) (by simp)
    walk_at "rd"
    -- the limit
    refine use_draw F9.pl (by omega) (by omega) fun dl H10 hdl0 hdl1 hp10 c10 => ?_
    have F10 := F9.pool c10 hp10
    have hpl10 := F10.get (a := pl) (xs := [V.ref r0.p, .ref r1.p, .ref r2.p, .ref r3.p, .ref r4.p]) (by simp)
    have hPr0 := (F10.pr r0 (by simp)).1
    obtain ⟨⟨dx0, e0⟩, ⟨ys0, e1, e2⟩, e3⟩ := id hPr0
    have hys0 : ys0.length = full.length := by rw [e2.length, List.length_map, hr0.2]
    walk_at "rd"
    refine x_objM e0 rfl ?_
    walk_at "rd"
    refine ⟨r0.p, dx0, r0.b, r0.l, r0.m, (sxs.length : Int) + dl, ys0, rfl, e0, e1, by omega, by omega, fun H11 e4 c11 => ?_⟩
    generalize hlim : (sxs.length : Int) + dl = lim at e4
    have hlim9 : (full.length : Int) ≤ lim ∧ lim ≤ 999 := by omega
    have F11 := F10.one (r' := ⟨r0.p, r0.l, r0.b, lim, r0.stk, r0.kvs, r0.svs⟩) (c11.mono (by simp)) rfl ⟨⟨dx0, e4⟩, ⟨ys0, c11.get1 e1 (ne_of e1 e0 (by simp)), e2.ch c11⟩, e3.ch c11 (nbs_ins e0 rfl)⟩ (.inl rfl)
    have hacc11 := (hacc9.ch c10).ch c11
    have hs11 := (hs9.ch c10).ch c11
    have hsx11 := (hsx9.ch c10).ch c11
    have hst11 := F11.get (a := st) (xs := sxs) (by simp)
    walk_at "rd"
    refine nL fun pa0 H12 hpa0 hpa1 c12 => ?_
    have F12 := F11.push c12 hpa0 hpa1
    walk_at "rd"
    refine nL fun pb0 H13 hpb0 hpb1 c13 => ?_
    have F13 := F12.push c13 hpb0 hpb1
    have hst13 := F13.get (a := st) (xs := sxs) (by simp)
    have hacc13 := (hacc11.ch c12).ch c13
    have hs13 := (hs11.ch c12).ch c13
    have hsx13 := (hsx11.ch c12).ch c13
    walk_at "rd"
    refine use_draw F13.pl (by omega) (by omega) fun nk H14 hnk0 hnk1 hp14 c14 => ?_
    have F14 := F13.pool c14 hp14
    have hacc14 := hacc13.ch c14
    have hs14 := hs13.ch c14
    have hsx14 := hsx13.ch c14
    walk_at "rd"
    -- cut
    refine goR (fun i σ H' => ∃ (S : List Addr) (pa pb : Addr) (parts pieces : List PR) (R0 R3 : PR) (av : Nat) (o4 : Option V), Ch S H14 H' ∧ σ = [some (.ref a), some (.ref p), some (.ref lo), some (.ref s), o4, some (.ref al), some (.ref st), o7, some (.ref pl), o9, some (.int lim), some (.ref pa), some (.ref pb), some (.int (av : Nat)), none, none, none, none, none, none, none] ∧ Fw K H' [] p c lo ks cs [(pb, pieces.map fun r => V.ref r.p), (pa, parts.map fun r => V.ref r.p), (pl, [V.ref r0.p, .ref r1.p, .ref r2.p, .ref r3.p, .ref r4.p]), (st, sxs), (al, acc)] (R0 :: R3 :: (parts ++ (pieces ++ [r1, r2, r4]))) ∧ R0.p = r0.p ∧ R3.p = r3.p ∧ R0.m = lim ∧ R3.m = 100 ∧ (∀ r ∈ parts, r.m = lim) ∧ (∀ r ∈ pieces, r.m = 100 ∧ r.kvs = R3.kvs ∧ r.svs = R3.svs) ∧ R0.stk.length = av ∧ R3.stk.length = av ∧ R0.stk ++ tot parts = full ∧ R3.stk ++ tot pieces = full ∧ parts.length = i ∧ pieces.length = i)
      ⟨[], pa0, pb0, [], [], ⟨r0.p, r0.l, r0.b, lim, r0.stk, r0.kvs, r0.svs⟩, r3, full.length, none, Ch.refl _, by rw [hsxl], F14.perm (List.Perm.cons _ (List.perm_middle (l₁ := [r1, r2]) (l₂ := [r4]))), rfl, rfl, rfl, hr3.1, (fun r hr => by cases hr), (fun r hr => by cases hr), by rw [hr0.2], by rw [hr3.2], by show r0.stk ++ [] = full; rw [List.append_nil]; exact hr0.2, by show r3.stk ++ [] = full; rw [List.append_nil]; exact hr3.2, rfl, rfl⟩ (fun i σ H' hi hI => ?_) (fun σ H' hI => ?_)
    · obtain ⟨S, pa, pb, parts, pieces, R0, R3, av, o4, cS, rfl, F, e0, e3, m0, m3, mp, mq, l0, l3, t0, t3, hlp, hlq⟩ := hI
      have hav : av ≤ 12 := by
        have := congrArg List.length t0
        rw [List.length_append] at this
        omega
      walk_at "rd"
      refine use_draw F.pl (by omega) (by omega) fun d H15 hd0 hd1 hp15 c15 => ?_
      obtain ⟨k, rfl⟩ : ∃ k : Nat, d = (k : Int) := ⟨d.toNat, by omega⟩
      have F15 := F.pool c15 hp15
      have hpl15 := F15.get (a := pl) (xs := [V.ref r0.p, .ref r1.p, .ref r2.p, .ref r3.p, .ref r4.p]) (by simp)
      have hP0 : Pi K H15 ks cs R0.kvs R0.svs r0.p R0.l R0.b lim R0.stk := by
        have := (F15.pr R0 (by simp)).1
        unfold Pr at this
        rw [e0, m0] at this
        exact this
      obtain ⟨⟨dx, q0⟩, _, _⟩ := id hP0
      walk_at "rd"
      refine x_objM q0 rfl ?_
      walk_at "rd"
      refine ⟨r0.p, R0.l, R0.b, lim, k, R0.stk, ks, cs, R0.kvs, R0.svs, rfl, by omega, hP0, fun u lu bu l' H16 hu hlu hl' hne hU hP0' c16 => ?_⟩
      have F16 := (F15.cut (r' := ⟨r0.p, l', R0.b, lim, R0.stk.take k, R0.kvs, R0.svs⟩) (u := ⟨u, lu, bu, lim, R0.stk.drop k, R0.kvs, R0.svs⟩) (by rw [e0]; exact c16) e0.symm hP0' hl' hU hu hlu hne).perm (perm_cut _ _ _ parts (pieces ++ [r1, r2, r4]))
      walk_at "rd"
      refine nL fun tl H17 htl htl1 c17 => ?_
      have F17 := F16.ch0 c17
      have hpa17 := F17.get (a := pa) (xs := parts.map fun r => V.ref r.p) (by simp)
      refine x_addL hpa17 htl1 (by rw [List.length_map]; have := szB; simp only [List.length_cons, List.length_nil]; omega) fun pa2 H18 hpa2 hpa18 c18 => ?_
      have F18 : Fw K H18 [] p c lo ks cs [(pb, pieces.map fun r => V.ref r.p), (pa2, (parts ++ [PR.mk u lu bu lim (R0.stk.drop k) R0.kvs R0.svs]).map fun r => V.ref r.p), (pl, [V.ref r0.p, .ref r1.p, .ref r2.p, .ref r3.p, .ref r4.p]), (st, sxs), (al, acc)] _ := (F17.push (a := pa2) (xs := (parts ++ [PR.mk u lu bu lim (R0.stk.drop k) R0.kvs R0.svs]).map fun r => V.ref r.p) c18 hpa2 (by rw [hpa18, List.map_append]; rfl)).lsub fun q hq => by
        simp only [List.mem_cons, List.not_mem_nil, or_false] at hq ⊢
        rcases hq with h | h | h | h | h <;> simp [h]
      have hpl18 := F18.get (a := pl) (xs := [V.ref r0.p, .ref r1.p, .ref r2.p, .ref r3.p, .ref r4.p]) (by simp)
      have hP3 : Pi K H18 ks cs R3.kvs R3.svs r3.p R3.l R3.b 100 R3.stk := by
        have := (F18.pr R3 (by simp)).1
        unfold Pr at this
        rw [e3, m3] at this
        exact this
      obtain ⟨⟨dx3, q3⟩, _, _⟩ := id hP3
      walk_at "rd"
      refine x_objM q3 rfl ?_
      walk_at "rd"
      refine ⟨r3.p, R3.l, R3.b, 100, k, R3.stk, ks, cs, R3.kvs, R3.svs, rfl, by omega, hP3, fun u2 lu2 bu2 l2' H19 hu2 hlu2 hl2' hne2 hU2 hP3' c19 => ?_⟩
      have F19 := (F18.cut (r' := ⟨r3.p, l2', R3.b, 100, R3.stk.take k, R3.kvs, R3.svs⟩) (u := ⟨u2, lu2, bu2, 100, R3.stk.drop k, R3.kvs, R3.svs⟩) (by rw [e3]; exact c19) e3.symm hP3' hl2' hU2 hu2 hlu2 hne2).perm (perm_cut2 _ _ _ _ pieces [r1, r2, r4])
      walk_at "rd"
      refine nL fun tl2 H20 htl2 htl21 c20 => ?_
      have F20 := F19.ch0 c20
      have hpb20 := F20.get (a := pb) (xs := pieces.map fun r => V.ref r.p) (by simp)
      refine x_addL hpb20 htl21 (by rw [List.length_map]; have := szB; simp only [List.length_cons, List.length_nil]; omega) fun pb2 H21 hpb2 hpb21 c21 => ?_
      have F21 : Fw K H21 [] p c lo ks cs [(pb2, (pieces ++ [PR.mk u2 lu2 bu2 100 (R3.stk.drop k) R3.kvs R3.svs]).map fun r => V.ref r.p), (pa2, (parts ++ [PR.mk u lu bu lim (R0.stk.drop k) R0.kvs R0.svs]).map fun r => V.ref r.p), (pl, [V.ref r0.p, .ref r1.p, .ref r2.p, .ref r3.p, .ref r4.p]), (st, sxs), (al, acc)] _ := (F20.push (a := pb2) (xs := (pieces ++ [PR.mk u2 lu2 bu2 100 (R3.stk.drop k) R3.kvs R3.svs]).map fun r => V.ref r.p) c21 hpb2 (by rw [hpb21, List.map_append]; rfl)).drop2
      walk_at "rd"
      refine ⟨_, pa2, pb2, parts ++ [PR.mk u lu bu lim (R0.stk.drop k) R0.kvs R0.svs], pieces ++ [PR.mk u2 lu2 bu2 100 (R3.stk.drop k) R3.kvs R3.svs], _, _, k, _, (((((((cS.trans c15).trans c16).trans c17).trans c18).trans c19).trans c20).trans c21), rfl, F21, rfl, rfl, rfl, rfl, fun r hr => ?_, fun r hr => ?_, ?_, ?_, ?_, ?_, by rw [List.length_append, hlp]; rfl, by rw [List.length_append, hlq]; rfl⟩
      · rcases List.mem_append.mp hr with m | m
        · exact mp r m
        · rw [List.mem_singleton.mp m]
      · rcases List.mem_append.mp hr with m | m
        · exact mq r m
        · rw [List.mem_singleton.mp m]
          exact ⟨rfl, rfl, rfl⟩
      · show (R0.stk.take k).length = k
        rw [List.length_take]
        omega
      · show (R3.stk.take k).length = k
        rw [List.length_take]
        omega
      · rw [tot_app]
        show R0.stk.take k ++ (([] ++ R0.stk.drop k) ++ tot parts) = full
        rw [List.nil_append, ← List.append_assoc, List.take_append_drop]
        exact t0
      · rw [tot_app]
        show R3.stk.take k ++ (([] ++ R3.stk.drop k) ++ tot pieces) = full
        rw [List.nil_append, ← List.append_assoc, List.take_append_drop]
        exact t3
    obtain ⟨S, pa, pb, parts, pieces, R0, R3, av, o4, cS, rfl, F, e0, e3, m0, m3, mp, mq, l0, l3, t0, t3, hlp, hlq⟩ := hI
    have haccF := hacc14.ch cS
    have hsF := hs14.ch cS
    have hsxF := hsx14.ch cS
    walk_at "rd"
    refine ⟨p, c, lo, [p], ks, cs, rfl, F.pl, List.mem_singleton.mpr rfl, F.lr1, lok, fun le s2 ev e held2 H22 hle hev hs2 hl2 hp22 c22 => ?_⟩
    have F22 := F.pool c22 hp22
    walk_at "rd"
    refine ⟨p, c, 24, rfl, by decide, hp22, fun an ans H23 han0 han hans hp23 c23 => ?_⟩
    have F23 := F22.pushP c23 hp23 han0 han
    obtain ⟨Ls, hLs⟩ : ∃ Ls : List (Addr × List V), Ls = [(an, ans.map bV), (pb, pieces.map fun r => V.ref r.p), (pa, parts.map fun r => V.ref r.p), (pl, [V.ref r0.p, .ref r1.p, .ref r2.p, .ref r3.p, .ref r4.p]), (st, sxs), (al, acc)] := ⟨_, rfl⟩
    rw [← hLs] at F23
    have man : (an, ans.map bV) ∈ Ls := by rw [hLs]; simp
    have mpb : (pb, pieces.map fun r => V.ref r.p) ∈ Ls := by rw [hLs]; simp
    have mpa : (pa, parts.map fun r => V.ref r.p) ∈ Ls := by rw [hLs]; simp
    have mpl : (pl, [V.ref r0.p, .ref r1.p, .ref r2.p, .ref r3.p, .ref r4.p]) ∈ Ls := by rw [hLs]; simp
    have mst : (st, sxs) ∈ Ls := by rw [hLs]; simp
    have mal : (al, acc) ∈ Ls := by rw [hLs]; simp
    clear hLs
    have hacc23 := (haccF.ch c22).ch c23
    have hs23 := (hsF.ch c22).ch c23
    have hsx23 := (hsxF.ch c22).ch c23
    have hle23 := c23.sqT hle
    have hev23 := hev.ch c23
    have hs223 := hs2.ch c23
    have hans' : ans.length ≤ 1000 := by omega
    have hlq3 : pieces.length ≤ 3 := by omega
    have hlp3 : parts.length ≤ 3 := by omega
    have hpbl : (pieces.map fun r => V.ref r.p).length ≤ 3 := by rw [List.length_map]; exact hlq3
    have hpm : ∀ r ∈ pieces, HvA ks cs r.stk ∧ r.stk.length ≤ 100000 := fun r hr => by
      have sub : ∀ x ∈ r.stk, x ∈ full := fun x hx => by
        rw [← t3]
        exact List.mem_append_right _ (mem_tot hr hx)
      refine ⟨hfh.sub sub, ?_⟩
      obtain ⟨j, hj⟩ := List.getElem?_of_mem hr
      have q1 := mL_le_of_mem hj
      have q2 := mL_app R3.stk (tot pieces)
      rw [t3] at q2
      have q3 := mL_len r.stk
      omega
    clear haccF hsF hsxF
    have hpb23 := F23.get mpb
    walk_at "rd"
    -- shapes
    refine fun sh hsh => ?_
    have hshne : ∀ q ∈ Ls, q.1 ≠ sh := fun q hq => ne_of_none (F23.ls q hq).1 hsh
    refine lcL (pieces.map fun r => V.ref r.p) hsh (fun i acc24 H' => Ch [] H23 H' ∧ Fw K H' [sh] p c lo ks cs ((sh, acc24) :: Ls) (R0 :: R3 :: (parts ++ (pieces ++ [r1, r2, r4]))) ∧ acc24.length = i ∧ ShOk K H' pieces sh acc24) (fun H' hD2 c24 => ⟨c24, F23.pushX c24 hsh hD2, rfl, fun j v hv => by simp at hv⟩) (fun i acc24 H' _ hI => SqL.of (hI.2.1.get (List.mem_cons_of_mem _ mpb))) (fun i y acc24 H' hy hI hA => ?_) (fun acc24 H' hI hA => ?_)
    · obtain ⟨c24, F24, rfl, hsk⟩ := hI
      obtain ⟨r, hr, rfl⟩ : ∃ r, pieces[acc24.length]? = some r ∧ y = .ref r.p := by
        rw [List.getElem?_map] at hy
        cases q : pieces[acc24.length]? with
        | none => rw [q] at hy; cases hy
        | some f => rw [q] at hy; exact ⟨f, rfl, (Option.some.inj hy).symm⟩
      have hrm := List.mem_of_getElem? hr
      have hPr := (F24.pr r (by simp [hrm])).1
      walk_at "rd"
      refine use_listP hPr fun t xs H25 ht ht25 hx c25 => ?_
      have hts : t ≠ sh := Ne.symm (ne_of_none hA ht)
      refine x_lcE (c25.get0 hA) (by
        have := (List.getElem?_eq_some_iff.mp hr).1
        have := szB
        omega) fun H26 h26 c26 => ?_
      exact ⟨(c24.nilL (c25.nilL c26)).drop hsh, (F24.ch0 c25).grow c26 h26 hshne, by simp, (hsk.ch0 c25).snoc c26 hr ht25 hx hts⟩
    obtain ⟨c24, F24, hshl, hsk⟩ := hI
    rw [List.length_map] at hshl
    have F24' := F24.unX
    clear F24
    have hacc24 := hacc23.ch c24
    have hs24 := hs23.ch c24
    have hsx24 := hsx23.ch c24
    have hle24 := c24.sqT hle23
    have hev24 := hev23.ch c24
    have hs224 := hs223.ch c24
    have hpl24 := F24'.get (List.mem_cons_of_mem _ mpl)
    have hpb24 := F24'.get (List.mem_cons_of_mem _ mpb)
    have hins3 : InsS H' [r3.p] := by
      have := (F24'.pr R3 (by simp)).1.ins
      rw [e3] at this
      exact this
    walk_at "rd"
    -- laid again
    refine goR (fun i σ H25 => ∃ (R : PR) (o4 : Option V), Ch [r3.p] H' H25 ∧ σ = [some (.ref a), some (.ref p), some (.ref lo), some (.ref s), o4, some (.ref al), some (.ref st), o7, some (.ref pl), o9, some (.int lim), some (.ref pa), some (.ref pb), some (.int (av : Nat)), some (.ref le), some (.ref an), some (.ref sh), some (.ref r3.p), none, none, none] ∧ Fw K H25 [] p c lo ks cs ((sh, acc24) :: Ls) (R :: R0 :: (parts ++ (pieces ++ [r1, r2, r4]))) ∧ R.p = r3.p ∧ R.m = 100 ∧ R.kvs = R3.kvs ∧ R.svs = R3.svs ∧ R.stk = R3.stk ++ tot (pieces.drop (pieces.length - i)))
      ⟨R3, _, (Ch.refl _).any, rfl, F24'.perm (List.Perm.swap _ _ _), e3, m3, rfl, rfl, by rw [Nat.sub_zero, List.drop_length]; show R3.stk = R3.stk ++ []; rw [List.append_nil]⟩ (fun i σ H25 hi hI => ?_) (fun σ H25 hI => ?_)
    · obtain ⟨R, o4', c25, rfl, F25, eR, mR, kR, vR, tR⟩ := hI
      have hi' : i < pieces.length := by rw [List.length_map] at hi; omega
      obtain ⟨r, hr⟩ : ∃ r, pieces[pieces.length - 1 - i]? = some r := ⟨_, List.getElem?_eq_getElem (by omega)⟩
      have hrm := List.mem_of_getElem? hr
      obtain ⟨mr, kr, vr⟩ := mq r hrm
      have hPR : Pi K H25 ks cs R3.kvs R3.svs r3.p R.l R.b 100 R.stk := by
        have := (F25.pr R (by simp)).1
        unfold Pr at this
        rw [eR, mR, kR, vR] at this
        exact this
      have hPr : Pi K H25 ks cs R3.kvs R3.svs r.p r.l r.b r.m r.stk := by
        have := (F25.pr r (by simp [hrm])).1
        unfold Pr at this
        rw [kr, vr] at this
        exact this
      have hpb25 := F25.get (List.mem_cons_of_mem _ mpb)
      obtain ⟨⟨dx3, q3⟩, _, _⟩ := id hPR
      have htd := tot_drop hr
      rw [show pieces.length - 1 - i + 1 = pieces.length - i by omega] at htd
      have hsz : R.stk.length + r.stk.length ≤ 12 := by
        obtain ⟨up, hup⟩ := tot_pre pieces (pieces.length - 1 - i)
        have q := congrArg List.length t3
        rw [hup, htd] at q
        rw [tR]
        simp only [List.length_append] at q ⊢
        omega
      walk_at "rd"
      refine x_objM q3 rfl ?_
      walk_at "rd"
      refine x_ixL (k := pieces.length - 1 - i) (v := .ref r.p) (SqL.of hpb25) (by rw [List.length_map]; omega) (by rw [List.getElem?_map, hr]; rfl) ?_
      walk_at "rd"
      refine ⟨r3.p, R.l, R.b, r.p, r.l, r.b, 100, r.m, R.stk, r.stk, ks, cs, R3.kvs, R3.svs, rfl, lok, hPR, hPr, by omega, by decide, fun l' H26 hl' hP' c26 => ?_⟩
      walk_at "rd"
      refine ⟨⟨r3.p, l', R.b, 100, R.stk ++ r.stk, R3.kvs, R3.svs⟩, _, c25.seq c26, rfl, F25.one (by rw [eR]; exact c26.mono (by simp)) eR.symm hP' (.inr hl'), rfl, rfl, rfl, rfl, ?_⟩
      show R.stk ++ r.stk = _
      rw [tR, show pieces.length - (i + 1) = pieces.length - 1 - i by omega, htd, List.append_assoc]
    obtain ⟨R, o4', c25, rfl, F25, eR, mR, kR, vR, tR⟩ := hI
    have hRfull : R.stk = full := by
      rw [tR, show pieces.length - (((pieces.map fun r => V.ref r.p).length : Nat) : Int).toNat = 0 by rw [List.length_map]; omega, List.drop_zero]
      exact t3
    have hsk25 := hsk.ins c25 hins3
    have hacc25 := hacc24.ch c25
    have hs25 := hs24.ch c25
    have hsx25 := hsx24.ch c25
    have hle25 := c25.sqT hle24
    have hev25 := hev24.ch c25
    have hs225 := hs224.ch c25
    have hpb25 := F25.get (List.mem_cons_of_mem _ mpb)
    have hsh25 := F25.get (a := sh) (xs := acc24) List.mem_cons_self
    walk_at "rd"
    -- the shapes once more
    refine fun sh2 hsh2 => ?_
    refine lcL (pieces.map fun r => V.ref r.p) hsh2 (fun i acc26 H' => Ch [] H25 H' ∧ acc26.length = i ∧ ShOk K H' pieces sh2 acc26) (fun H' hD2 c26 => ⟨c26, rfl, fun j v hv => by simp at hv⟩) (fun i acc26 H' _ hI => SqL.of (hI.1.get0 hpb25)) (fun i y acc26 H' hy hI hA => ?_) (fun acc26 H26 hI hA => ?_)
    · obtain ⟨c26, rfl, hsk26⟩ := hI
      obtain ⟨r, hr, rfl⟩ : ∃ r, pieces[acc26.length]? = some r ∧ y = .ref r.p := by
        rw [List.getElem?_map] at hy
        cases q : pieces[acc26.length]? with
        | none => rw [q] at hy; cases hy
        | some f => rw [q] at hy; exact ⟨f, rfl, (Option.some.inj hy).symm⟩
      have hrm := List.mem_of_getElem? hr
      have hPr : Pr K H' ks cs r := Pi.ch0 (F25.pr r (by simp [hrm])).1 c26
      walk_at "rd"
      refine use_listP hPr fun t xs H27 ht ht27 hx c27 => ?_
      have hts : t ≠ sh2 := Ne.symm (ne_of_none hA ht)
      refine x_lcE (c27.get0 hA) (by
        have := (List.getElem?_eq_some_iff.mp hr).1
        have := szB
        omega) fun H28 h28 c28 => ?_
      exact ⟨(c26.nilL (c27.nilL c28)).drop hsh2, by simp, (hsk26.ch0 c27).snoc c28 hr ht27 hx hts⟩
    obtain ⟨c26, hl26, hsk26⟩ := hI
    rw [List.length_map] at hl26
    have F26 := F25.ch0 c26
    walk_at "rd"
    refine use_same (n := 8) (hsk26.same (hsk25.ch0 c26) hA (c26.get0 hsh25) (by omega) (by omega) hpm) (Nat.le_refl _) ?_
    have hPR26 : Pi K H26 ks cs R.kvs R.svs r3.p R.l R.b R.m full := by
      have := (F26.pr R (by simp)).1
      unfold Pr at this
      rw [eR, hRfull] at this
      exact this
    have hsk0 : full.length ≤ 100000 := by omega
    walk_at "rd"
    refine use_listP hPR26 fun lt lxs H27 hlt hlt27 hlx c27 => ?_
    have F27 := F26.ch0 c27
    have hst27 := F27.get (List.mem_cons_of_mem _ mst)
    walk_at "rd"
    refine use_same (n := 7) (Sm.lst hlt27 hst27 hlx ((hsx25.ch c26).ch c27) (hva_sd hfh) (by rw [List.length_map]; exact hsk0)) (by decide) ?_
    have hpl27 := F27.get (List.mem_cons_of_mem _ mpl)
    walk_at "rd"
    -- the limits
    refine nL fun tl H28 htl htl1 c28 => ?_
    have F28 := F27.ch0 c28
    refine x_addL (F28.get (List.mem_cons_of_mem _ mpa)) htl1 (by rw [List.length_map]; have := szB; simp only [List.length_cons, List.length_nil]; omega) fun pp H29 hpp hpp1 c29 => ?_
    have F29 := F28.ch0 c29
    have hrow : (parts.map fun r => V.ref r.p) ++ [V.ref r0.p] = (parts ++ [R0]).map fun r => V.ref r.p := by rw [List.map_append, ← e0]; rfl
    rw [hrow] at hpp1
    walk_at "rd"
    refine goL ((parts ++ [R0]).map fun r => V.ref r.p) (fun i σ H' => H' = H29 ∧ ∃ o9', σ = [some (.ref a), some (.ref p), some (.ref lo), some (.ref s), o4', some (.ref al), some (.ref st), o7, some (.ref pl), o9', some (.int lim), some (.ref pa), some (.ref pb), some (.int (av : Nat)), some (.ref le), some (.ref an), some (.ref sh), some (.ref r3.p), none, none, none]) ⟨rfl, _, rfl⟩ (fun i σ H' _ hI => by rw [hI.1]; exact SqL.of hpp1) (fun i y σ H' hy hI => ?_) (fun σ H' hI => ?_)
    · obtain ⟨rfl, o9', rfl⟩ := hI
      obtain ⟨r, hr, rfl⟩ : ∃ r, r ∈ parts ++ [R0] ∧ y = .ref r.p := by
        rw [List.getElem?_map] at hy
        cases q : (parts ++ [R0])[i]? with
        | none => rw [q] at hy; cases hy
        | some f => rw [q] at hy; exact ⟨f, List.mem_of_getElem? q, (Option.some.inj hy).symm⟩
      have hrl : r.m = lim := by
        rcases List.mem_append.mp hr with m | m
        · exact mp r m
        · rw [List.mem_singleton.mp m]
          exact m0
      obtain ⟨⟨dr, hr1⟩, _⟩ := (F29.pr r (by
        rcases List.mem_append.mp hr with m | m
        · simp [m]
        · rw [List.mem_singleton.mp m]; simp)).1.at_
      walk_at "rd"
      refine x_obj hr1 ?_
      refine ⟨r.p, dr, r.b, r.l, r.m, rfl, hr1, ?_⟩
      rw [hrl]
      walk_at "rd"
      refine use_same (n := 0) (Sm.atm (.inr (.inr (.inl ⟨_, rfl⟩)))) (by decide) ?_
      walk_at "rd"
      exact ⟨rfl, _, rfl⟩
    obtain ⟨rfl, o9', rfl⟩ := hI
    have c2529 : Ch [] H25 H' := ((c26.nilL c27).nilL c28).nilL c29
    have hpl29 := F29.get (List.mem_cons_of_mem _ mpl)
    walk_at "rd"
    -- the rows
    refine nL fun tl2 H30 htl2 htl21 c30 => ?_
    have F30 := F29.ch0 c30
    refine x_addL (F30.get (List.mem_cons_of_mem _ mpa)) htl21 (by rw [List.length_map]; have := szB; simp only [List.length_cons, List.length_nil]; omega) fun q1 H31 hq1 hq11 c31 => ?_
    rw [hrow] at hq11
    have F31 := F30.push c31 hq1 hq11
    have hpl31 := F31.get (List.mem_cons_of_mem _ (List.mem_cons_of_mem _ mpl))
    walk_at "rd"
    refine nL fun q2 H32 hq2 hq21 c32 => ?_
    have F32 := F31.push c32 hq2 hq21
    walk_at "rd"
    refine nL fun q3 H33 hq3 hq31 c33 => ?_
    have F33 := F32.push c33 hq3 hq31
    walk_at "rd"
    refine nL fun qq H34 hqq hqq1 c34 => ?_
    have F34 := F33.push c34 hqq hqq1
    obtain ⟨Lz, hLz⟩ : ∃ Lz : List (Addr × List V), Lz = [(qq, [V.ref q1, .ref q2, .ref q3]), (q3, [V.ref r3.p]), (q2, [V.ref r1.p]), (q1, (parts ++ [R0]).map fun r => V.ref r.p), (an, ans.map bV), (pl, [V.ref r0.p, .ref r1.p, .ref r2.p, .ref r3.p, .ref r4.p]), (st, sxs), (al, acc)] := ⟨_, rfl⟩
    have G34 : Fw K H34 [] p c lo ks cs Lz (R :: R0 :: (parts ++ (pieces ++ [r1, r2, r4]))) := F34.lsub fun q hq => by
      rw [hLz] at hq
      simp only [List.mem_cons, List.not_mem_nil, or_false] at hq ⊢
      rcases hq with h | h | h | h | h | h | h | h
      · exact .inl h
      · exact .inr (.inl h)
      · exact .inr (.inr (.inl h))
      · exact .inr (.inr (.inr (.inl h)))
      · rw [h]; exact .inr (.inr (.inr (.inr (.inr man))))
      · rw [h]; exact .inr (.inr (.inr (.inr (.inr mpl))))
      · rw [h]; exact .inr (.inr (.inr (.inr (.inr mst))))
      · rw [h]; exact .inr (.inr (.inr (.inr (.inr mal))))
    have zq : (qq, [V.ref q1, .ref q2, .ref q3]) ∈ Lz := by rw [hLz]; simp
    have zq3 : (q3, [V.ref r3.p]) ∈ Lz := by rw [hLz]; simp
    have zq2 : (q2, [V.ref r1.p]) ∈ Lz := by rw [hLz]; simp
    have zq1 : (q1, (parts ++ [R0]).map fun r => V.ref r.p) ∈ Lz := by rw [hLz]; simp
    have zan : (an, ans.map bV) ∈ Lz := by rw [hLz]; simp
    have zpl : (pl, [V.ref r0.p, .ref r1.p, .ref r2.p, .ref r3.p, .ref r4.p]) ∈ Lz := by rw [hLz]; simp
    have zst : (st, sxs) ∈ Lz := by rw [hLz]; simp
    have zal : (al, acc) ∈ Lz := by rw [hLz]; simp
    clear hLz F34 F33 F32 F31 F30 F29 F28 F27 F26
    have c2534 : Ch [] H25 H34 := ((((c2529.nilL c30).nilL c31).nilL c32).nilL c33).nilL c34
    have hacc34 := hacc25.ch c2534
    have hs34 := hs25.ch c2534
    have hsx34 := hsx25.ch c2534
    have hle34 := c2534.sqT hle25
    have hev34 := hev25.ch c2534
    have hs234 := hs225.ch c2534
    obtain ⟨m0', M', hM'⟩ : ∃ m0' M', parts ++ [R0] = m0' :: M' := by
      cases parts with
      | nil => exact ⟨_, _, rfl⟩
      | cons x xs => exact ⟨_, _, rfl⟩
    have htM : tot (m0' :: M') = full := by
      rw [← hM', tot_app]
      show ([] ++ R0.stk) ++ tot parts = full
      rw [List.nil_append]
      exact t0
    have G34' := G34.perm (perm_rows R R0 parts (pieces ++ [r1, r2, r4]))
    rw [hM'] at G34'
    walk_at "rd"
    have htR : tot [R] = full := by show [] ++ R.stk = full; rw [List.nil_append]; exact hRfull
    have ht1 : tot [r1] = full := by show [] ++ r1.stk = full; rw [List.nil_append]; exact hr1.2
    refine goL [V.ref q1, .ref q2, .ref q3] (fun i σ H' => ∃ (S : List Addr) (o18 : Option V), Ch S H34 H' ∧ σ = [some (.ref a), some (.ref p), some (.ref lo), some (.ref s), o4', some (.ref al), some (.ref st), o7, some (.ref pl), o9', some (.int lim), some (.ref pa), some (.ref pb), some (.int (av : Nat)), some (.ref le), some (.ref an), some (.ref sh), some (.ref r3.p), o18, none, none] ∧ H' qq = some (.lst [V.ref q1, .ref q2, .ref q3]) ∧ (i = 0 → Fw K H' [] p c lo ks cs Lz ((m0' :: M') ++ (R :: (pieces ++ [r1, r2, r4])))) ∧ (i = 1 → Fw K H' [] p c lo ks cs Lz (R :: (pieces ++ [r1, r2, r4]))) ∧ (i = 2 → ∃ l', Fw K H' [] p c lo ks cs Lz (PR.mk r1.p l' r1.b r1.m [] r1.kvs r1.svs :: (R :: (pieces ++ [r2, r4])))) ∧ (i = 3 → ∃ l', Fw K H' [] p c lo ks cs Lz (PR.mk r1.p l' r1.b r1.m [] r1.kvs r1.svs :: (pieces ++ [r2, r4]))))
      ⟨[], none, Ch.refl _, rfl, G34'.get zq, fun _ => G34', (fun q => by cases q), (fun q => by cases q), (fun q => by cases q)⟩ (fun i σ H' _ hI => by obtain ⟨S, o18, _, _, q, _⟩ := hI; exact SqL.of q) (fun i y σ H' hy hI => ?_) (fun σ H' hI => ?_)
    · obtain ⟨S, o18, cS, rfl, hqq', g0, g1, g2, g3⟩ := hI
      have hs2' := hs234.ch cS
      have hsx' := hsx34.ch cS
      have hle' := cS.sqT hle34
      have hev' := hev34.ch cS
      match i, hy with
      | 0, hy =>
        have e : V.ref q1 = y := Option.some.inj hy
        subst e
        have F := g0 rfl
        have hq : H' q1 = some (.lst ((m0' :: M').map fun r => V.ref r.p)) := by rw [← hM']; exact F.get zq1
        walk_at "rd"
        refine use_goes (q0 := m0') (M := M') F lok hq htM hfh (F.get zst) hsx' hle' hev' hs2' hl2 (F.get zan) hfm hans' fun l' H2 hl' hP2 c2 => ?_
        have F2 := Fw.gone (M := m0' :: M') F c2
        walk_at "rd"
        exact ⟨_, _, cS.trans c2, rfl, F2.get zq, (fun q => by cases q), fun _ => F2, (fun q => by cases q), (fun q => by cases q)⟩
      | 1, hy =>
        have e : V.ref q2 = y := Option.some.inj hy
        subst e
        have F := (g1 rfl).perm (List.perm_middle (l₁ := R :: pieces) (l₂ := [r2, r4]))
        walk_at "rd"
        refine use_goes (q0 := r1) (M := []) F lok (F.get zq2) ht1 hfh (F.get zst) hsx' hle' hev' hs2' hl2 (F.get zan) hfm hans' fun l' H2 hl' hP2 c2 => ?_
        have F2 := Fw.one (r' := PR.mk r1.p l' r1.b r1.m [] r1.kvs r1.svs) F (c2.mono (by simp)) rfl hP2 (.inr hl')
        walk_at "rd"
        exact ⟨_, _, cS.trans c2, rfl, F2.get zq, (fun q => by cases q), (fun q => by cases q), fun _ => ⟨l', F2⟩, (fun q => by cases q)⟩
      | 2, hy =>
        have e : V.ref q3 = y := Option.some.inj hy
        subst e
        obtain ⟨l', F0⟩ := g2 rfl
        have F := F0.perm (List.Perm.swap _ _ _)
        have hq : H' q3 = some (.lst ([R].map fun r => V.ref r.p)) := by
          rw [List.map_singleton, eR]
          exact F.get zq3
        walk_at "rd"
        refine use_goes (q0 := R) (M := []) F lok hq htR hfh (F.get zst) hsx' hle' hev' hs2' hl2 (F.get zan) hfm hans' fun l2 H2 hl2' hP2 c2 => ?_
        have F2 := Fw.gone (M := [R]) F c2
        walk_at "rd"
        exact ⟨_, _, cS.trans c2, rfl, F2.get zq, (fun q => by cases q), (fun q => by cases q), (fun q => by cases q), fun _ => ⟨l', F2⟩⟩
      | i + 3, hy => simp at hy
    obtain ⟨S2, o18, cS2, rfl, hqq', g0, g1, g2, g3⟩ := hI
    obtain ⟨l1, F35⟩ := g3 rfl
    clear g0 g1 g2 g3
    have hs35 := hs34.ch cS2
    have hs235 := hs234.ch cS2
    have hsx35 := hsx34.ch cS2
    have hle35 := cS2.sqT hle34
    have hev35 := hev34.ch cS2
    have hacc35 := hacc34.ch cS2
    have hpl35 := F35.get zpl
    have hal35 := F35.ls (al, acc) zal
    have hP35 : Pi K H' ks cs r1.kvs r1.svs r1.p l1 r1.b r1.m [] := (F35.pr _ List.mem_cons_self).1
    walk_at "rd"
    -- filled again
    refine ⟨r1.p, l1, r1.b, s, al, acc, r1.m, acts, [], ks, cs, r1.kvs, r1.svs, held, rfl, lok, hP35, hal35.1, hal35.2.2 _ List.mem_cons_self, hacc35, hok, hs35, hhl', by rw [hr1.1, List.length_nil]; omega, by rw [hr1.1]; decide, fun H36 hP36 c36 => ?_⟩
    rw [hfull, List.nil_append] at hP36
    have F36 := F35.one (r' := PR.mk r1.p l1 r1.b r1.m full r1.kvs r1.svs) (c36.mono (by simp)) rfl hP36 (.inl rfl)
    have hpl36 := F36.get zpl
    walk_at "rd"
    refine nL fun rw1 H37 hrw1 hrw11 c37 => ?_
    have F37 := F36.ch0 c37
    have c3537 : Ch [l1] H' H37 := c36.nilR c37
    have ht1' : tot [PR.mk r1.p l1 r1.b r1.m full r1.kvs r1.svs] = full := by show [] ++ full = full; rw [List.nil_append]
    walk_at "rd"
    refine use_goes (q0 := PR.mk r1.p l1 r1.b r1.m full r1.kvs r1.svs) (M := []) F37 lok hrw11 ht1' hfh (F37.get zst) (hsx35.ch c3537) (c3537.sqT hle35) (hev35.ch c3537) (hs235.ch c3537) hl2 (F37.get zan) hfm hans' fun l2 H38 hl2' hP38 c38 => ?_
    have F38 := Fw.gone (M := [PR.mk r1.p l1 r1.b r1.m full r1.kvs r1.svs]) F37 c38
    have hpl38 := F38.get zpl
    have hst38 := F38.ls (st, sxs) zst
    have hsx38 := (hsx35.ch c3537).ch c38
    walk_at "rd"
    -- apart
    obtain ⟨hP4, hl4p, _⟩ := F38.pr r4 (by simp)
    obtain ⟨hP2, hl2p, _⟩ := F38.pr r2 (by simp)
    have hP4' : Pi K H38 ks cs r4.kvs r4.svs r4.p r4.l r4.b r4.m full := by
      unfold Pr at hP4
      rw [hr4.2] at hP4
      exact hP4
    refine ⟨p, c, lo, r4.p, r4.l, r4.b, st, _, r4.m, sxs, full, ks, cs, r4.kvs, r4.svs, rfl, F38.pl, ?_, ?_, F38.lr, lok, hP4', hl4p, hfh, hst38.1, hst38.2.1, hsx38, hfm, fun H39 c39 => ?_⟩
    · simp
    · simp
    have hP2' : Pi K H38 ks cs r2.kvs r2.svs r2.p r2.l r2.b r2.m full := by
      unfold Pr at hP2
      rw [hr2.2] at hP2
      exact hP2
    obtain ⟨⟨dx4, i4⟩, _⟩ := hP4.at_
    obtain ⟨⟨dx2, i2⟩, ys2, j2⟩ := hP2.at_
    have hnp24 : r2.p ≠ r4.p := by
      have q : ((pieces ++ [r2, r4]).map PR.p).Nodup := F38.np
      rw [List.map_append, List.nodup_append] at q
      have q2 := q.2.1
      simp only [List.map_cons, List.map_nil, List.nodup_cons, List.mem_singleton, List.not_mem_nil, not_false_eq_true, List.nodup_nil, and_true] at q2
      exact q2
    have hP239 := hP2'.ch c39 (by
      simp only [List.mem_cons, List.not_mem_nil, or_false]
      exact fun h => h.elim (F38.pl.ne_ins i2).1 hnp24) (by
      simp only [List.mem_cons, List.not_mem_nil, or_false]
      exact fun h => h.elim hl2p (ne_of j2 i4 (by simp))) (fun x hx o ho => by
      rcases List.mem_cons.mp hx with h | h
      · rw [h] at ho
        exact F38.pl.nbs p (List.mem_singleton.mpr rfl) o ho
      · exact hP4'.nbs.1 x h o ho)
    have off2 : ∀ {x : Addr} {xs : List V}, H38 x = some (.lst xs) → x ≠ p → H39 x = some (.lst xs) := fun {x xs} e n => c39.st _ _ (by
      simp only [List.mem_cons, List.not_mem_nil, or_false]
      exact fun h => h.elim n (ne_of e i4 (by simp))) e
    have hpl39 := off2 hpl38 (F38.ls _ zpl).2.1
    have hst39 := off2 hst38.1 hst38.2.1
    walk_at "rd"
    refine use_listP hP239 fun lt3 lxs3 H40 hlt3 hlt340 hlx3 c40 => ?_
    have hst40 := c40.get0 hst39
    walk_at "rd"
    refine use_same (n := 7) (Sm.lst hlt340 hst40 hlx3 ((hsx38.ch c39).ch c40) (hva_sd hfh) (by rw [List.length_map]; exact hsk0)) (by decide) ?_
    exact kk H40
  obtain ⟨t, h1, h2⟩ := key
  exact ⟨t, h1.nox, h2⟩
end
end U
set_option Elab.async false
set_option linter.all false
set_option maxRecDepth 100000
set_option maxHeartbeats 0
namespace U
open PySem PySem.Spec PyProof.Rows L2
theorem facts : Facts := by
  intro P w K h mg f X G hfa c
  have T := txt_of X G c
  obtain ⟨fd, F⟩ := T.f_law
  have e := hfa.symm.trans T.g_law
  cases e
  have b := FunD.bindsA (ps := ["script"]) F fun _ _ _ _ _ _ us hl => match us, hl with | [_], _ => rfl
  exact ⟨fd, fun s v => b s [v] rfl, fun base _ _ => ok_lawF T F⟩
end U
open PySem PySem.W PySem.Calls PyProof.Rows
theorem PySem.Challenge.cw_struckbodies_k78_whole_unwound_in_parts_holds : PySem.Challenge.rw_struckbodies_k78_whole_unwound_in_parts.Holds := by
  exact U.end_of U.facts
