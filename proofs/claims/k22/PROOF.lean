import PyProof.Rows.All
import Wide.All
import OpenK.AllK
import Wide.FinOn
import KE.KStateDown
import HandS.ForMost
import HandS.Wide
import HandS.IsInst
import HandS.Style
import HandS.Conv
import HandS.Walk
import HandS.Zip
import HandS.Defaults
import HandS.More
import HandS.WordsExc
import HandS.EndBits
import HandS.Head0
import HandS.Head1
import HandS.Head2
import HandS.HeadEnd
import HandS.HeadHook1
import HandS.HeadHook2
import HandS.HeadHook3
import HandS.HeadHook4
import HandS.Strs
import HandS.SetBool
import HandS.SortInts
import HandS.Nested
import HandS.HeadWalk
import HandS.DictComp
import HandS.CallLocal
import HandS.Defaults
import PySem.Challenge.RW_rowlift_k22_whole_runs_come_to_found_row
set_option Elab.async false
set_option linter.all false
set_option maxRecDepth 100000
set_option maxHeartbeats 4000000
namespace Rl
open PySem PySem.Spec PyProof.Rows L2

/-! ## rules that take one of several -/
section
variable {X : Cx}
theorem pe_or {e : Expr} {t t' : TE} (h : PE X e t) (h' : PE X e t') : PE X e (fun σ H Q => t σ H Q ∨ t' σ H Q) :=
  ⟨fun pins s σ H Q I q => q.elim (h.run pins s σ H Q I) (h'.run pins s σ H Q I)⟩
theorem pi_or {tg e : Expr} {w w' : TI} (h : PI X tg e w) (h' : PI X tg e w') : PI X tg e (fun σ H R => w σ H R ∨ w' σ H R) :=
  ⟨fun pins s σ H R I q => q.elim (h.run pins s σ H R I) (h'.run pins s σ H R I)⟩

def rAddS : R2 := fun x y H Q => ∃ i j, x = .str i ∧ y = .str j ∧ i.length + j.length ≤ sizeLine ∧ Q (.str (i ++ j)) H
def rAddA (K : PySem.W.Frag) : R2 := fun x y H Q => rI0 (fun i j => .int (i + j)) x y H Q ∨ rAddS x y H Q ∨ rCat x y H Q ∨ rCatT K x y H Q
theorem op_addA : OpR X (binaryOp .Add) (rAddA X.K) := op_add.or (op_add_str.or (op_cat.or op_catT))
def rSubA : R2 := rI0 fun i j => .int (i - j)
theorem op_subA : OpR X (binaryOp .Sub) rSubA := op_sub
def CMulA (i j : Int) : Prop := CMul i j ∨ CMulW i j
def rMulI : R2 := rI CMulA fun i j => .int (i * j)
theorem op_mulI : OpR X (binaryOp .Mult) rMulI := opI fun _ _ _ _ _ _ _ hc q => mul_int q (hc.elim CMul.ok CMulW.ok)
def rMulA : R2 := fun x y H Q => rMulI x y H Q ∨ rRep x y H Q
theorem op_mulA : OpR X (binaryOp .Mult) rMulA := op_mulI.or op_rep
def rModA : R2 := rI (fun _ j => 0 < j) fun i j => .int (i % j)
theorem op_modA : OpR X (binaryOp .Mod) rModA := op_mod
def rDivA : R2 := rI CDivW fun i j => .int (i / j)
theorem op_divA : OpR X (binaryOp .FloorDiv) rDivA := op_fdivW
def rPowA : R2 := rI CPow fun i j => .int (i ^ j.toNat)
theorem op_powA : OpR X (binaryOp .Pow) rPowA := op_pow
def rShlA : R2 := rI CPow fun i j => .int (i * 2 ^ j.toNat)
theorem op_shlA : OpR X (binaryOp .LShift) rShlA := op_shl
def rShrA : R2 := rI (fun _ j => 0 ≤ j) fun i j => .int (i / 2 ^ j.toNat)
theorem op_shrA : OpR X (binaryOp .RShift) rShrA := op_shr
def rAndA : R2 := rI0 fun i j => .int (Builtin.bitAnd i j)
theorem op_andA : OpR X (binaryOp .BitAnd) rAndA := op_and
def rOrA : R2 := rI0 fun i j => .int (Builtin.bitOr i j)
theorem op_orA : OpR X (binaryOp .BitOr) rOrA := op_or
def rXorA : R2 := rI0 fun i j => .int (Builtin.bitXor i j)
theorem op_xorA : OpR X (binaryOp .BitXor) rXorA := op_xor
def rLtA : R2 := rI0 fun i j => .bl (decide (i < j))
theorem op_ltA : OpR X (compareOp .Lt) rLtA := op_lt
def rLeA : R2 := rI0 fun i j => .bl (decide (i ≤ j))
theorem op_leA : OpR X (compareOp .LtE) rLeA := op_le
def rGtA : R2 := rI0 fun i j => .bl (decide (j < i))
theorem op_gtA : OpR X (compareOp .Gt) rGtA := op_gt
def rGeA : R2 := rI0 fun i j => .bl (decide (j ≤ i))
theorem op_geA : OpR X (compareOp .GtE) rGeA := op_ge
def rEqA (K : PySem.W.Frag) : R2 := fun x y H Q => rEq x y H Q ∨ rEqD K x y H Q
theorem op_eqA (hu : X.A.units + 64 < cLine) : OpR X (compareOp .Eq) (rEqA X.K) := op_eq.or (op_eqD hu)
def rNeA (K : PySem.W.Frag) : R2 := fun x y H Q => rNe x y H Q ∨ rNeD K x y H Q
theorem op_neA (hu : X.A.units + 64 < cLine) : OpR X (compareOp .NotEq) (rNeA X.K) := op_ne.or (op_neD hu)
def rIsN : R2 := fun u v H Q => v = .non ∧ Q (.bl (decide (u = .non))) H
theorem op_isN1 : OpR X (compareOp .Is) rIsN := op_isN
def rNotN : R2 := fun u v H Q => v = .non ∧ Q (.bl (!decide (u = .non))) H
theorem op_notN1 : OpR X (compareOp .IsNot) rNotN := op_notN
/-- one sign (or a text) in a text -/
def rInSA : R2 := fun x y H Q => ∃ i j, x = .str i ∧ y = .str j ∧ Q (.bl (!(Builtin.Str.occurrences j i 0 j.length 1).isEmpty)) H
theorem op_inSA : OpR X (compareOp .In) rInSA := op_in_str
def rNiSA : R2 := fun x y H Q => ∃ i j, x = .str i ∧ y = .str j ∧ Q (.bl (!(!(Builtin.Str.occurrences j i 0 j.length 1).isEmpty))) H
theorem op_niSA : OpR X (compareOp .NotIn) rNiSA := op_notIn_str
/-- slices of lists, texts, tuples -/
def rSlA (K : PySem.W.Frag) : V → Option Int → Option Int → Hp → VK → Prop := fun x lo hi H Q => rSlL K x lo hi H Q ∨ rSlT K x lo hi H Q
theorem sl_A : SlR X (rSlA X.K) := sl_list.or sl_tup
/-- calls of built-ins -/
def rLenA (K : PySem.W.Frag) : List V → Hp → VK → Prop := fun xs H Q => ∃ x n, xs = [x] ∧ LenV K x H n ∧ Q (.int n) H
theorem call_lenA : CallR X (.builtin "len") (rLenA X.K) := call_len
def rInt1 : List V → Hp → VK → Prop := fun xs H Q => (∃ i, xs = [.int i] ∧ Q (.int i) H) ∨ ∃ k, xs = [.bl k] ∧ Q (.int (if k then 1 else 0)) H
theorem call_intA : CallR X (.type "int") rInt1 := call_int1
def rAbs : List V → Hp → VK → Prop := fun xs H Q => ∃ i, xs = [.int i] ∧ Q (.int (if i < 0 then -i else i)) H
theorem call_absA : CallR X (.builtin "abs") rAbs := call_abs
def rMin2 : List V → Hp → VK → Prop := fun xs H Q => ∃ i j, xs = [.int i, .int j] ∧ Q (.int (if j < i then j else i)) H
theorem call_min2A (hc : X.calm = true) : CallR X (.builtin "min") rMin2 := call_min2 hc
def rMax2 : List V → Hp → VK → Prop := fun vs H Q => ∃ m n, vs = [.int m, .int n] ∧ Q (.int (if n > m then n else m)) H
theorem call_max2A (hc : X.calm = true) : CallR X (.builtin "max") rMax2 := call_max2 hc
def rListA (K : PySem.W.Frag) : List V → Hp → VK → Prop := fun xs H Q => ∃ p ys, xs = [.ref p] ∧ (SqL K H p ys ∨ SqT K H p ys) ∧ ∀ l, H l = none → Q (.ref l) (upd H l (.lst ys))
theorem call_listA : CallR X (.type "list") (rListA X.K) := call_list_of
def rTupA (K : PySem.W.Frag) : List V → Hp → VK → Prop := fun xs H Q => ∃ p ys, xs = [.ref p] ∧ ((SqL K H p ys ∧ ∀ l, H l = none → Q (.ref l) (upd H l (.tup ys))) ∨ (SqT K H p ys ∧ Q (.ref p) H))
theorem call_tupA : CallR X (.type "tuple") (rTupA X.K) := call_tuple_of
/-- a for over a list or a tuple -/
def iSeq (K : PySem.W.Frag) (tl : TE) : TI := fun σ H R => tl σ H fun x H1 => (∃ a, x = .ref a ∧ (∃ xs, SqL K H1 a xs) ∧ R (Itl K a) H1) ∨ (∃ a, x = .ref a ∧ (∃ xs, SqT K H1 a xs) ∧ R (Itt K a) H1)
theorem pi_seq {tg l : Expr} {tl : TE} (hl : PE X l tl) : PI X tg l (iSeq X.K tl) := by
  refine ⟨fun pins s σ H R I go => thn (hl.run pins s σ H _ I go) fun v t ⟨x, Ht, It, rv, ways⟩ => ?_⟩
  -- the new iterator stands apart
  have apart : ∀ b ∈ [t.heap.objs.size], FpOk X pins Ht b := fun b hb => by
    rw [List.mem_singleton.mp hb]
    exact It.fpOk (Nat.le_refl _) (It.hok.fresh (Nat.le_refl _))
  rcases ways with ⟨a, rfl, ⟨xs, seq⟩, go2⟩ | ⟨a, rfl, ⟨xs, seq⟩, go2⟩
  · cases rv
    obtain ⟨items, _, isL, _⟩ := It.list seq
    exact wpAny_pyIter_list isL.isList ⟨_, _, _, _, Ht, rfl, It.kept (t' := t.toks) fun _ _ e => Heap.get?_push_of_some _ e, turn_list a _, ⟨_, Heap.get?_push_size _ rfl, rfl, rfl⟩, apart, go2⟩
  · cases rv
    obtain ⟨items, _, isT, _⟩ := It.tuple seq
    exact wpAny_pyIter_tuple (show t.heap.IsTuple a items.toArray from isT) ⟨_, _, _, _, Ht, rfl, It.kept (t' := t.toks) fun _ _ e => Heap.get?_push_of_some _ e, turn_tuple a _, ⟨_, Heap.get?_push_size _ rfl, rfl, rfl⟩, apart, go2⟩
/-- a module's constant -/
theorem pe_gcn {x : Str} {v : V} {f : Tok → Value} {pos : Pos} (hg : Gl X x) (h : ∃ t, X.mg x = some (f t)) (r : ∀ t, RelV v (f t) := by intro t; exact ⟨t, rfl⟩) (hd : (x == ("__debug__" : Str)) = false := by decide) : PE X (.Name x pos) (tC v) := by
  obtain ⟨t, hm⟩ := h
  exact pe_glob hg hm (r t) hd
def tTru (K : PySem.W.Frag) (te : TE) : TT := fun σ H Q => te σ H fun v H' => ∃ b, TruV K v H' b ∧ Q b H'
end

/-! ## dicts of the written part, keys ints or texts -/
/-- at a a dict of the written part: what it has, by its pairs -/
structure KD (K : PySem.W.Frag) (w : World) (a : Addr) (kvs : List (Key × V)) : Prop where
  lo : (a == sysModules) = false
  get : ∀ (P : Program) (h : Heap), K.In h → ∃ f : Key → Option Value, h.MapOf (mixKind P w) a f ∧ ∀ k, RelO (valV kvs k) (f k)
def rIxKD (K : PySem.W.Frag) (w : World) : R2 := fun x y H Q => ∃ a kvs k v, x = .ref a ∧ y = kV k ∧ KD K w a kvs ∧ valV kvs k = some v ∧ Q v H
def rInKD (K : PySem.W.Frag) (w : World) : R2 := fun x y H Q => ∃ a kvs k, y = .ref a ∧ x = kV k ∧ KD K w a kvs ∧ Q (.bl (valV kvs k).isSome) H
def rInNotKD (K : PySem.W.Frag) (w : World) : R2 := fun x y H Q => ∃ a kvs k, y = .ref a ∧ x = kV k ∧ KD K w a kvs ∧ Q (.bl (!(valV kvs k).isSome)) H
section
variable {X : Cx}
theorem ix_KD : IxR X (rIxKD X.K X.w) := by
  intro base part pins s σ H x y v u Q I rx ry go hs
  obtain ⟨a, kvs, k, r, rfl, rfl, D, hv, q⟩ := go
  cases (show v = Value.ref a from rx)
  obtain ⟨f, isD, same⟩ := D.get X.prog s.heap I.kIn
  have hk := same k
  rw [hv] at hk
  obtain ⟨z, hz, rz⟩ := RelO.some_of hk
  exact tail_any isD.typeIs slot_dict_getitem.lookup (wpAny_getItem_of (kV_is ry) isD hz ⟨r, H, I.tok _, rz, q⟩) hs
theorem op_inKD : OpR X (compareOp .In) (rInKD X.K X.w) := by
  intro pins s σ H x y v u Q I rx ry go
  obtain ⟨a, kvs, k, rfl, rfl, D, q⟩ := go
  cases (show u = Value.ref a from ry)
  obtain ⟨f, isD, same⟩ := D.get X.prog s.heap I.kIn
  exact wpAny_in_of (kV_is rx) D.lo isD ⟨.bl _, H, I.tok _, rfl, by rw [← (same k).isSome_eq]; exact q⟩
theorem op_inNotKD : OpR X (compareOp .NotIn) (rInNotKD X.K X.w) := by
  intro pins s σ H x y v u Q I rx ry go
  obtain ⟨a, kvs, k, rfl, rfl, D, q⟩ := go
  cases (show u = Value.ref a from ry)
  obtain ⟨f, isD, same⟩ := D.get X.prog s.heap I.kIn
  exact wpAny_notIn_of (kV_is rx) D.lo isD ⟨.bl _, H, I.tok _, rfl, by rw [← (same k).isSome_eq]; exact q⟩
end
/-- a written dict with int keys: a look that the head can take -/
def kdI (K : PySem.W.Frag) (a : Addr) (kvs : List (Int × He.Dv)) : Bool := match K.lookup a with
  | some ⟨.type c, none, .dict es _, sl⟩ => decide (c = "dict") && (sl.isEmpty && (!(a == sysModules) && kdAll K es.toList kvs))
  | _ => false
where
  kdAll (K : PySem.W.Frag) : List DictEntry → List (Int × He.Dv) → Bool
    | [], [] => true
    | e :: es, (k, d) :: r => (match e.key with
      | .int j _ => decide (j = k)
      | _ => false) && (decide (e.hash = hashInt k) && (He.relB (d.v K) e.val && kdAll K es r))
    | _, _ => false
theorem kdI_find {K : PySem.W.Frag} {w : World} (P : Program) : ∀ {es : List DictEntry} {kvs : List (Int × He.Dv)}, kdI.kdAll K es kvs = true →
    (∀ e ∈ es, ∃ k, (mixKind P w).is k e.key = true ∧ e.hash = (mixKind P w).hash k) ∧
    ∀ k, RelO (valV (kvs.map fun p => ((Sum.inl p.1 : Key), p.2.v K)) k) ((es.find? fun e => (mixKind P w).is k e.key).map (·.val))
  | [], [], _ => ⟨fun e he => (by cases he), fun k => True.intro⟩
  | e :: es, (j, d) :: r, h => by
    obtain ⟨h1, h2⟩ := He.ba (show ((match e.key with
      | .int i _ => decide (i = j)
      | _ => false) && (decide (e.hash = hashInt j) && (He.relB (d.v K) e.val && kdI.kdAll K es r))) = true from h)
    obtain ⟨h3, h4⟩ := He.ba h2
    obtain ⟨h5, h6⟩ := He.ba h4
    obtain ⟨i1, i2⟩ := kdI_find (w := w) P h6
    obtain ⟨t, ek⟩ : ∃ t, e.key = .int j t := by
      cases q : e.key with
      | int i t =>
        rw [q] at h1
        exact ⟨t, by rw [of_decide_eq_true h1]⟩
      | _ =>
        rw [q] at h1
        cases h1
    have e1 : (mixKind P w).is (Sum.inl j : Key) e.key = true := by
      rw [ek]
      exact keyIs_int j t
    refine ⟨fun e' he => ?_, fun k => ?_⟩
    · rcases List.mem_cons.mp he with q | q
      · rw [q]
        exact ⟨Sum.inl j, e1, of_decide_eq_true h3⟩
      · exact i1 e' q
    · rw [List.map_cons]
      by_cases q : (Sum.inl j : Key) = k
      · have q2 : (mixKind P w).is k e.key = true := by rw [← q]; exact e1
        rw [List.find?_cons_of_pos (p := fun (e : DictEntry) => (mixKind P w).is k e.key) q2, valV_pos (p := ((Sum.inl j : Key), d.v K)) q]
        exact He.relB_ok h5
      · have q2 : ¬ (mixKind P w).is k e.key = true := fun z => q ((mixKind P w).inj _ _ _ e1 z)
        rw [List.find?_cons_of_neg (p := fun (e : DictEntry) => (mixKind P w).is k e.key) q2, valV_neg (p := ((Sum.inl j : Key), d.v K)) q]
        exact i2 k
  | [], _ :: _, h => by cases h
  | _ :: _, [], h => by cases h
theorem kdI_ok {K : PySem.W.Frag} {w : World} {a : Addr} {kvs : List (Int × He.Dv)} (h : kdI K a kvs = true) : KD K w a (kvs.map fun p => (Sum.inl p.1, p.2.v K)) := by
  unfold kdI at h
  cases q : K.lookup a with
  | none =>
    rw [q] at h
    cases h
  | some o =>
    obtain ⟨oc, od, dt, osl⟩ := o
    rw [q] at h
    cases oc with
    | type c =>
      cases od with
      | none =>
        cases dt with
        | dict es n =>
          obtain ⟨h1, h2⟩ := He.ba (show (decide (c = "dict") && (osl.isEmpty && (!(a == sysModules) && kdI.kdAll K es.toList kvs))) = true from h)
          obtain ⟨h3, h4⟩ := He.ba h2
          obtain ⟨h5, h6⟩ := He.ba h4
          have e1 : c = "dict" := of_decide_eq_true h1
          have e2 : osl = #[] := Array.isEmpty_iff.mp h3
          have notSys : (a == sysModules) = false := by
            cases y : (a == sysModules) with
            | false => rfl
            | true =>
              rw [y] at h5
              cases h5
          subst e1 e2
          refine ⟨notSys, fun P hp X => ?_⟩
          obtain ⟨i1, i2⟩ := kdI_find (w := w) P h6
          refine ⟨fun k => findBy (mixKind P w).is es k, ⟨_, es, n, X _ _ q, ⟨rfl, rfl, rfl⟩, rfl, fun e he => i1 e (Array.mem_toList_iff.mpr he), fun k => rfl⟩, fun k => ?_⟩
          have z := i2 k
          obtain ⟨l⟩ := es
          show RelO _ ((Array.find? (fun e => (mixKind P w).is k e.key) l.toArray).map (·.val))
          rw [List.find?_toArray]
          exact z
        | _ => cases h
      | some _ => cases dt <;> (cases h)
    | _ => cases od <;> cases dt <;> (cases h)

/-! ## defs that are called by their names -/
abbrev FnP (K : PySem.W.Frag) (x : Str) (st : Stmt) (f : Addr) (fd : FuncData) : Prop := FunD K x x (defArgs st) (defBody st) (defScope st) [] [] f fd
/-- a def that may be called by its name, every parameter given -/
structure Cl (P : Program) (w : World) (K : PySem.W.Frag) (mg : Str → Option Value) (base : Heap) (k : Nat) (x : Str) (sp : Sp) : Prop where
  ex : ∃ (f : Addr) (fd : FuncData) (ps : List Str), FnOk P w K mg base CX0 k f fd ps sp ∧ mg x = some (.ref f) ∧ PySem.W.keepIn K (.ref f) = true ∧ Binds K fd ps []
section
variable {K : PySem.W.Frag} {P : Program} {w : World} {base : Heap} {mg : Str → Option Value}
theorem fn_of1 {x : Str} {st : Stmt} {f : Addr} {fd : FuncData} {N ps : List Str} {k : Nat} {sp : Sp} (D : FnP K x st f fd) (S : FnScope N ps (defScope st)) (len : ∀ vs H Q E, sp vs H Q E → vs.length = ps.length)
    (hbody : ∀ (cdv : Value) (A : Around) (outer : List Env) (s : Shared) (H : Hp) (vs : List V) (Q : VK) (E : XK), Room k (A.deeper (envOfC x (defScope st) s.heap.objs.size f cdv)) → sp vs H Q E →
      ∃ t, PSs (cxOf CX0 P w K mg base N x (defScope st) f cdv A outer s H E) (defBody st) t ∧ t { nx := fun _ H' => Q .non H', rt := Q } (start N vs) H) : FnOk P w K mg base CX0 (k + 1) f fd ps sp :=
  FunD.ok D S len hbody
theorem cl_of {x : Str} {st : Stmt} {f : Addr} {fd : FuncData} {N ps : List Str} {k : Nat} {sp : Sp} (D : FnP K x st f fd) (hm : mg x = some (.ref f)) (hb : Binds K fd ps []) (S : FnScope N ps (defScope st)) (len : ∀ vs H Q E, sp vs H Q E → vs.length = ps.length)
    (hbody : ∀ (cdv : Value) (A : Around) (outer : List Env) (s : Shared) (H : Hp) (vs : List V) (Q : VK) (E : XK), Room k (A.deeper (envOfC x (defScope st) s.heap.objs.size f cdv)) → sp vs H Q E →
      ∃ t, PSs (cxOf CX0 P w K mg base N x (defScope st) f cdv A outer s H E) (defBody st) t ∧ t { nx := fun _ H' => Q .non H', rt := Q } (start N vs) H) : Cl P w K mg base (k + 1) x sp :=
  ⟨f, fd, ps, fn_of1 D S len hbody, hm, D.kp, hb⟩
end
section
variable {X : Cx} {k j : Nat} {x : Str} {sp : Sp} {p pos : Pos} {e : Expr} {es : List Expr} {t : TA}
theorem pe_cl (c : Cl X.prog X.w X.K X.mg X.base k x sp) (hr : Room j X.A) (hk : k ≤ j) (hg : Gl X x) (ha : PA X (e :: es) t)
    (hdb : (x == ("__debug__" : Str)) = false := by decide) (he : starEach (e :: es) X.env = (false, eval e X.env) :: starEach es X.env := by rfl) (hpl : (backTo pos (starEach es X.env)).any (·.1) = false := by rfl) :
    PE X (.Call (.Name x p) (e :: es) [] pos) (tCall sp [] E0 t) := by
  obtain ⟨f, fd, ps, F, hm, kp, b⟩ := c.ex
  exact pe_call F (hr.mono hk) hg hm kp b .nil pass0 ha hdb he hpl
theorem pe_cl0 (c : Cl X.prog X.w X.K X.mg X.base k x sp) (hr : Room j X.A) (hk : k ≤ j) (hg : Gl X x)
    (hdb : (x == ("__debug__" : Str)) = false := by decide) :
    PE X (.Call (.Name x p) [] [] pos) (tCall sp [] E0 tNil) := by
  obtain ⟨f, fd, ps, F, hm, kp, b⟩ := c.ex
  exact pe_call0 F (hr.mono hk) hg hm kp b .nil pass0 hdb
end

/-! ## heaps -/
theorem same_upd {H : Hp} {p : Addr} {o : HO} (h : H p = none) : Same H (upd H p o) := fun b x e => by
  rw [upd_ne (ne_of_none e h)]
  exact e
theorem upd_get {H : Hp} {p a : Addr} {o x : HO} (h : H p = none) (e : H a = some x) : upd H p o a = some x := same_upd h a x e
theorem upd_mut {H : Hp} {p a : Addr} {o x : HO} (h : a ≠ p) (e : H a = some x) : upd H p o a = some x := by
  rw [upd_ne h]
  exact e
/-- the heap without what stands at r -/
def but (r : Addr) (H : Hp) : Hp := fun a => if a = r then none else H a
theorem but_same {r : Addr} {H : Hp} : Same (but r H) H := fun b o e => by
  unfold but at e
  split at e
  · cases e
  · exact e
theorem but_none {r : Addr} {H : Hp} : but r H r = none := by
  unfold but
  rw [if_pos rfl]
theorem but_get {r a : Addr} {H : Hp} {o : HO} (h : a ≠ r) (e : H a = some o) : but r H a = some o := by
  unfold but
  rw [if_neg h]
  exact e
theorem but_upd {r : Addr} {H : Hp} {o : HO} : but r (upd H r o) = but r H := by
  funext a
  unfold but upd
  by_cases h : a = r
  · rw [if_pos h, if_pos h]
  · rw [if_neg h, if_neg h, if_neg h]
theorem Same.but {r : Addr} {H H' : Hp} (h : Same H H') : Same (but r H) (but r H') := fun b o e => by
  unfold Rl.but at e ⊢
  split at e
  · cases e
  · rename_i q
    rw [if_neg q]
    exact h b o e
theorem sm_new {A H : Hp} {p : Addr} {o : HO} (h : H p = none) (e : Same A H) : Same A (upd H p o) := e.trans (same_upd h)
theorem sm_bnew {A H : Hp} {p r : Addr} {o : HO} (h : H p = none) (e : Same A (Rl.but r H)) : Same A (Rl.but r (upd H p o)) := e.trans (Same.but (same_upd h))
theorem sm_bmut {A H : Hp} {r : Addr} {o : HO} (e : Same A (Rl.but r H)) : Same A (Rl.but r (upd H r o)) := by
  rw [but_upd]
  exact e
theorem sm_by {A H H' : Hp} (h : Same H H') (e : Same A H) : Same A H' := e.trans h
theorem sm_bby {A H H' : Hp} {r : Addr} (h : Same H H') (e : Same A (Rl.but r H)) : Same A (Rl.but r H') := e.trans (Same.but h)
theorem same_but {t : Addr} {H : Hp} (h : H t = none) : Same H (Rl.but t H) := fun a o e => but_get (ne_of_none e h) e
theorem Same.of_but {r : Addr} {H H' : Hp} (h : Same (Rl.but r H) (Rl.but r H')) {a : Addr} {o : HO} (n : a ≠ r) (e : H a = some o) : H' a = some o := but_same a o (h a o (but_get n e))
theorem Same.seqT {K : PySem.W.Frag} {H H' : Hp} {a : Addr} {xs : List V} (e : Same H H') (h : SqT K H a xs) : SqT K H' a xs := by
  rcases h with (g | ⟨o, g⟩) | g
  · exact .inl (.inl (e _ _ g))
  · exact .inl (.inr ⟨o, e _ _ g⟩)
  · exact .inr g
theorem SqL.mono {K : PySem.W.Frag} {H H' : Hp} {a : Addr} {xs : List V} (e : Same H H') (h : SqL K H a xs) : SqL K H' a xs := e.seq h
theorem SqT.mono {K : PySem.W.Frag} {H H' : Hp} {a : Addr} {xs : List V} (e : Same H H') (h : SqT K H a xs) : SqT K H' a xs := Same.seqT e h
mutual
theorem Dp.mono {K : PySem.W.Frag} {H H' : Hp} (e : Same H H') : ∀ {d : PyData} {v : V}, Dp K H v d → Dp K H' v d
  | _, _, .non => .non
  | _, _, .bl b => .bl b
  | _, _, .int i => .int i
  | _, _, .str x => .str x
  | _, _, .lst hs ha => .lst (e.seq hs) (DpAll.mono e ha)
  | _, _, .tup hs ha => .tup (Same.seqT e hs) (DpAll.mono e ha)
theorem DpAll.mono {K : PySem.W.Frag} {H H' : Hp} (e : Same H H') : ∀ {ds : List PyData} {vs : List V}, DpAll K H vs ds → DpAll K H' vs ds
  | _, _, .nil => .nil
  | _, _, .cons a b => .cons (Dp.mono e a) (DpAll.mono e b)
end
theorem dp_none {K : PySem.W.Frag} {H : Hp} {v : V} (h : Dp K H v .none) : v = .non := by
  cases h
  rfl
theorem dp_int {K : PySem.W.Frag} {H : Hp} {v : V} {i : Int} (h : Dp K H v (.int i)) : v = .int i := by
  cases h
  rfl
theorem dp_bool {K : PySem.W.Frag} {H : Hp} {v : V} {i : Bool} (h : Dp K H v (.bool i)) : v = .bl i := by
  cases h
  rfl
theorem dp_str {K : PySem.W.Frag} {H : Hp} {v : V} {i : Str} (h : Dp K H v (.str i)) : v = .str i := by
  cases h
  rfl
theorem dp_tup {K : PySem.W.Frag} {H : Hp} {v : V} {ds : List PyData} (h : Dp K H v (.tuple ds)) : ∃ p xs, v = .ref p ∧ SqT K H p xs ∧ DpAll K H xs ds := by
  cases h with
  | tup hs ha => exact ⟨_, _, rfl, hs, ha⟩
theorem dp_lst {K : PySem.W.Frag} {H : Hp} {v : V} {ds : List PyData} (h : Dp K H v (.list ds)) : ∃ p xs, v = .ref p ∧ SqL K H p xs ∧ DpAll K H xs ds := by
  cases h with
  | lst hs ha => exact ⟨_, _, rfl, hs, ha⟩
theorem DpAll.length {K : PySem.W.Frag} {H : Hp} : ∀ {vs : List V} {ds : List PyData}, DpAll K H vs ds → vs.length = ds.length
  | _, _, .nil => rfl
  | _, _, .cons _ t => by rw [List.length_cons, List.length_cons, DpAll.length t]
theorem DpAll.get {K : PySem.W.Frag} {H : Hp} : ∀ {vs : List V} {ds : List PyData}, DpAll K H vs ds → ∀ {i : Nat} {v : V}, vs[i]? = some v → ∃ d, ds[i]? = some d ∧ Dp K H v d
  | _, _, .nil, i, v, h => by cases h
  | _, _, .cons (d := d) a t, 0, v, h => ⟨d, rfl, by
    have e := Option.some.inj h
    rw [← e]
    exact a⟩
  | _, _, .cons _ t, i + 1, v, h => DpAll.get t (i := i) h
theorem DpAll.ints {K : PySem.W.Frag} {H : Hp} : ∀ ns : List Int, DpAll K H (ns.map V.int) (ns.map PyData.int)
  | [] => .nil
  | n :: ns => .cons (.int n) (DpAll.ints ns)
theorem DpAll.of_ints {K : PySem.W.Frag} {H : Hp} : ∀ {vs : List V} {ns : List Int}, DpAll K H vs (ns.map PyData.int) → vs = ns.map V.int
  | _, [], h => by
    cases h
    rfl
  | _, n :: ns, h => by
    cases h with
    | cons a t => rw [dp_int a, DpAll.of_ints t]; rfl
/-! ## slices, repeated lists -/
theorem drop_min {α : Type} (xs : List α) (k : Nat) : xs.drop (min k xs.length) = xs.drop k := by
  by_cases h : k ≤ xs.length
  · rw [Nat.min_eq_left h]
  · rw [Nat.min_eq_right (by omega), List.drop_length, List.drop_eq_nil_of_le (by omega)]
theorem take_min {α : Type} (xs : List α) (k : Nat) : xs.take (min k xs.length) = xs.take k := by
  by_cases h : k ≤ xs.length
  · rw [Nat.min_eq_left h]
  · rw [Nat.min_eq_right (by omega), List.take_length, List.take_of_length_le (by omega)]
/-- xs[k:] -/
theorem cut_from (xs : List V) (k : Nat) : cutV xs (some (k : Int)) none = xs.drop k := by
  unfold cutV
  rw [HT.sIx_nat, HT.sIx_none, drop_min]
  refine List.take_of_length_le ?_
  rw [List.length_drop]
  omega
/-- xs[:k] -/
theorem cut_to (xs : List V) (k : Nat) : cutV xs none (some (k : Int)) = xs.take k := by
  unfold cutV
  rw [HT.sIx_nat, HT.sIx_none, List.drop_zero, Nat.sub_zero, take_min]
theorem cut_fromI (xs : List V) {i : Int} (h : 0 ≤ i) : cutV xs (some i) none = xs.drop i.toNat := by
  have e : ((i.toNat : Nat) : Int) = i := Int.toNat_of_nonneg h
  rw [← cut_from, e]
theorem cut_toI (xs : List V) {i : Int} (h : 0 ≤ i) : cutV xs none (some i) = xs.take i.toNat := by
  have e : ((i.toNat : Nat) : Int) = i := Int.toNat_of_nonneg h
  rw [← cut_to, e]
theorem rep_if (x : V) (b : Bool) : (List.replicate (if b then (1 : Int) else 0).toNat [x]).flatten = if b then [x] else [] := by
  cases b <;> rfl
theorem rep_one (x : V) (n : Nat) : (List.replicate n [x]).flatten = List.replicate n x := by
  induction n with
  | zero => rfl
  | succ n ih => rw [List.replicate_succ, List.flatten_cons, ih]; rfl
/-! ## the type of data -/
def tyD : PyData → String
  | .none => "NoneType"
  | .bool _ => "bool"
  | .int _ => "int"
  | .str _ => "str"
  | .list _ => "list"
  | .tuple _ => "tuple"
  | .dict _ => "dict"
theorem sql_ty {K : PySem.W.Frag} {H : Hp} {a : Addr} {xs : List V} (h : SqL K H a xs) : TyX K H (.ref a) (.type "list") := by
  rcases h with (h | ⟨o, h⟩) | ⟨o, its, n, h1, h2, _⟩
  · exact .base (.lst h)
  · exact .base (.frz h)
  · exact .kList h1 h2
theorem sqt_ty {K : PySem.W.Frag} {H : Hp} {a : Addr} {xs : List V} (h : SqT K H a xs) : TyX K H (.ref a) (.type "tuple") := by
  rcases h with (h | ⟨o, h⟩) | ⟨o, its, n, h1, h2, _⟩
  · exact .base (.tup h)
  · exact .fTuple h
  · exact .kTuple h1 h2
theorem Dp.ty {K : PySem.W.Frag} {H : Hp} {v : V} {d : PyData} (h : Dp K H v d) : TyX K H v (.type (tyD d)) := by
  cases h with
  | non => exact .base .non
  | bl b => exact .base (.bl b)
  | int i => exact .base (.int i)
  | str x => exact .base (.str x)
  | lst hs _ => exact sql_ty hs
  | tup hs _ => exact sqt_ty hs
end Rl
namespace Rl.R
open PySem PySem.Spec PyProof.Rows L2 Rl
/-! ## one step of a reading -/
section
variable {K : PySem.W.Frag} {σ : L2.St} {H : Hp} {Q : VK} {QA : List V → Hp → Prop} {QB : Bool → Hp → Prop} {ta tb tc te : TE} {tr : TA} {x y z v : V} {i j : Int} {n : Nat}
theorem var (q : Q v H) (h : σ[n]? = some (some v) := by with_unfolding_all rfl) : tVar n σ H Q := ⟨v, h, q⟩
theorem c (q : Q v H) : tC v σ H Q := q
theorem op {r : R2} (q : ta σ H fun x H1 => tb σ H1 fun y H2 => r x y H2 Q) : tOp r ta tb σ H Q := q
theorem un {r : V → Hp → VK → Prop} (q : ta σ H fun x H1 => r x H1 Q) : tUn r ta σ H Q := q
theorem neg (q : Q (.int (-i)) H) : rU (fun i => .int (-i)) (.int i) H Q := ⟨i, rfl, q⟩
theorem test (q : te σ H fun x H' => ∃ k, x = .bl k ∧ QB k H') : tTest te σ H QB := q
theorem tB' (q : te σ H fun x H' => ∃ k, x = .bl k ∧ QB k H') : tB te σ H QB := q
theorem bl {b : Bool} {F : Bool → Prop} (q : F b) : ∃ k, V.bl b = .bl k ∧ F k := ⟨b, rfl, q⟩
theorem tru (q : te σ H fun x H' => ∃ k, TruV K x H' k ∧ QB k H') : tTru K te σ H QB := q
theorem and' {t u : TT} (q : t σ H fun c H1 => if c = true then u σ H1 QB else QB false H1) : tAnd t u σ H QB := q
theorem or' {t u : TT} (q : t σ H fun c H1 => if c = true then QB true H1 else u σ H1 QB) : tOr t u σ H QB := q
theorem not' {t : TT} (q : t σ H fun c H1 => QB (!c) H1) : tNot t σ H QB := q
theorem yes (q : QB true H) : tYes σ H QB := q
theorem andV (q : ta σ H fun x H1 => ∃ c, x = .bl c ∧ if c = true then tb σ H1 Q else Q (.bl false) H1) : tAndV ta tb σ H Q := q
theorem orV (q : ta σ H fun x H1 => ∃ c, x = .bl c ∧ if c = true then Q (.bl true) H1 else tb σ H1 Q) : tOrV ta tb σ H Q := q
theorem notV (q : ta σ H fun x H1 => ∃ c, x = .bl c ∧ Q (.bl (!c)) H1) : tNotV ta σ H Q := q
theorem ifE {t : TT} (q : t σ H fun c H1 => if c = true then ta σ H1 Q else tb σ H1 Q) : tIf t ta tb σ H Q := q
theorem cons (q : ta σ H fun x H1 => tr σ H1 fun xs H2 => QA (x :: xs) H2) : tCons ta tr σ H QA := q
theorem nil (q : QA [] H) : tNil σ H QA := q
theorem call {sp : Sp} {E : XK} (q : tr σ H fun vs H1 => sp (vs ++ []) H1 Q E) : tCall sp [] E tr σ H Q := q
theorem app {sp : Sp} {E : XK} {vs : List V} (q : sp vs H Q E) : sp (vs ++ []) H Q E := by
  rw [List.append_nil]
  exact q
theorem cb {r : List V → Hp → VK → Prop} (q : tr σ H fun vs H1 => r vs H1 Q) : tCB r tr σ H Q := q
theorem tup (q : tr σ H fun xs H1 => xs.length ≤ sizeLine ∧ ∀ p, H1 p = none → Q (.ref p) (upd H1 p (.tup xs))) : tTup tr σ H Q := q
theorem lst (q : tr σ H fun xs H1 => xs.length ≤ sizeLine ∧ ∀ p, H1 p = none → Q (.ref p) (upd H1 p (.lst xs))) : tLst tr σ H Q := q
theorem sl {r : V → Option Int → Option Int → Hp → VK → Prop} {tl th : TO} (q : te σ H fun x H1 => tl σ H1 fun l H2 => th σ H2 fun u H3 => r x l u H3 Q) : tSl r te tl th σ H Q := q
theorem noPart {QO : Option Int → Hp → Prop} (q : QO none H) : tNoPart σ H QO := q
theorem part {QO : Option Int → Hp → Prop} (q : te σ H fun x H1 => ∃ i, x = .int i ∧ QO (some i) H1) : tPart te σ H QO := q
theorem exI {F : Int → Prop} (q : F i) : ∃ k, V.int i = .int k ∧ F k := ⟨i, rfl, q⟩
theorem chain {r r' : R2} (q : ta σ H fun x H1 => tb σ H1 fun y H2 => r x y H2 fun z H3 => ∃ k, z = .bl k ∧ (if k = true then tc σ H3 fun w' H4 => r' y w' H4 Q else Q (.bl false) H3)) : tChain r r' ta tb tc σ H Q := q
/-! operators by values -/
theorem addI (q : Q (.int (i + j)) H) : rAddA K (.int i) (.int j) H Q := .inl ⟨i, j, rfl, rfl, q⟩
theorem addS {a b : Str} (h : a.length + b.length ≤ sizeLine) (q : Q (.str (a ++ b)) H) : rAddA K (.str a) (.str b) H Q := .inr (.inl ⟨a, b, rfl, rfl, h, q⟩)
theorem cat {p b : Addr} {xs ys : List V} (h : H p = some (.lst xs)) (h2 : H b = some (.lst ys)) (hl : xs.length + ys.length ≤ sizeLine) (q : ∀ l, H l = none → Q (.ref l) (upd H l (.lst (xs ++ ys)))) : rAddA K (.ref p) (.ref b) H Q :=
  .inr (.inr (.inl ⟨p, b, xs, ys, rfl, rfl, h, h2, hl, q⟩))
theorem catT {p b : Addr} {xs ys : List V} (h : SqT K H p xs) (h2 : SqT K H b ys) (h0 : xs ≠ []) (hl : xs.length + ys.length ≤ sizeLine) (q : ys = [] → Q (.ref p) H) (q2 : ys ≠ [] → ∀ l, H l = none → Q (.ref l) (upd H l (.tup (xs ++ ys)))) : rAddA K (.ref p) (.ref b) H Q :=
  .inr (.inr (.inr ⟨p, b, xs, ys, rfl, rfl, h, h2, h0, hl, q, q2⟩))
theorem subI (q : Q (.int (i - j)) H) : rSubA (.int i) (.int j) H Q := ⟨i, j, rfl, rfl, q⟩
theorem mulI (h : CMulA i j) (q : Q (.int (i * j)) H) : rMulA (.int i) (.int j) H Q := .inl ⟨i, j, rfl, rfl, h, q⟩
theorem rep {p : Addr} {xs : List V} (h : H p = some (.lst xs)) (h1 : -(2 ^ 63) ≤ i) (h2 : i < 2 ^ 63) (hl : xs.length * i.toNat ≤ sizeLine) (q : ∀ l, H l = none → Q (.ref l) (upd H l (.lst (List.replicate i.toNat xs).flatten))) : rMulA (.ref p) (.int i) H Q :=
  .inr ⟨p, i, xs, rfl, rfl, h, h1, h2, hl, q⟩
theorem modI (h : 0 < j) (q : Q (.int (i % j)) H) : rModA (.int i) (.int j) H Q := ⟨i, j, rfl, rfl, h, q⟩
theorem divI (h : CDivW i j) (q : Q (.int (i / j)) H) : rDivA (.int i) (.int j) H Q := ⟨i, j, rfl, rfl, h, q⟩
theorem powI (h : CPow i j) (q : Q (.int (i ^ j.toNat)) H) : rPowA (.int i) (.int j) H Q := ⟨i, j, rfl, rfl, h, q⟩
theorem shlI (h : CPow i j) (q : Q (.int (i * 2 ^ j.toNat)) H) : rShlA (.int i) (.int j) H Q := ⟨i, j, rfl, rfl, h, q⟩
theorem shrI (h : 0 ≤ j) (q : Q (.int (i / 2 ^ j.toNat)) H) : rShrA (.int i) (.int j) H Q := ⟨i, j, rfl, rfl, h, q⟩
theorem andI (q : Q (.int (Builtin.bitAnd i j)) H) : rAndA (.int i) (.int j) H Q := ⟨i, j, rfl, rfl, q⟩
theorem and3 (q : Q (.int (i % 4)) H) : rAndA (.int i) (.int 3) H Q := ⟨i, 3, rfl, rfl, by show Q (.int (Builtin.bitAnd i 3)) H; rw [bitAnd_m2]; exact q⟩
theorem and15 (h : 0 ≤ i) (q : Q (.int (i % 16)) H) : rAndA (.int i) (.int 15) H Q := ⟨i, 15, rfl, rfl, by show Q (.int (Builtin.bitAnd i 15)) H; rw [show Builtin.bitAnd i 15 = i % 16 from Bits.bitAnd_mask 4 h]; exact q⟩
theorem shr4 (q : Q (.int (i / 16)) H) : rShrA (.int i) (.int 4) H Q := ⟨i, 4, rfl, rfl, (by decide : (0 : Int) ≤ 4), q⟩
theorem shr2 (q : Q (.int (i / 4)) H) : rShrA (.int i) (.int 2) H Q := ⟨i, 2, rfl, rfl, (by decide : (0 : Int) ≤ 2), q⟩
theorem orI (q : Q (.int (Builtin.bitOr i j)) H) : rOrA (.int i) (.int j) H Q := ⟨i, j, rfl, rfl, q⟩
theorem xorI (q : Q (.int (Builtin.bitXor i j)) H) : rXorA (.int i) (.int j) H Q := ⟨i, j, rfl, rfl, q⟩
theorem ltI (q : Q (.bl (decide (i < j))) H) : rLtA (.int i) (.int j) H Q := ⟨i, j, rfl, rfl, q⟩
theorem leI (q : Q (.bl (decide (i ≤ j))) H) : rLeA (.int i) (.int j) H Q := ⟨i, j, rfl, rfl, q⟩
theorem gtI (q : Q (.bl (decide (j < i))) H) : rGtA (.int i) (.int j) H Q := ⟨i, j, rfl, rfl, q⟩
theorem geI (q : Q (.bl (decide (j ≤ i))) H) : rGeA (.int i) (.int j) H Q := ⟨i, j, rfl, rfl, q⟩
theorem dI : decide (V.int i = V.int j) = decide (i = j) := by
  rw [dec_int]
  exact (Bool.beq_eq_decide_eq i j)
theorem dS {a b : Str} : decide (V.str a = V.str b) = decide (a = b) := by
  by_cases h : a = b
  · rw [h, decide_eq_true rfl, decide_eq_true rfl]
  · rw [decide_eq_false h, decide_eq_false fun q => h (V.str.inj q)]
theorem dB {a b : Bool} : decide (V.bl a = V.bl b) = decide (a = b) := by
  by_cases h : a = b
  · rw [h, decide_eq_true rfl, decide_eq_true rfl]
  · rw [decide_eq_false h, decide_eq_false fun q => h (V.bl.inj q)]
theorem eqI (q : Q (.bl (decide (i = j))) H) : rEqA K (.int i) (.int j) H Q := .inl ⟨rfl, by rw [dI]; exact q⟩
theorem eqS {a b : Str} (q : Q (.bl (decide (a = b))) H) : rEqA K (.str a) (.str b) H Q := .inl ⟨rfl, by rw [dS]; exact q⟩
theorem eqB {a b : Bool} (q : Q (.bl (decide (a = b))) H) : rEqA K (.bl a) (.bl b) H Q := .inl ⟨rfl, by rw [dB]; exact q⟩
theorem neI (q : Q (.bl (!decide (i = j))) H) : rNeA K (.int i) (.int j) H Q := .inl ⟨rfl, by rw [dI]; exact q⟩
theorem neS {a b : Str} (q : Q (.bl (!decide (a = b))) H) : rNeA K (.str a) (.str b) H Q := .inl ⟨rfl, by rw [dS]; exact q⟩
theorem neB {a b : Bool} (q : Q (.bl (!decide (a = b))) H) : rNeA K (.bl a) (.bl b) H Q := .inl ⟨rfl, by rw [dB]; exact q⟩
theorem eqD {d e : PyData} (hx : Dp K H x d) (hy : Dp K H y e) (sd : SeqAt.shaped d = true) (se : SeqAt.shaped e = true) (q : Q (.bl (PyData.eqv d e)) H) : rEqA K x y H Q := .inr ⟨d, e, hx, hy, sd, se, q⟩
theorem neD {d e : PyData} (hx : Dp K H x d) (hy : Dp K H y e) (sd : SeqAt.shaped d = true) (se : SeqAt.shaped e = true) (q : Q (.bl (!PyData.eqv d e)) H) : rNeA K x y H Q := .inr ⟨d, e, hx, hy, sd, se, q⟩
theorem isN (q : Q (.bl (decide (x = .non))) H) : rIsN x .non H Q := ⟨rfl, q⟩
theorem notN (q : Q (.bl (!decide (x = .non))) H) : rNotN x .non H Q := ⟨rfl, q⟩
theorem isNn (q : Q (.bl true) H) : rIsN .non .non H Q := ⟨rfl, by rw [decide_eq_true rfl]; exact q⟩
theorem isNr {p : Addr} (q : Q (.bl false) H) : rIsN (.ref p) .non H Q := ⟨rfl, by rw [decide_eq_false fun z => nomatch z]; exact q⟩
theorem isNi (q : Q (.bl false) H) : rIsN (.int i) .non H Q := ⟨rfl, by rw [decide_eq_false fun z => nomatch z]; exact q⟩
theorem isNb {b : Bool} (q : Q (.bl false) H) : rIsN (.bl b) .non H Q := ⟨rfl, by rw [decide_eq_false fun z => nomatch z]; exact q⟩
theorem isNs {s : Str} (q : Q (.bl false) H) : rIsN (.str s) .non H Q := ⟨rfl, by rw [decide_eq_false fun z => nomatch z]; exact q⟩
theorem notNb {b : Bool} (q : Q (.bl true) H) : rNotN (.bl b) .non H Q := ⟨rfl, by rw [decide_eq_false fun z => nomatch z]; exact q⟩
theorem notNs {s : Str} (q : Q (.bl true) H) : rNotN (.str s) .non H Q := ⟨rfl, by rw [decide_eq_false fun z => nomatch z]; exact q⟩
theorem eqBx {b : Bool} (q : Q (.bl true) H) : rEqA K (.bl b) (.bl b) H Q := eqB (by rw [decide_eq_true rfl]; exact q)
theorem neBx {b : Bool} (q : Q (.bl false) H) : rNeA K (.bl b) (.bl b) H Q := neB (by rw [decide_eq_true rfl]; exact q)
theorem eqIx {i : Int} (q : Q (.bl true) H) : rEqA K (.int i) (.int i) H Q := eqI (by rw [decide_eq_true rfl]; exact q)
theorem neIx {i : Int} (q : Q (.bl false) H) : rNeA K (.int i) (.int i) H Q := neI (by rw [decide_eq_true rfl]; exact q)
theorem eqSx {b : Str} (q : Q (.bl true) H) : rEqA K (.str b) (.str b) H Q := eqS (by rw [decide_eq_true rfl]; exact q)
theorem neSx {b : Str} (q : Q (.bl false) H) : rNeA K (.str b) (.str b) H Q := neS (by rw [decide_eq_true rfl]; exact q)
theorem notNn (q : Q (.bl false) H) : rNotN .non .non H Q := ⟨rfl, by rw [decide_eq_true rfl]; exact q⟩
theorem notNr {p : Addr} (q : Q (.bl true) H) : rNotN (.ref p) .non H Q := ⟨rfl, by rw [decide_eq_false fun z => nomatch z]; exact q⟩
theorem notNi (q : Q (.bl true) H) : rNotN (.int i) .non H Q := ⟨rfl, by rw [decide_eq_false fun z => nomatch z]; exact q⟩
theorem inKDi {a : Addr} {w : World} {kvs : List (Key × V)} (D : KD K w a kvs) (q : Q (.bl (valV kvs (Sum.inl i)).isSome) H) : rInKD K w (.int i) (.ref a) H Q := ⟨a, kvs, Sum.inl i, rfl, rfl, D, q⟩
theorem inKDs {a : Addr} {w : World} {kvs : List (Key × V)} {s : Str} (D : KD K w a kvs) (q : Q (.bl (valV kvs (Sum.inr s)).isSome) H) : rInKD K w (.str s) (.ref a) H Q := ⟨a, kvs, Sum.inr s, rfl, rfl, D, q⟩
theorem ixKDi {a : Addr} {w : World} {kvs : List (Key × V)} (D : KD K w a kvs) (h : valV kvs (Sum.inl i) = some v) (q : Q v H) : rIxKD K w (.ref a) (.int i) H Q := ⟨a, kvs, Sum.inl i, v, rfl, rfl, D, h, q⟩
theorem ixKDs {a : Addr} {w : World} {kvs : List (Key × V)} {s : Str} (D : KD K w a kvs) (h : valV kvs (Sum.inr s) = some v) (q : Q v H) : rIxKD K w (.ref a) (.str s) H Q := ⟨a, kvs, Sum.inr s, v, rfl, rfl, D, h, q⟩
theorem valV_ints {α : Type} {f : α → V} (k : Int) : ∀ l : List (Int × α), valV (l.map fun p => ((Sum.inl p.1 : Key), f p.2)) (Sum.inl k) = (l.lookup k).map f
  | [] => rfl
  | (j, x) :: r => by
    rw [List.map_cons]
    by_cases h : j = k
    · rw [valV_pos (p := ((Sum.inl j : Key), f x)) (by rw [h]), h, List.lookup_cons_self]
      rfl
    · rw [valV_neg (p := ((Sum.inl j : Key), f x)) (fun q => h (Sum.inl.inj q)), valV_ints k r, List.lookup_cons]
      have e : (k == j) = false := beq_eq_false_iff_ne.mpr fun q => h q.symm
      rw [e]
/-! items -/
theorem ixL {p : Addr} {xs : List V} (h : SqL K H p xs) (hi : atI xs i = some v) (q : Q v H) : rIx K (.ref p) (.int i) H Q := .inl ⟨p, xs, i, v, rfl, rfl, h, hi, q⟩
theorem ixT {p : Addr} {xs : List V} (h : SqT K H p xs) (hi : atI xs i = some v) (q : Q v H) : rIx K (.ref p) (.int i) H Q := .inr (.inl ⟨p, xs, i, v, rfl, rfl, h, hi, q⟩)
theorem ixS {s : Str} {k : Nat} (hl : s.length ≤ sizeLine) (hi : atI s.cps.toList i = some k) (q : Q (.str ⟨#[k]⟩) H) : rIx K (.str s) (.int i) H Q := .inr (.inr ⟨s, i, k, rfl, rfl, hl, hi, q⟩)
theorem atI_pos {α : Type} {xs : List α} {v : α} (h0 : 0 ≤ i) (h : xs[i.toNat]? = some v) : atI xs i = some v := by
  have e : ((i.toNat : Nat) : Int) = i := Int.toNat_of_nonneg h0
  rw [← e]
  exact atI_nat h
theorem ixT0 {p : Addr} {xs : List V} (h : SqT K H p (x :: xs)) (q : Q x H) : rIx K (.ref p) (.int 0) H Q := ixT h (atI_pos (Int.le_refl 0) rfl) q
theorem ixT1 {p : Addr} {xs : List V} (h : SqT K H p (x :: y :: xs)) (q : Q y H) : rIx K (.ref p) (.int 1) H Q := ixT h (atI_pos (by decide) rfl) q
theorem ixL0 {p : Addr} {xs : List V} (h : SqL K H p (x :: xs)) (q : Q x H) : rIx K (.ref p) (.int 0) H Q := ixL h (atI_pos (Int.le_refl 0) rfl) q
theorem ixL1 {p : Addr} {xs : List V} (h : SqL K H p (x :: y :: xs)) (q : Q y H) : rIx K (.ref p) (.int 1) H Q := ixL h (atI_pos (by decide) rfl) q
/-- an item of a list of ints -/
theorem ixLI {p : Addr} {ns : List Int} (h : SqL K H p (ns.map V.int)) (h0 : 0 ≤ i) (h1 : i < ns.length) (q : ∀ m, ns[i.toNat]? = some m → m ∈ ns → Q (.int m) H) : rIx K (.ref p) (.int i) H Q := by
  have hl : i.toNat < ns.length := by omega
  have e : ns[i.toNat]? = some ns[i.toNat] := List.getElem?_eq_getElem hl
  exact ixL h (atI_pos h0 (by rw [List.getElem?_map, e]; rfl)) (q _ e (List.mem_of_getElem? e))
/-- any item of a list -/
theorem ixLV {p : Addr} {xs : List V} (h : SqL K H p xs) (h0 : 0 ≤ i) (h1 : i < xs.length) (q : ∀ m, xs[i.toNat]? = some m → m ∈ xs → Q m H) : rIx K (.ref p) (.int i) H Q := by
  have hl : i.toNat < xs.length := by omega
  have e : xs[i.toNat]? = some xs[i.toNat] := List.getElem?_eq_getElem hl
  exact ixL h (atI_pos h0 e) (q _ e (List.mem_of_getElem? e))
theorem ixTV {p : Addr} {xs : List V} (h : SqT K H p xs) (h0 : 0 ≤ i) (h1 : i < xs.length) (q : ∀ m, xs[i.toNat]? = some m → m ∈ xs → Q m H) : rIx K (.ref p) (.int i) H Q := by
  have hl : i.toNat < xs.length := by omega
  have e : xs[i.toNat]? = some xs[i.toNat] := List.getElem?_eq_getElem hl
  exact ixT h (atI_pos h0 e) (q _ e (List.mem_of_getElem? e))
theorem setL {p : Addr} {xs : List V} {QS : Hp → Prop} {k : Nat} (h : H p = some (.lst xs)) (hi : ixN xs.length i = some k) (q : QS (upd H p (.lst (xs.set k v)))) : rSetL (.ref p) (.int i) v H QS := ⟨p, xs, i, k, rfl, rfl, h, hi, q⟩
theorem ixN_pos {n : Nat} (h0 : 0 ≤ i) (h : i < n) : ixN n i = some i.toNat := by
  unfold ixN
  rw [if_pos h0, if_pos h]
theorem setLI {p : Addr} {ns : List Int} {n : Int} {QS : Hp → Prop} (h : H p = some (.lst (ns.map V.int))) (h0 : 0 ≤ i) (h1 : i < ns.length) (q : QS (upd H p (.lst ((ns.set i.toNat n).map V.int)))) : rSetL (.ref p) (.int i) (.int n) H QS :=
  setL (k := i.toNat) h (by rw [List.length_map]; exact ixN_pos h0 h1) (by rw [← List.map_set]; exact q)
theorem gName {QS : L2.St → Hp → Prop} (q : QS (σ.set n (some v)) H) : L2.gName n v σ H QS := q
theorem gSub {to ti : TE} {ts : TSet} {QS : L2.St → Hp → Prop} (q : to σ H fun o H1 => ti σ H1 fun i H2 => ts o i v H2 fun H3 => QS σ H3) : L2.gSub to ti ts v σ H QS := q
theorem gTup {k : Nat} {t : TGs} {p : Addr} {xs : List V} {QS : L2.St → Hp → Prop} (h : SqT K H p xs) (hl : xs.length = k) (q : t xs σ H QS) : L2.gTup K k t (.ref p) σ H QS := ⟨p, xs, rfl, h, hl, q⟩
theorem gCons {t : TG} {u : TGs} {vs : List V} {QS : L2.St → Hp → Prop} (q : t v σ H fun σ' H' => u vs σ' H' QS) : L2.gCons t u (v :: vs) σ H QS := ⟨v, vs, rfl, q⟩
theorem gNil {QS : L2.St → Hp → Prop} (q : QS σ H) : L2.gNil [] σ H QS := ⟨rfl, q⟩
theorem slL {p : Addr} {xs : List V} {lo hi : Option Int} (h : SqL K H p xs) (q : ∀ l, H l = none → Q (.ref l) (upd H l (.lst (cutV xs lo hi)))) : rSlA K (.ref p) lo hi H Q := .inl ⟨p, xs, rfl, h, q⟩
theorem slFrom {p : Addr} {xs : List V} (h : SqL K H p xs) (h0 : 0 ≤ i) (q : ∀ l, H l = none → Q (.ref l) (upd H l (.lst (xs.drop i.toNat)))) : rSlA K (.ref p) (some i) none H Q := slL h (by rw [cut_fromI _ h0]; exact q)
theorem slTo {p : Addr} {xs : List V} (h : SqL K H p xs) (h0 : 0 ≤ i) (q : ∀ l, H l = none → Q (.ref l) (upd H l (.lst (xs.take i.toNat)))) : rSlA K (.ref p) none (some i) H Q := slL h (by rw [cut_toI _ h0]; exact q)
theorem slFromI {p : Addr} {ns : List Int} (h : SqL K H p (ns.map V.int)) (h0 : 0 ≤ i) (q : ∀ l, H l = none → Q (.ref l) (upd H l (.lst ((ns.drop i.toNat).map V.int)))) : rSlA K (.ref p) (some i) none H Q := slFrom h h0 (by rw [← List.map_drop]; exact q)
theorem slToI {p : Addr} {ns : List Int} (h : SqL K H p (ns.map V.int)) (h0 : 0 ≤ i) (q : ∀ l, H l = none → Q (.ref l) (upd H l (.lst ((ns.take i.toNat).map V.int)))) : rSlA K (.ref p) none (some i) H Q := slTo h h0 (by rw [← List.map_take]; exact q)
theorem repIf {p : Addr} {b : Bool} (h : H p = some (.lst [x])) (q : ∀ l, H l = none → Q (.ref l) (upd H l (.lst (if b then [x] else [])))) : rMulA (.ref p) (.int (if b then 1 else 0)) H Q :=
  rep h (by split <;> decide) (by split <;> decide) (by cases b <;> exact (by decide : (1 : Nat) * 1 ≤ sizeLine ∧ 1 * 0 ≤ sizeLine).elim (fun a c => by first | exact a | exact c)) (by rw [rep_if]; exact q)
theorem repIfI {p : Addr} {b : Bool} (h : H p = some (.lst [.int j])) (q : ∀ l, H l = none → Q (.ref l) (upd H l (.lst ((if b then [j] else []).map V.int)))) : rMulA (.ref p) (.int (if b then 1 else 0)) H Q :=
  repIf h (by
    have e : (if b then [V.int j] else []) = (if b then [j] else []).map V.int := by cases b <;> rfl
    rw [e]
    exact q)
theorem catI {p b : Addr} {xs ys : List Int} (h : H p = some (.lst (xs.map V.int))) (h2 : H b = some (.lst (ys.map V.int))) (hl : xs.length + ys.length ≤ sizeLine) (q : ∀ l, H l = none → Q (.ref l) (upd H l (.lst ((xs ++ ys).map V.int)))) : rAddA K (.ref p) (.ref b) H Q :=
  cat h h2 (by rw [List.length_map, List.length_map]; exact hl) (by rw [← List.map_append]; exact q)
/-! built-ins -/
theorem lenL {p : Addr} {xs : List V} (h : SqL K H p xs) (q : Q (.int xs.length) H) : rLenA K [.ref p] H Q := ⟨.ref p, xs.length, rfl, .inl ⟨xs, h, rfl⟩, q⟩
theorem lenT {p : Addr} {xs : List V} (h : SqT K H p xs) (q : Q (.int xs.length) H) : rLenA K [.ref p] H Q := ⟨.ref p, xs.length, rfl, .inr ⟨xs, h, rfl⟩, q⟩
theorem lenLI {p : Addr} {ns : List Int} (h : SqL K H p (ns.map V.int)) (q : Q (.int ns.length) H) : rLenA K [.ref p] H Q := lenL h (by rw [List.length_map]; exact q)
theorem lenTI {p : Addr} {ns : List Int} (h : SqT K H p (ns.map V.int)) (q : Q (.int ns.length) H) : rLenA K [.ref p] H Q := lenT h (by rw [List.length_map]; exact q)
theorem lenS {s : Str} (h : s.length ≤ sizeLine) (q : Q (.int s.length) H) : rLenA K [.str s] H Q := ⟨.str s, s.length, rfl, ⟨h, rfl⟩, q⟩
theorem intI (q : Q (.int i) H) : rInt1 [.int i] H Q := .inl ⟨i, rfl, q⟩
theorem intB {b : Bool} (q : Q (.int (if b then 1 else 0)) H) : rInt1 [.bl b] H Q := .inr ⟨b, rfl, q⟩
theorem abs' (q : Q (.int (if i < 0 then -i else i)) H) : rAbs [.int i] H Q := ⟨i, rfl, q⟩
theorem min2 (q : Q (.int (if j < i then j else i)) H) : rMin2 [.int i, .int j] H Q := ⟨i, j, rfl, q⟩
theorem max2 (q : Q (.int (if j > i then j else i)) H) : rMax2 [.int i, .int j] H Q := ⟨i, j, rfl, q⟩
theorem listL {p : Addr} {xs : List V} (h : SqL K H p xs) (q : ∀ l, H l = none → Q (.ref l) (upd H l (.lst xs))) : rListA K [.ref p] H Q := ⟨p, xs, rfl, .inl h, q⟩
theorem listT {p : Addr} {xs : List V} (h : SqT K H p xs) (q : ∀ l, H l = none → Q (.ref l) (upd H l (.lst xs))) : rListA K [.ref p] H Q := ⟨p, xs, rfl, .inr h, q⟩
theorem tupL {p : Addr} {xs : List V} (h : SqL K H p xs) (q : ∀ l, H l = none → Q (.ref l) (upd H l (.tup xs))) : rTupA K [.ref p] H Q := ⟨p, xs, rfl, .inl ⟨h, q⟩⟩
theorem tupT {p : Addr} {xs : List V} (h : SqT K H p xs) (q : Q (.ref p) H) : rTupA K [.ref p] H Q := ⟨p, xs, rfl, .inr ⟨h, q⟩⟩
theorem all' {p : Addr} {bs : List Bool} (h : SqL K H p (bs.map V.bl)) (q : Q (.bl (bs.all id)) H) : rAll K [.ref p] H Q := ⟨p, bs, rfl, h, q⟩
theorem any' {p : Addr} {bs : List Bool} (h : SqL K H p (bs.map V.bl)) (q : Q (.bl (bs.any id)) H) : rAny K [.ref p] H Q := ⟨p, bs, rfl, h, q⟩
theorem isiD {d : PyData} {cT : String} {b : Bool} (h : Dp K H x d) (hk : kitB (tyD d) cT = some b) (q : Q (.bl b) H) : rIsi K [x, .ty cT] H Q := ⟨x, .ty cT, _, .type cT, b, rfl, .ty cT, Dp.ty h, kit_ty hk, q⟩
theorem isi {T cT : String} {b : Bool} (ht : TyX K H x (.type T)) (hk : kitB T cT = some b) (q : Q (.bl b) H) : rIsi K [x, .ty cT] H Q := ⟨x, .ty cT, _, .type cT, b, rfl, .ty cT, ht, kit_ty hk, q⟩
/-! tests that are known -/
theorem iT {A B : Prop} (h : A) : if true = true then A else B := iteT h
theorem iF {A B : Prop} (h : B) : if false = true then A else B := iteF h
theorem iFO {b : Bool} {A B : Prop} (h : if b = true then A else B) : if (false || b) = true then A else B := by rw [Bool.false_or]; exact h
theorem iTO {b : Bool} {A B : Prop} (h : A) : if (true || b) = true then A else B := by rw [Bool.true_or]; exact iteT h
theorem iFA {b : Bool} {A B : Prop} (h : B) : if (false && b) = true then A else B := by rw [Bool.false_and]; exact iteF h
theorem iTA {b : Bool} {A B : Prop} (h : if b = true then A else B) : if (true && b) = true then A else B := by rw [Bool.true_and]; exact h
theorem iDT {p A B : Prop} [Decidable p] (hp : p) (h : A) : if decide p = true then A else B := by rw [decide_eq_true hp]; exact iteT h
theorem iDF {p A B : Prop} [Decidable p] (hp : ¬ p) (h : B) : if decide p = true then A else B := by rw [decide_eq_false hp]; exact iteF h
theorem iD {p A B : Prop} [Decidable p] (h1 : p → A) (h2 : ¬ p → B) : if decide p = true then A else B := by
  by_cases h : p
  · rw [decide_eq_true h]
    exact iteT (h1 h)
  · rw [decide_eq_false h]
    exact iteF (h2 h)
theorem iN {p A B : Prop} [Decidable p] (h1 : ¬ p → A) (h2 : p → B) : if (!decide p) = true then A else B := by
  by_cases h : p
  · rw [decide_eq_true h]
    exact iteF (h2 h)
  · rw [decide_eq_false h]
    exact iteT (h1 h)
theorem iB {b : Bool} {A B : Prop} (h1 : b = true → A) (h2 : b = false → B) : if b = true then A else B := by
  cases b with
  | true => exact iteT (h1 rfl)
  | false => exact iteF (h2 rfl)
end
section
variable {σ : L2.St} {H : Hp} {t u : TT} {QB : Bool → Hp → Prop} {b b' : Bool}
theorem andB (ht : ∀ QB : Bool → Hp → Prop, QB b H → t σ H QB) (hu : b = true → ∀ QB : Bool → Hp → Prop, QB b' H → u σ H QB) (q : QB (b && b') H) : tAnd t u σ H QB := by
  refine ht _ ?_
  cases b with
  | true => exact iteT (hu rfl _ q)
  | false => exact iteF q
theorem orB (ht : ∀ QB : Bool → Hp → Prop, QB b H → t σ H QB) (hu : b = false → ∀ QB : Bool → Hp → Prop, QB b' H → u σ H QB) (q : QB (b || b') H) : tOr t u σ H QB := by
  refine ht _ ?_
  cases b with
  | true => exact iteT q
  | false => exact iteF (hu rfl _ q)
theorem chainB {ta tb tc : TE} {r r' : R2} {x y z : V} {Q : VK} (ha : ∀ Q : VK, Q x H → ta σ H Q) (hb : ∀ Q : VK, Q y H → tb σ H Q) (hr : ∀ Q : VK, Q (.bl b) H → r x y H Q) (hc : b = true → ∀ Q : VK, Q z H → tc σ H Q) (hr' : b = true → ∀ Q : VK, Q (.bl b') H → r' y z H Q)
    (q : Q (.bl (b && b')) H) : tChain r r' ta tb tc σ H Q := by
  refine ha _ (hb _ (hr _ ⟨b, rfl, ?_⟩))
  cases b with
  | true => exact iteT (hc rfl _ (hr' rfl _ q))
  | false => exact iteF q
theorem iNot {b : Bool} {A B : Prop} (h : if b = true then B else A) : if (!b) = true then A else B := by
  cases b with
  | true => exact iteF (by rw [if_pos rfl] at h; exact h)
  | false => exact iteT (by rw [if_neg Bool.false_ne_true] at h; exact h)
theorem iAnd {p r A B : Prop} [Decidable p] [Decidable r] (h1 : p → r → A) (h2 : ¬ (p ∧ r) → B) : if (decide p && decide r) = true then A else B := by
  by_cases a : p
  · by_cases c : r
    · rw [decide_eq_true a, decide_eq_true c]
      exact iteT (h1 a c)
    · rw [decide_eq_false c, Bool.and_false]
      exact iteF (h2 fun z => c z.2)
  · rw [decide_eq_false a, Bool.false_and]
    exact iteF (h2 fun z => a z.1)
theorem iOr {p r A B : Prop} [Decidable p] [Decidable r] (h1 : p ∨ r → A) (h2 : ¬ p → ¬ r → B) : if (decide p || decide r) = true then A else B := by
  by_cases a : p
  · rw [decide_eq_true a, Bool.true_or]
    exact iteT (h1 (.inl a))
  · by_cases c : r
    · rw [decide_eq_true c, Bool.or_true]
      exact iteT (h1 (.inr c))
    · rw [decide_eq_false a, decide_eq_false c]
      exact iteF (h2 a c)
end
theorem cdiv {i j : Int} (h0 : 0 < j) (h1 : j < 1073741824) : CDivW i j := wide_div (b := 30) h0 (by omega) (by decide) (by decide)
theorem cpow {i j : Int} (h : decide (0 ≤ j ∧ j ≤ 1000000 ∧ i.natAbs < 2 ^ 64) = true) : CPow i j := by
  unfold CPow
  exact of_decide_eq_true h
theorem cmul1 {i j : Int} (h1 : -(2 ^ 64) < i) (h2 : i < 2 ^ 64) : CMulA i j := .inl (.inl ⟨h1, h2⟩)
theorem cmul2 {i j : Int} (h1 : -(2 ^ 64) < j) (h2 : j < 2 ^ 64) : CMulA i j := .inl (.inr ⟨h1, h2⟩)
theorem cdivL {i j : Int} (h : decide (0 < j ∧ j.natAbs.log2 < 9000) = true) : CDivW i j := by
  unfold CDivW
  exact of_decide_eq_true h
/-! ## statements; what follows written out -/
section
variable {K : PySem.W.Frag} {σ : L2.St} {H : Hp} {te : TE} {t u : TS} {nx bk ct : L2.St → Hp → Prop} {rt : VK} {g : TG} {n : Nat}
theorem seq (q : t ⟨u ⟨nx, rt, bk, ct⟩, rt, bk, ct⟩ σ H) : tSeq t u ⟨nx, rt, bk, ct⟩ σ H := q
/-- what follows, proved once for all ways -/
theorem joinS (P : L2.St → Hp → Prop) (key : ∀ σ H, P σ H → nx σ H) (q : ∀ N : L2.St → Hp → Prop, (∀ σ H, P σ H → N σ H) → t ⟨N, rt, bk, ct⟩ σ H) : t ⟨nx, rt, bk, ct⟩ σ H := q nx key
theorem next (q : nx σ H) : tNext ⟨nx, rt, bk, ct⟩ σ H := q
theorem asg (q : te σ H fun x H1 => g x σ H1 nx) : tAsg te g ⟨nx, rt, bk, ct⟩ σ H := q
theorem ret (q : te σ H rt) : tRet te ⟨nx, rt, bk, ct⟩ σ H := q
theorem retN (q : rt .non H) : tRetN ⟨nx, rt, bk, ct⟩ σ H := q
theorem drop (q : te σ H fun _ H1 => nx σ H1) : tDrop te ⟨nx, rt, bk, ct⟩ σ H := q
theorem ifS {c : TT} (q : c σ H fun b H1 => if b = true then t ⟨nx, rt, bk, ct⟩ σ H1 else u ⟨nx, rt, bk, ct⟩ σ H1) : tIfS c t u ⟨nx, rt, bk, ct⟩ σ H := q
theorem par {i j : Nat} {ta : TA} (q : ta σ H fun vs H1 => ∃ v w, vs = [v, w] ∧ nx ((σ.set i (some v)).set j (some w)) H1) : tPar i j ta ⟨nx, rt, bk, ct⟩ σ H := q
theorem par3 {i j l : Nat} {ta : TA} (q : ta σ H fun vs H1 => ∃ u v w, vs = [u, v, w] ∧ nx (((σ.set i (some u)).set j (some v)).set l (some w)) H1) : tPar3 i j l ta ⟨nx, rt, bk, ct⟩ σ H := q
theorem ex2 {a b : V} {F : V → V → Prop} (q : F a b) : ∃ v w, [a, b] = [v, w] ∧ F v w := ⟨a, b, rfl, q⟩
theorem ex3 {a b c : V} {F : V → V → V → Prop} (q : F a b c) : ∃ u v w, [a, b, c] = [u, v, w] ∧ F u v w := ⟨a, b, c, rfl, q⟩
theorem aug {ti : TIp} {v : V} (q : te σ H fun y H1 => ti v y H1 fun z H2 => nx (σ.set n (some z)) H2) (h : σ[n]? = some (some v) := by with_unfolding_all rfl) : tAug n te ti ⟨nx, rt, bk, ct⟩ σ H := ⟨v, h, q⟩
theorem ipA {f : Int → Int → Int} {i j : Int} {Q : VK} (q : Q (.int (f i j)) H) : ipI f (.int i) (.int j) H Q := ⟨i, j, rfl, rfl, q⟩
/-- the loop's own goal, behind what is walked -/
def Loop (J : It) (g : TG) (t : TS) (nx bk ct : L2.St → Hp → Prop) (rt : VK) (σ : L2.St) (H : Hp) : Prop :=
  ∃ At : Nat → Nat → L2.St → Hp → Prop, (∃ m, At 0 m σ H) ∧ ∀ i m σ H, At i m σ H →
    (J.stop i H ∧ nx σ H) ∨ (J.go i H ∧ ∃ N : L2.St → Hp → Prop, (∀ σ' H', N σ' H' → ∃ m', m' < m ∧ At (i + 1) m' σ' H') ∧ ∀ x H', J.yld i H x H' → g x σ H' fun σ2 H2 => t ⟨N, rt, nx, N⟩ σ2 H2)
theorem for' {wi : TI} (q : wi σ H fun J H1 => Loop J g t nx bk ct rt σ H1) : tFor wi g t ⟨nx, rt, bk, ct⟩ σ H := q
/-- a for over anything that is walked -/
theorem loop {J : It} {n : Nat} {G : Hp → Prop} {Y : Nat → Hp → V → Hp → Prop} (w : Walk J n G Y) (Pv : Nat → L2.St → Hp → Prop) (h0 : Pv 0 σ H) (hG : ∀ i σ H, i ≤ n → Pv i σ H → G H)
    (hs : ∀ i x σ H H', i < n → Pv i σ H → Y i H x H' → g x σ H' fun σ2 H2 => t ⟨Pv (i + 1), rt, nx, Pv (i + 1)⟩ σ2 H2) (hd : ∀ σ H, Pv n σ H → nx σ H) : Loop J g t nx bk ct rt σ H :=
  for_it (D := ⟨nx, rt, bk, ct⟩) w Pv h0 hG hs hd
theorem seqIter {tl : TE} {R : It → Hp → Prop} (q : tl σ H fun x H1 => (∃ a, x = .ref a ∧ (∃ xs, SqL K H1 a xs) ∧ R (Itl K a) H1) ∨ (∃ a, x = .ref a ∧ (∃ xs, SqT K H1 a xs) ∧ R (Itt K a) H1)) : iSeq K tl σ H R := q
theorem seqL {a : Addr} {xs : List V} {R : It → Hp → Prop} (h : SqL K H a xs) (q : R (Itl K a) H) : (∃ b, V.ref a = .ref b ∧ (∃ xs, SqL K H b xs) ∧ R (Itl K b) H) ∨ (∃ b, V.ref a = .ref b ∧ (∃ xs, SqT K H b xs) ∧ R (Itt K b) H) := .inl ⟨a, rfl, ⟨xs, h⟩, q⟩
theorem seqT {a : Addr} {xs : List V} {R : It → Hp → Prop} (h : SqT K H a xs) (q : R (Itt K a) H) : (∃ b, V.ref a = .ref b ∧ (∃ xs, SqL K H b xs) ∧ R (Itl K b) H) ∨ (∃ b, V.ref a = .ref b ∧ (∃ xs, SqT K H b xs) ∧ R (Itt K b) H) := .inr ⟨a, rfl, ⟨xs, h⟩, q⟩
/-- for x in a list that the body leaves as it is -/
theorem forL {a : Addr} {xs : List V} (Pv : Nat → L2.St → Hp → Prop) (h : SqL K H a xs) (h0 : Pv 0 σ H) (hG : ∀ i σ H, i ≤ xs.length → Pv i σ H → SqL K H a xs)
    (hs : ∀ i x σ H, xs[i]? = some x → i < xs.length → Pv i σ H → g x σ H fun σ2 H2 => t ⟨Pv (i + 1), rt, nx, Pv (i + 1)⟩ σ2 H2) (hd : ∀ σ H, Pv xs.length σ H → nx σ H) :
    (∃ b, V.ref a = .ref b ∧ (∃ xs, SqL K H b xs) ∧ Loop (Itl K b) g t nx bk ct rt σ H) ∨ (∃ b, V.ref a = .ref b ∧ (∃ xs, SqT K H b xs) ∧ Loop (Itt K b) g t nx bk ct rt σ H) :=
  seqL (R := fun J H1 => Loop J g t nx bk ct rt σ H1) h (loop walk_list Pv h0 hG (fun i x σ H H' hi p y => by
    obtain ⟨rfl, y⟩ := y
    exact hs i x σ _ y hi p) hd)
theorem forLI {a : Addr} {ns : List Int} (Pv : Nat → L2.St → Hp → Prop) (h : SqL K H a (ns.map V.int)) (h0 : Pv 0 σ H) (hG : ∀ i σ H, i ≤ ns.length → Pv i σ H → SqL K H a (ns.map V.int))
    (hs : ∀ i n σ H, ns[i]? = some n → n ∈ ns → i < ns.length → Pv i σ H → g (.int n) σ H fun σ2 H2 => t ⟨Pv (i + 1), rt, nx, Pv (i + 1)⟩ σ2 H2) (hd : ∀ σ H, Pv ns.length σ H → nx σ H) :
    (∃ b, V.ref a = .ref b ∧ (∃ xs, SqL K H b xs) ∧ Loop (Itl K b) g t nx bk ct rt σ H) ∨ (∃ b, V.ref a = .ref b ∧ (∃ xs, SqT K H b xs) ∧ Loop (Itt K b) g t nx bk ct rt σ H) :=
  forL (xs := ns.map V.int) Pv h h0 (fun i σ H hi => hG i σ H (by rw [List.length_map] at hi; exact hi)) (fun i x σ H hx hi => by
    rw [List.length_map] at hi
    rw [List.getElem?_map] at hx
    cases e : ns[i]? with
    | none =>
      rw [e] at hx
      cases hx
    | some n =>
      rw [e] at hx
      obtain rfl : V.int n = x := Option.some.inj hx
      exact hs i n σ H e (List.mem_of_getElem? e) hi) (by rw [List.length_map]; exact hd)
theorem forT {a : Addr} {xs : List V} (Pv : Nat → L2.St → Hp → Prop) (h : SqT K H a xs) (h0 : Pv 0 σ H) (hG : ∀ i σ H, i ≤ xs.length → Pv i σ H → SqT K H a xs)
    (hs : ∀ i x σ H, xs[i]? = some x → i < xs.length → Pv i σ H → g x σ H fun σ2 H2 => t ⟨Pv (i + 1), rt, nx, Pv (i + 1)⟩ σ2 H2) (hd : ∀ σ H, Pv xs.length σ H → nx σ H) :
    (∃ b, V.ref a = .ref b ∧ (∃ xs, SqL K H b xs) ∧ Loop (Itl K b) g t nx bk ct rt σ H) ∨ (∃ b, V.ref a = .ref b ∧ (∃ xs, SqT K H b xs) ∧ Loop (Itt K b) g t nx bk ct rt σ H) :=
  seqT (R := fun J H1 => Loop J g t nx bk ct rt σ H1) h (loop walk_tup Pv h0 hG (fun i x σ H H' hi p y => by
    obtain ⟨rfl, y⟩ := y
    exact hs i x σ _ y hi p) hd)
/-- for i, x in enumerate(a list) -/
theorem enum' {ta : TA} {R : It → Hp → Prop} (q : ta σ H fun vs H1 => ∃ a xs, vs = [.ref a] ∧ SqL K H1 a xs ∧ R (Ite K a) H1) : iEnum K ta σ H R := q
theorem forE {a : Addr} {xs : List V} (Pv : Nat → L2.St → Hp → Prop) (h : SqL K H a xs) (h0 : Pv 0 σ H) (hG : ∀ i σ H, i ≤ xs.length → Pv i σ H → SqL K H a xs)
    (hs : ∀ i x σ H, xs[i]? = some x → i < xs.length → Pv i σ H → ∀ T, H T = none → g (.ref T) σ (upd H T (.tup [.int (i : Nat), x])) fun σ2 H2 => t ⟨Pv (i + 1), rt, nx, Pv (i + 1)⟩ σ2 H2) (hd : ∀ σ H, Pv xs.length σ H → nx σ H) :
    ∃ b ys, [V.ref a] = [.ref b] ∧ SqL K H b ys ∧ Loop (Ite K b) g t nx bk ct rt σ H :=
  ⟨a, xs, rfl, h, loop walk_enum Pv h0 hG (fun i x σ H H' hi p y => by
    obtain ⟨T, x1, y1, rfl, hT, rfl, e1, e2⟩ := y
    obtain rfl := Option.some.inj e1
    exact hs i y1 σ H e2 hi p T hT) hd⟩
theorem gPair {i j : Nat} {p : Addr} {x y : V} {QS : L2.St → Hp → Prop} (h : H p = some (.tup [x, y])) (q : QS ((σ.set i (some x)).set j (some y)) H) : L2.gTup K 2 (L2.gCons (L2.gName i) (L2.gCons (L2.gName j) L2.gNil)) (.ref p) σ H QS :=
  ⟨p, [x, y], rfl, SqT.of h, rfl, x, [y], rfl, y, [], rfl, rfl, q⟩
theorem gPairT {i j : Nat} {p : Addr} {x y : V} {QS : L2.St → Hp → Prop} (h : SqT K H p [x, y]) (q : QS ((σ.set i (some x)).set j (some y)) H) : L2.gTup K 2 (L2.gCons (L2.gName i) (L2.gCons (L2.gName j) L2.gNil)) (.ref p) σ H QS :=
  ⟨p, [x, y], rfl, h, rfl, x, [y], rfl, y, [], rfl, rfl, q⟩
theorem rng1 {ta : TA} {R : It → Hp → Prop} (q : ta σ H fun vs H1 => ∃ j : Int, vs = [.int j] ∧ -(2 ^ 62) ≤ j ∧ j < 2 ^ 62 ∧ R (Itr 0 j.toNat) H1) : iRng1 ta σ H R := q
theorem rng1v {j : Int} {F : Int → Prop} (h : -(2 ^ 62) ≤ j) (h2 : j < 2 ^ 62) (q : F j) : ∃ k : Int, [V.int j] = [.int k] ∧ -(2 ^ 62) ≤ k ∧ k < 2 ^ 62 ∧ F k := ⟨j, rfl, h, h2, q⟩
theorem rng2v {i j : Int} {F : Int → Int → Prop} (h : -(2 ^ 62) ≤ i ∧ i < 2 ^ 62 ∧ -(2 ^ 62) ≤ j ∧ j < 2 ^ 62) (q : F i j) : ∃ a b : Int, [V.int i, .int j] = [.int a, .int b] ∧ (-(2 ^ 62) ≤ a ∧ a < 2 ^ 62 ∧ -(2 ^ 62) ≤ b ∧ b < 2 ^ 62) ∧ F a b := ⟨i, j, rfl, h, q⟩
theorem rng2 {ta : TA} {R : It → Hp → Prop} (q : ta σ H fun vs H1 => ∃ i j : Int, vs = [.int i, .int j] ∧ (-(2 ^ 62) ≤ i ∧ i < 2 ^ 62 ∧ -(2 ^ 62) ≤ j ∧ j < 2 ^ 62) ∧ R (Itr i (j - i).toNat) H1) : iRng2 ta σ H R := q
/-- for i in range(n) -/
theorem forR {lo : Int} {m : Nat} (Pv : Nat → L2.St → Hp → Prop) (h0 : Pv 0 σ H)
    (hs : ∀ i σ H, i < m → Pv i σ H → g (.int (lo + i)) σ H fun σ2 H2 => t ⟨Pv (i + 1), rt, nx, Pv (i + 1)⟩ σ2 H2) (hd : ∀ σ H, Pv m σ H → nx σ H) : Loop (Itr lo m) g t nx bk ct rt σ H :=
  loop walk_range Pv h0 (fun _ _ _ _ _ => True.intro) (fun i x σ H H' hi p y => by
    obtain ⟨rfl, rfl⟩ := y
    exact hs i σ _ hi p) hd
end
/-! ## list comprehensions -/
section
variable {K : PySem.W.Frag} {σ : L2.St} {H : Hp} {Q : VK} {g : TG} {tt : TT} {te : TE} {vs : List Nat}
def LcLoop (J : It) (g : TG) (tt : TT) (te : TE) (vs : List Nat) (σ : L2.St) (D : Addr) (H : Hp) (Q : VK) : Prop :=
  ∃ At : Nat → Nat → Hp → Prop, (∃ m, At 0 m (upd H D (.lst []))) ∧ ∀ i m H, At i m H →
    (J.stop i H ∧ Q (.ref D) H) ∨ (J.go i H ∧ ∃ On : Hp → Prop, (∀ H', On H' → ∃ m', m' < m ∧ At (i + 1) m' H') ∧ ∀ x H', J.yld i H x H' → g x (wipe σ vs) H' fun σ2 H2 => wipe σ2 vs = wipe σ vs ∧ tt σ2 H2 fun b H3 =>
      if b = true then te σ2 H3 fun y H4 => ∃ got, H4 D = some (.lst got) ∧ got.length < sizeLine ∧ On (upd H4 D (.lst (got ++ [y]))) else On H3)
theorem lc {wi : TI} (q : wi σ H fun J H1 => ∀ D, H1 D = none → LcLoop J g tt te vs σ D H1 Q) : tLc wi g tt te vs σ H Q := q
theorem lcI {J : It} {n : Nat} {G : Hp → Prop} {Y : Nat → Hp → V → Hp → Prop} {D : Addr} (w : Walk J n G Y) (Pv : Nat → Hp → Prop) (h0 : Pv 0 (upd H D (.lst []))) (hG : ∀ i H, i ≤ n → Pv i H → G H)
    (each : ∀ i x H H', i < n → Pv i H → Y i H x H' → g x (wipe σ vs) H' fun σ2 H2 => wipe σ2 vs = wipe σ vs ∧ tt σ2 H2 fun b H3 =>
      if b = true then te σ2 H3 fun y H4 => ∃ got, H4 D = some (.lst got) ∧ got.length < sizeLine ∧ Pv (i + 1) (upd H4 D (.lst (got ++ [y]))) else Pv (i + 1) H3) (hd : ∀ H, Pv n H → Q (.ref D) H) : LcLoop J g tt te vs σ D H Q :=
  lc_it (Qd := Q (.ref D)) w Pv h0 hG each hd
/-- over a list or tuple, flat values of a test and an element that make nothing: a new list (xs.filter p).map f -/
theorem lcFM {a : Addr} {xs : List V} {j : Nat} (p : V → Bool) (f : V → V) (h : SqL K H a xs) (hl : xs.length < sizeLine) (hw : ∀ x, wipe ((wipe σ [j]).set j (some x)) [j] = wipe σ [j])
    (ht : ∀ x H', x ∈ xs → Same H H' → ∀ QB : Bool → Hp → Prop, QB (p x) H' → tt ((wipe σ [j]).set j (some x)) H' QB)
    (he : ∀ x H', x ∈ xs → p x = true → Same H H' → ∀ Q : VK, Q (f x) H' → te ((wipe σ [j]).set j (some x)) H' Q)
    (q : ∀ D H', H D = none → Same H H' → H' D = some (.lst ((xs.filter p).map f)) → Q (.ref D) H') :
    (∃ b, V.ref a = .ref b ∧ (∃ xs, SqL K H b xs) ∧ ∀ D, H D = none → LcLoop (Itl K b) (L2.gName j) tt te [j] σ D H Q) ∨ (∃ b, V.ref a = .ref b ∧ (∃ xs, SqT K H b xs) ∧ ∀ D, H D = none → LcLoop (Itt K b) (L2.gName j) tt te [j] σ D H Q) := by
  refine .inl ⟨a, rfl, ⟨xs, h⟩, fun D hD => ?_⟩
  refine lcI walk_list (fun i H' => Same H H' ∧ H' D = some (.lst (((xs.take i).filter p).map f))) ⟨same_upd hD, upd_same⟩ (fun i H' _ z => SqL.mono z.1 h) ?_ (fun H' z => q D H' hD z.1 (by
    have e := z.2
    rw [List.take_of_length_le (Nat.le_refl _)] at e
    exact e))
  rintro i x H1 H' hi ⟨z1, z2⟩ ⟨rfl, hx⟩
  have hm : x ∈ xs := List.mem_of_getElem? hx
  refine ⟨hw x, ht x _ hm z1 _ ?_⟩
  have et : xs.take (i + 1) = xs.take i ++ [x] := by rw [List.take_add_one, hx]; rfl
  cases hp : p x with
  | true =>
    refine iteT (he x _ hm hp z1 _ ⟨_, z2, ?_, ?_, ?_⟩)
    · rw [List.length_map]
      refine Nat.lt_of_le_of_lt (List.length_filter_le _ _) (Nat.lt_of_le_of_lt (List.length_take_le _ _) ?_)
      exact Nat.lt_of_le_of_lt (Nat.le_of_lt hi) hl
    · intro b o e
      rw [upd_ne (ne_of_none e hD)]
      exact z1 _ _ e
    · rw [upd_same, et, List.filter_append, List.map_append]
      simp only [List.filter_cons, List.filter_nil, hp, if_true, List.map_cons, List.map_nil]
  | false =>
    refine iteF ⟨z1, ?_⟩
    rw [z2, et, List.filter_append, List.map_append]
    simp only [List.filter_cons, List.filter_nil, hp, Bool.false_eq_true, if_false, List.map_nil, List.append_nil]
def pI (p : Int → Bool) : V → Bool
  | .int n => p n
  | _ => false
def fI (f : Int → Int) : V → V
  | .int n => .int (f n)
  | v => v
theorem filt_ints (p : Int → Bool) (f : Int → Int) : ∀ ns : List Int, ((ns.map V.int).filter (pI p)).map (fI f) = ((ns.filter p).map f).map V.int
  | [] => rfl
  | n :: ns => by
    rw [List.map_cons, List.filter_cons, List.filter_cons]
    show (if p n = true then _ else _ : List V).map (fI f) = _
    cases h : p n with
    | true =>
      rw [if_pos rfl, if_pos rfl, List.map_cons, List.map_cons, List.map_cons, filt_ints p f ns]
      rfl
    | false =>
      rw [if_neg Bool.false_ne_true, if_neg Bool.false_ne_true, filt_ints p f ns]
/-- .. of ints -/
theorem lcFMI {a : Addr} {ns : List Int} {j : Nat} (p : Int → Bool) (f : Int → Int) (h : SqL K H a (ns.map V.int)) (hl : ns.length < sizeLine) (hw : ∀ x, wipe ((wipe σ [j]).set j (some x)) [j] = wipe σ [j])
    (ht : ∀ x H', x ∈ ns → Same H H' → ∀ QB : Bool → Hp → Prop, QB (p x) H' → tt ((wipe σ [j]).set j (some (.int x))) H' QB)
    (he : ∀ x H', x ∈ ns → p x = true → Same H H' → ∀ Q : VK, Q (.int (f x)) H' → te ((wipe σ [j]).set j (some (.int x))) H' Q)
    (q : ∀ D H', H D = none → Same H H' → H' D = some (.lst (((ns.filter p).map f).map V.int)) → Q (.ref D) H') :
    (∃ b, V.ref a = .ref b ∧ (∃ xs, SqL K H b xs) ∧ ∀ D, H D = none → LcLoop (Itl K b) (L2.gName j) tt te [j] σ D H Q) ∨ (∃ b, V.ref a = .ref b ∧ (∃ xs, SqT K H b xs) ∧ ∀ D, H D = none → LcLoop (Itt K b) (L2.gName j) tt te [j] σ D H Q) := by
  refine lcFM (pI p) (fI f) h (by rw [List.length_map]; exact hl) hw (fun x H' hx e QB qb => ?_) (fun x H' hx hp e Q' qq => ?_) (fun D H' hD e g => q D H' hD e (by rw [← filt_ints]; exact g))
  · obtain ⟨n, hn, rfl⟩ := List.mem_map.mp hx
    exact ht n H' hn e QB qb
  · obtain ⟨n, hn, rfl⟩ := List.mem_map.mp hx
    exact he n H' hn hp e Q' qq
theorem zip' {ta : TA} {R : It → Hp → Prop} (q : ta σ H fun vs H1 => ∃ a b xs ys, vs = [.ref a, .ref b] ∧ ((SqL K H1 a xs ∧ SqL K H1 b ys ∧ R (Itz K a b) H1) ∨ (SqT K H1 a xs ∧ SqT K H1 b ys ∧ R (RZ.ItzT K a b) H1))) : RZ.iZipA K ta σ H R := q
theorem walk_zipT {a b : Addr} {xs ys : List V} {n : Nat} (hn : n = min xs.length ys.length) : Walk (RZ.ItzT K a b) n (fun H => SqT K H a xs ∧ SqT K H b ys) (YPair (fun i => xs[i]?) (fun i => ys[i]?)) where
  goes i _ hi both := by
    have left : i < xs.length := by omega
    have right : i < ys.length := by omega
    exact ⟨_, _, xs[i], ys[i], both.1, both.2, List.getElem?_eq_getElem left, List.getElem?_eq_getElem right⟩
  stops _ both := ⟨_, _, both.1, both.2, by omega⟩
  yields i _ _ _ _ both y := by
    obtain ⟨T, x, z, e1, e2, e3, at1, at2⟩ := y
    exact ⟨T, x, z, e1, e2, e3, at1 _ both.1, at2 _ both.2⟩
/-- over pairs, flat values: a new list of them -/
theorem lcPairs {J : It} {n : Nat} {G : Hp → Prop} {X Y : Nat → Option V} {j1 j2 : Nat} (w : Walk J n G (YPair X Y)) (f : Nat → V) (hn : n < sizeLine) (hG : ∀ H', Same H H' → G H')
    (hw : ∀ x y, wipe (((wipe σ [j1, j2]).set j1 (some x)).set j2 (some y)) [j1, j2] = wipe σ [j1, j2])
    (he : ∀ i x y H', i < n → Same H H' → X i = some x → Y i = some y → ∀ Q : VK, (∀ H'', Same H' H'' → Q (f i) H'') → te (((wipe σ [j1, j2]).set j1 (some x)).set j2 (some y)) H' Q)
    (q : ∀ D H', H D = none → Same H H' → H' D = some (.lst ((List.range n).map f)) → Q (.ref D) H') : ∀ D, H D = none → LcLoop J (L2.gTup K 2 (L2.gCons (L2.gName j1) (L2.gCons (L2.gName j2) L2.gNil))) tYes te [j1, j2] σ D H Q := by
  intro D hD
  refine lcI w (fun i H' => Same H H' ∧ H' D = some (.lst ((List.range i).map f))) ⟨same_upd hD, upd_same⟩ (fun i H' _ z => hG H' z.1) ?_ (fun H' z => q D H' hD z.1 z.2)
  rintro i v H1 H' hi ⟨z1, z2⟩ ⟨T, x, y, rfl, hT, rfl, hx, hy⟩
  refine ⟨T, [x, y], rfl, SqT.of upd_same, rfl, x, [y], rfl, y, [], rfl, rfl, hw x y, ?_⟩
  unfold tYes
  refine iteT ?_
  refine he i x y _ hi (z1.trans (same_upd hT)) hx hy _ fun H'' e2 => ?_
  have hD2 : H'' D = some (.lst ((List.range i).map f)) := e2 _ _ (upd_get hT z2)
  refine ⟨_, hD2, ?_, ?_, ?_⟩
  · rw [List.length_map, List.length_range]
    exact Nat.lt_trans hi hn
  · intro b o e
    rw [upd_ne (ne_of_none e hD)]
    exact e2 _ _ (upd_get hT (z1 _ _ e))
  · rw [upd_same, List.range_succ, List.map_append]
    rfl
theorem strIter {tl : TE} {R : It → Hp → Prop} (q : tl σ H fun v H1 => ∃ x, v = .str x ∧ R (Its x) H1) : iStr tl σ H R := q
/-- over a text, flat values: a new list of them -/
theorem lcS {z : Str} {j : Nat} (f : Nat → V) (hl : z.cps.size < sizeLine) (hw : ∀ x, wipe ((wipe σ [j]).set j (some x)) [j] = wipe σ [j])
    (he : ∀ c H', c ∈ z.cps.toList → Same H H' → ∀ Q : VK, Q (f c) H' → te ((wipe σ [j]).set j (some (.str ⟨#[c]⟩))) H' Q)
    (q : ∀ D H', H D = none → Same H H' → H' D = some (.lst (z.cps.toList.map f)) → Q (.ref D) H') :
    ∃ x, V.str z = .str x ∧ ∀ D, H D = none → LcLoop (Its x) (L2.gName j) tYes te [j] σ D H Q := by
  refine ⟨z, rfl, fun D hD => ?_⟩
  refine lcI walk_str (fun i H' => Same H H' ∧ H' D = some (.lst ((z.cps.toList.take i).map f))) ⟨same_upd hD, upd_same⟩ (fun i H' _ _ => True.intro) ?_ (fun H' z' => q D H' hD z'.1 (by
    have e := z'.2
    rw [List.take_of_length_le (Nat.le_of_eq Array.length_toList)] at e
    exact e))
  rintro i x H1 H' hi ⟨z1, z2⟩ ⟨rfl, c, hc, rfl⟩
  rw [← Array.getElem?_toList] at hc
  refine ⟨hw _, ?_⟩
  unfold tYes
  refine iteT (he c _ (List.mem_of_getElem? hc) z1 _ ⟨_, z2, ?_, ?_, ?_⟩)
  · rw [List.length_map]
    exact Nat.lt_of_le_of_lt (List.length_take_le _ _) (Nat.lt_trans hi hl)
  · intro b o e
    rw [upd_ne (ne_of_none e hD)]
    exact z1 _ _ e
  · rw [upd_same, List.take_add_one, hc, List.map_append]
    rfl
end
section
variable {K : PySem.W.Frag} {σ : L2.St} {H : Hp} {Q : VK} {QP : List (V × V) → Hp → Prop} {tk tv : TE} {trs : List (TE × TE)}
theorem disp (q : ∀ p, H p = none → tPairs trs σ (upd H p (.dK [])) fun ps H2 => H2 p = some (.dK []) ∧ ∃ kvs : List (Key × V), ps = kvs.map (fun kv => (kV kv.1, kv.2)) ∧ kvs.length ≤ 15 ∧ Q (.ref p) (upd H2 p (.dK (mergeK [] kvs)))) : tDisp trs σ H Q := q
theorem pairsC (q : tk σ H fun x H1 => tv σ H1 fun y H2 => tPairs trs σ H2 fun ps H3 => QP ((x, y) :: ps) H3) : tPairs ((tk, tv) :: trs) σ H QP := q
theorem pairsN (q : QP [] H) : tPairs [] σ H QP := q
theorem dget (q : tk σ H fun x H1 => tv σ H1 fun y H2 => ∃ a v, x = .ref a ∧ DGet H2 a y (some v) ∧ Q v H2) : tDGet tk tv σ H Q := q
theorem dgetV {a : Addr} {kvs : List (Key × V)} {k : Key} {y v : V} (h : H a = some (.dK kvs)) (hy : y = kV k) (hv : valV kvs k = some v) (q : Q v H) : ∃ b v, V.ref a = .ref b ∧ DGet H b y (some v) ∧ Q v H :=
  ⟨a, v, rfl, .inl ⟨kvs, k, .inl h, hy, hv.symm⟩, q⟩
theorem bm {T : String} {r : V → List V → Hp → VK → Prop} {t : TA} (q : tk σ H fun x H1 => tyV K T x H1 ∧ t σ H1 fun xs H2 => r x xs H2 Q) : tBM K T r tk t σ H Q := q
theorem tyL {p : Addr} {xs : List V} {A : Prop} (h : H p = some (.lst xs)) (q : A) : tyV K "list" (.ref p) H ∧ A := ⟨.inl ⟨rfl, xs, SqL.of h⟩, q⟩
theorem append {p : Addr} {xs : List V} {y : V} (h : H p = some (.lst xs)) (hl : xs.length < sizeLine) (q : Q .non (upd H p (.lst (xs ++ [y])))) : rAppend (.ref p) [y] H Q := ⟨p, xs, y, rfl, rfl, h, hl, q⟩
theorem appendI {p : Addr} {ns : List Int} {n : Int} (h : H p = some (.lst (ns.map V.int))) (hl : ns.length < sizeLine) (q : Q .non (upd H p (.lst ((ns ++ [n]).map V.int)))) : rAppend (.ref p) [.int n] H Q :=
  append h (by rw [List.length_map]; exact hl) (by rw [← List.map_singleton (f := V.int), ← List.map_append]; exact q)
theorem map_erase {α β : Type} (f : α → β) : ∀ (xs : List α) (k : Nat), (xs.map f).eraseIdx k = (xs.eraseIdx k).map f
  | [], _ => rfl
  | _ :: _, 0 => rfl
  | x :: xs, k + 1 => congrArg (f x :: ·) (map_erase f xs k)
theorem popAtI {p : Addr} {ns : List Int} {i : Int} (h : H p = some (.lst (ns.map V.int))) (h0 : 0 ≤ i) (h1 : i < ns.length) (hb : ns.length < 2 ^ 62) (q : ∀ m, ns[i.toNat]? = some m → Q (.int m) (upd H p (.lst ((ns.eraseIdx i.toNat).map V.int)))) : rPopAt (.ref p) [.int i] H Q := by
  have hl : i.toNat < ns.length := by omega
  have e : ns[i.toNat]? = some ns[i.toNat] := List.getElem?_eq_getElem hl
  refine ⟨p, _, i, i.toNat, .int ns[i.toNat], rfl, rfl, h, by omega, by omega, ?_, by rw [List.getElem?_map, e]; rfl, ?_⟩
  · exact (ixN_seq (by rw [List.length_map]; exact ixN_pos h0 h1)).1
  · have z := q _ e
    rw [map_erase]
    exact z
theorem revL {p : Addr} {ns : List Int} (h : SqL K H p (ns.map V.int)) (q : ∀ l, H l = none → Q (.ref l) (upd H l (.lst (ns.reverse.map V.int)))) : ∃ a xs, V.ref p = .ref a ∧ SqL K H a xs ∧ ∀ l, H l = none → Q (.ref l) (upd H l (.lst xs.reverse)) :=
  ⟨p, _, rfl, h, by rw [← List.map_reverse]; exact q⟩
theorem rev (q : tk σ H fun x H1 => ∃ a xs, x = .ref a ∧ SqL K H1 a xs ∧ ∀ p, H1 p = none → Q (.ref p) (upd H1 p (.lst xs.reverse))) : tRevL K tk σ H Q := q
theorem sumI {p : Addr} {ns : List Int} (h : SqL K H p (ns.map V.int)) (q : Q (.int ns.sum) H) : rSum K [.ref p] H Q := ⟨p, ns, rfl, h, q⟩
theorem ixN_last {n : Nat} (h : 0 < n) : ixN n (-1) = some (n - 1) := by
  unfold ixN
  rw [if_neg (by decide), if_pos (by omega)]
  congr 1
  omega
theorem ixLast {p : Addr} {ns : List Int} (h : SqL K H p (ns.map V.int)) (hne : 0 < ns.length) (q : ∀ m, ns[ns.length - 1]? = some m → Q (.int m) H) : rIx K (.ref p) (.int (-1)) H Q := by
  have hl : ns.length - 1 < ns.length := by omega
  have e : ns[ns.length - 1]? = some ns[ns.length - 1] := List.getElem?_eq_getElem hl
  refine ixL h (v := .int ns[ns.length - 1]) ?_ (q _ e)
  unfold atI
  rw [List.length_map, ixN_last hne]
  show (ns.map V.int)[ns.length - 1]? = _
  rw [List.getElem?_map, e]
  rfl
theorem setLastI {p : Addr} {ns : List Int} {n : Int} {QS : Hp → Prop} (h : H p = some (.lst (ns.map V.int))) (hne : 0 < ns.length) (q : QS (upd H p (.lst ((ns.set (ns.length - 1) n).map V.int)))) : rSetL (.ref p) (.int (-1)) (.int n) H QS :=
  setL (k := ns.length - 1) h (by rw [List.length_map]; exact ixN_last hne) (by rw [← List.map_set]; exact q)
def rgI (a b : Int) : List Int := (List.range (b - a).toNat).map fun i => a + (i : Nat)
theorem rgI_V (a b : Int) : rgV a b = (rgI a b).map V.int := by
  unfold rgV rgI
  rw [List.map_map]
  rfl
theorem rgI_length (a b : Int) : (rgI a b).length = (b - a).toNat := by
  unfold rgI
  rw [List.length_map, List.length_range]
theorem lstRg {te : L2.St → Hp → (Int → Int → Hp → Prop) → Prop} (q : te σ H fun a b H1 => RgOk a b ∧ ∀ l, H1 l = none → Q (.ref l) (upd H1 l (.lst ((rgI a b).map V.int)))) : tLstRg te σ H Q := by
  have e : (fun (a b : Int) (H1 : Hp) => RgOk a b ∧ ∀ l, H1 l = none → Q (.ref l) (upd H1 l (.lst ((rgI a b).map V.int)))) = fun a b H1 => RgOk a b ∧ ∀ l, H1 l = none → Q (.ref l) (upd H1 l (.lst (rgV a b))) := by
    funext a b H1
    rw [rgI_V]
  rw [e] at q
  exact q
theorem rg1 {ta : TE} {QR : Int → Int → Hp → Prop} (q : ta σ H fun x H1 => ∃ n, x = .int n ∧ QR 0 n H1) : tRg1 ta σ H QR := q
theorem rg2 {ta tb : TE} {QR : Int → Int → Hp → Prop} (q : ta σ H fun x H1 => tb σ H1 fun y H2 => ∃ i j, x = .int i ∧ y = .int j ∧ QR i j H2) : tRg2 ta tb σ H QR := q
theorem exII {a b : Int} {F : Int → Int → Prop} (q : F a b) : ∃ i j, V.int a = .int i ∧ V.int b = .int j ∧ F i j := ⟨a, b, rfl, rfl, q⟩
theorem inS {a b : Str} (q : Q (.bl (!(Builtin.Str.occurrences b a 0 b.length 1).isEmpty)) H) : rInSA (.str a) (.str b) H Q := ⟨a, b, rfl, rfl, q⟩
end
end Rl.R
namespace Rl
open PySem PySem.Spec PyProof.Rows L2
/-! ## a set of ints, by a comprehension -/
/-- what the turns need: the set stands at D -/
def ScGo (w : World) (J : It) (g : TG) (tt : TT) (te : TE) (vs : List Nat) (σ : L2.St) (D : Addr) (H : Hp) (Q : VK) : Prop :=
  ∃ At : Nat → Nat → Hp → Prop, (∃ m, At 0 m (upd H D (SetO w D (fun _ => false) 0))) ∧ ∀ i m H, At i m H →
    (J.stop i H ∧ Q (.ref D) H) ∨ (J.go i H ∧ ∃ On : Hp → Prop, (∀ H', On H' → ∃ m', m' < m ∧ At (i + 1) m' H') ∧ ∀ x H', J.yld i H x H' → g x (wipe σ vs) H' fun σ2 H2 => wipe σ2 vs = wipe σ vs ∧ tt σ2 H2 fun b H3 =>
      if b = true then te σ2 H3 fun y H4 => ∃ (c : Int) (S : Int → Bool) (n : Nat), y = .int c ∧ H4 D = some (SetO w D S n) ∧ n + 1 < scanBound ∧ On (upd H4 D (SetO w D (fun j => S j || decide (j = c)) (if S c = true then n else n + 1))) else On H3)
def tScI (w : World) (wi : TI) (g : TG) (tt : TT) (te : TE) (vs : List Nat) : TE := fun σ H Q => wi σ H fun J H1 => ∀ D, H1 D = none → ScGo w J g tt te vs σ D H1 Q
section
variable {X : Cx}
theorem pe_scI {elt tg src : Expr} {cs : List Expr} {bsc : Scope} {own : List (PySem.Str × Nat)} {cp : Pos} {wi : TI} {g : TG} {tt : TT} {te : TE} (calm : X.calm = true) (nd : X.N.Nodup) (walk : PI X tg src wi) (blk : BlkOk X.N X.env.scope bsc own)
    (dg : ∀ (s : Shared) (H : Hp) (C : Addr) (cl : List (PySem.Str × Addr)) (fp : List Addr), PG (X.blk s H bsc (compEnvC bsc cl C X.env) fp) tg g)
    (dt : ∀ (s : Shared) (H : Hp) (C : Addr) (cl : List (PySem.Str × Addr)) (fp : List Addr), PTs (X.blk s H bsc (compEnvC bsc cl C X.env) fp) cs tt)
    (de : ∀ (s : Shared) (H : Hp) (C : Addr) (cl : List (PySem.Str × Addr)) (fp : List Addr), PE (X.blk s H bsc (compEnvC bsc cl C X.env) fp) elt te) (fold : ∀ x, foldedSetIterable src X.env x = pure x := by intro _; rfl) :
    PE X (.SetComp elt [⟨tg, src, cs, 0⟩] bsc cp) (tScI X.w wi g tt te (own.map (·.2))) := by
  refine ⟨fun pins s0 σ H Q I0 go => ?_⟩
  rw [PpSet.eval_SetComp]
  have cellsHere : ∀ y ∈ bsc.names, y.2 = .free → ∃ c, X.env.cells.lookup y.1 = some c := by
    intro y hy e
    exact (blk.free y hy e).elim (fun k => I0.ok.has _ (.inl k)) fun k => I0.ok.has _ (.inr k)
  refine wpAny_comprehension_free (use := none) rfl fold (closure_ok cellsHere) blk.kind (fun y hy e => by rw [blk.uniq y hy, e]) ?_
  refine thn (walk.run pins s0 σ H _ I0 go) fun xv sA inner => thn inner fun itv sB res => ?_
  obtain ⟨it, fp, tn, J, HB, e, IB, T, stB, okB, q⟩ := res
  subst e
  refine PpSet.newSet_ok (newEnv_comp ?_)
  -- the set is the newest thing
  obtain ⟨D, hD⟩ : ∃ D, D = sB.heap.objs.size := ⟨_, rfl⟩
  have fresh : HB D = none := IB.hok.fresh (Nat.le_of_eq hD.symm)
  obtain ⟨W, ⟨m0, w0⟩, turn⟩ := q D fresh
  rw [← hD]
  generalize hsC : ({ sB with heap := sB.heap.push { cls := .type "set", dict := none, data := .set #[] 0 (.fresh 0 0 (!X.w.params.followText "set-order")) } } : Shared) = sC
  have heapC : sC.heap = sB.heap.push { cls := .type "set", dict := none, data := .set #[] 0 (.fresh 0 0 (!X.w.params.followText "set-order")) } := by rw [← hsC]
  have IC : Inv X pins σ (upd HB D (SetO X.w D (fun _ => false) 0)) sC := by
    rw [← hsC]
    refine IB.laid (t' := sB.toks) (fun b o e => Heap.get?_push_of_some _ e) (Nat.le_of_eq hD.symm) ?_
    rw [hD]
    exact setO_new (setR_fresh X.w)
  have below : ∀ b ∈ fp, b < sB.heap.objs.size := by
    intro b hb
    obtain ⟨o, e, _⟩ := T.obj _ _ stB b hb
    exact Heap.lt_size e
  have okC : ∀ b ∈ fp, FpOk X pins (upd HB D (SetO X.w D (fun _ => false) 0)) b ∧ b < sC.heap.objs.size := by
    intro b hb
    have lt := below b hb
    have ne : b ≠ D := by
      rw [hD]
      exact Nat.ne_of_lt lt
    refine ⟨⟨(upd_ne ne).trans (okB b hb).1, (okB b hb).2⟩, ?_⟩
    rw [heapC, Heap.size_push]
    exact Nat.lt_succ_of_lt lt
  have stC : tn 0 sC.heap := T.keep _ _ _ stB fun b _ o e => by
    rw [heapC]
    exact Heap.get?_push_of_some _ e
  obtain ⟨HC, hHC⟩ : ∃ HC, HC = upd HB D (SetO X.w D (fun _ => false) 0) := ⟨_, rfl⟩
  rw [← hHC] at IC okC w0
  have inner := block_start IC blk nd okC
  have qg := dg sC HC sC.heap.objs.size (cellsFrom (sC.heap.objs.size + 1) bsc.names (cloFrom X.env.cells bsc.names [])) fp
  have qt := dt sC HC sC.heap.objs.size (cellsFrom (sC.heap.objs.size + 1) bsc.names (cloFrom X.env.cells bsc.names [])) fp
  have qe := de sC HC sC.heap.objs.size (cellsFrom (sC.heap.objs.size + 1) bsc.names (cloFrom X.env.cells bsc.names [])) fp
  show codeAny _ _ (.compStart (.SetComp elt [⟨tg, src, cs, 0⟩] bsc cp) 0 (.ref it) (.ref D) (compEnvC bsc (cellsFrom (sC.heap.objs.size + 1) bsc.names (cloFrom X.env.cells bsc.names [])) sC.heap.objs.size X.env)) (compPost (model X.prog X.w) X.A X.xe none _ (.ref D) sC.heap.objs.size) { sC with heap := pushCells (sC.heap.push { cls := .type "dict", data := .dict #[] }) bsc.names }
  have fpC : ∀ b ∈ fp, HC b = none := fun b hb => (okC b hb).1.1
  generalize hce : compEnvC bsc (cellsFrom (sC.heap.objs.size + 1) bsc.names (cloFrom X.env.cells bsc.names [])) sC.heap.objs.size X.env = ce at inner qg qt qe ⊢
  have locC : ce.locals = sC.heap.objs.size := by
    subst hce
    rfl
  generalize hsE : ({ sC with heap := pushCells (sC.heap.push { cls := .type "dict", data := .dict #[] }) bsc.names } : Shared) = sE at inner ⊢
  have stE : tn 0 sE.heap := T.keep _ _ _ stC fun b _ o e => by
    rw [← hsE]
    exact pushCells_keeps _ _ _ _ (Heap.get?_push_of_some _ e)
  have okIn : ∀ {σ' : L2.St} {H' : Hp} {s' : Shared}, Inv (X.blk sC HC bsc ce fp) [] σ' H' s' → (∀ b ∈ fp, H' b = none) → ∀ b ∈ fp, FpOk (X.blk sC HC bsc ce fp) [] H' b := by
    intro σ' H' s' I' none' b hb
    exact ⟨none' b hb, (I'.ok.exf b hb).1, I'.ok.exfs b hb, .inl hb, fun x c e => (I'.ok.exf b hb).2 x c e, fun p hp => absurd (show p ∈ ([] : List (Addr × Obj)) ++ [] from hp) (by simp)⟩
  refine PpSet.codeAny_compStart_set ?_ (T.self X.A 0 _ _ _ stE ?_)
  all_goals
    refine PpSet.compLoopS_any (fun n s' => ∃ i H', Inv (X.blk sC HC bsc ce fp) [] (wipe σ (own.map (·.2))) H' s' ∧ tn i s'.heap ∧ (∀ b ∈ fp, H' b = none) ∧ W i n H') ?_ m0 ⟨0, HC, inner, stE, fpC, w0⟩
    rintro n sF ⟨i, HF, IF, stF, noneF, wF⟩
    rcases turn i n HF wF with ⟨stop, fin⟩ | ⟨more, Nx, hNx, each⟩
    · refine thnF (T.done (X.blk sC HC bsc ce fp) rfl rfl rfl calm i [] sF _ HF (fun _ _ => False) IF (okIn IF noneF) stF stop) fun r sG ⟨hr, IG⟩ => ?_
      subst hr
      have back : Inv X pins σ HF sG := IC.call' (ch := fp) IG.os IG.base IG.hok IG.bare fun b hb => ⟨(okC b hb).1.2.2.2.1, (okC b hb).1.2.1, (okC b hb).1.2.2.2.2.1, (okC b hb).1.2.2.2.2.2⟩
      have noLoc : HF sC.heap.objs.size = none := by
        have z : HF ce.locals = none := IG.free
        rwa [locC] at z
      obtain ⟨m, isNs, _⟩ := IG.loc
      replace isNs : sG.heap.Ns ce.locals m := isNs
      rw [locC] at isNs
      refine ⟨m, isNs, fun h'' same => ?_⟩
      obtain ⟨f0, f1, f2, f3, f4, f5⟩ := IC.fpOk (Nat.le_refl _) noLoc
      exact ⟨.ref D, HF, back.turned (t' := sG.toks) (fun b o hb e => (same.2 b hb).trans e) f0 f1 f3 f4 f5, rfl, fin⟩
    · refine thnF (T.item (X.blk sC HC bsc ce fp) rfl rfl rfl calm i [] sF _ HF (fun _ _ => False) IF (okIn IF noneF) stF more) fun r sG ⟨u, hr, yields⟩ => ?_
      subst hr
      refine thnF yields fun _ sH ⟨x, HH, IH, rH, yH, stH, noneH⟩ => ?_
      refine thnF (qg.run _ sH _ HH x u _ (IH.pinned (okIn IH noneH) (T.obj _ _ stH)) rH (each x HH yH)) fun _ sI ⟨σI, HI, II, wipeI, qI⟩ => ?_
      refine thnF (qt.run _ sI σI HI _ II qI) fun b sJ ⟨HJ, IJ, qJ⟩ => ?_
      have onward : ∀ {s' : Shared} {H' : Hp}, Inv (X.blk sC HC bsc ce fp) ([] ++ pinsAt fp sH.heap) σI H' s' → Nx H' → ∃ m, m < n ∧ ∃ i H', Inv (X.blk sC HC bsc ce fp) [] (wipe σ (own.map (·.2))) H' s' ∧ tn i s'.heap ∧ (∀ b ∈ fp, H' b = none) ∧ W i m H' := by
        intro s' H' I' nx
        obtain ⟨m', lt, w'⟩ := hNx H' nx
        have held : ∀ b ∈ fp, ∀ o, sH.heap.get? b = some o → s'.heap.get? b = some o ∧ H' b = none := by
          intro b hb o e
          have z := I'.pin (b, o) (List.mem_append_right _ (List.mem_append_right _ (mem_pinsAt hb e)))
          exact ⟨z.1, z.2.1⟩
        refine ⟨m', lt, i + 1, H', (I'.unpinned (pins := [])).weak (by rw [← wipeI, wipe_length]) (fun j v e => ?_), T.keep _ _ _ stH fun b hb o e => (held b hb o e).1, fun b hb => ?_, w'⟩
        · rw [← wipeI] at e
          exact (wipe_some e).1
        · obtain ⟨o, e, _⟩ := T.obj _ _ stH b hb
          exact (held b hb o e).2
      cases b with
      | false =>
        simp only [Bool.false_eq_true, if_false] at qJ ⊢
        exact onward IJ qJ
      | true =>
        simp only [if_true] at qJ ⊢
        refine thnF (qe.run _ sJ σI HJ _ IJ qJ) fun z sK ⟨yv, HK, IK, rK, c, S, n0, ey, atD, room, nx⟩ => ?_
        subst ey
        obtain ⟨tk, rfl⟩ : ∃ tk, z = Value.int c tk := rK
        refine thnF (mt_sadd (X := X.blk sC HC bsc ce fp) _ sK σI HK (.ref D) [.int c] (.ref D) [.int c tk] (fun _ H' => Nx H') IK rfl (.cons ⟨tk, rfl⟩ .nil) ⟨D, c, S, n0, rfl, rfl, atD, room, nx⟩) fun _ sL ⟨_, HL, IL, _, nx'⟩ => onward IL nx'
end
/-- over anything that is walked -/
theorem scWalk {w : World} {J : It} {n : Nat} {G : Hp → Prop} {Y : Nat → Hp → V → Hp → Prop} {g : TG} {tt : TT} {te : TE} {vs : List Nat} {σ : L2.St} {D : Addr} {H : Hp} {Q : VK} (wk : Walk J n G Y) (Pv : Nat → Hp → Prop)
    (h0 : Pv 0 (upd H D (SetO w D (fun _ => false) 0))) (hG : ∀ i H, i ≤ n → Pv i H → G H)
    (each : ∀ i x H H', i < n → Pv i H → Y i H x H' → g x (wipe σ vs) H' fun σ2 H2 => wipe σ2 vs = wipe σ vs ∧ tt σ2 H2 fun b H3 =>
      if b = true then te σ2 H3 fun y H4 => ∃ (c : Int) (S : Int → Bool) (m : Nat), y = .int c ∧ H4 D = some (SetO w D S m) ∧ m + 1 < scanBound ∧ Pv (i + 1) (upd H4 D (SetO w D (fun j => S j || decide (j = c)) (if S c = true then m else m + 1))) else Pv (i + 1) H3)
    (hd : ∀ H, Pv n H → Q (.ref D) H) : ScGo w J g tt te vs σ D H Q := by
  refine ⟨fun i m H => m = n - i ∧ i ≤ n ∧ Pv i H, ⟨n, rfl, Nat.zero_le _, h0⟩, ?_⟩
  rintro i m H ⟨rfl, hi, p⟩
  by_cases lt : i < n
  · exact .inr ⟨wk.goes i H lt (hG i H hi p), Pv (i + 1), fun H' p' => ⟨n - (i + 1), by omega, rfl, lt, p'⟩, fun x H' y => each i x H H' lt p (wk.yields i H x H' lt (hG i H hi p) y)⟩
  · obtain rfl : i = n := by omega
    exact .inl ⟨wk.stops H (hG _ H hi p), hd H p⟩
theorem R.sc {w : World} {wi : TI} {g : TG} {tt : TT} {te : TE} {vs : List Nat} {σ : L2.St} {H : Hp} {Q : VK} (q : wi σ H fun J H1 => ∀ D, H1 D = none → ScGo w J g tt te vs σ D H1 Q) : tScI w wi g tt te vs σ H Q := q
end Rl
namespace Rl
open PySem PySem.Spec PyProof.Rows L2
/-! ## the old machine's rows, as they are decoded -/
inductive Sh where
  | e | rs | rn | n | r
  deriving DecidableEq
def box (i : Int) : Str := ⟨#[97 + i.toNat]⟩
def alone (i : Int) : Str := (["halt", "back", "rest"] : List Str).getD i.toNat "rest"
def single (i : Int) : Str := (["in", "out", "keep", "take"] : List Str).getD i.toNat "in"
def target (i : Int) : Str := (["go", "zero", "nonzero", "less", "notless", "call"] : List Str).getD i.toNat "go"
def pairT : List (Int × Str) := [(2, "copy"), (3, "add"), (4, "sub"), (5, "and"), (6, "or"), (7, "xor"), (8, "test"), (10, "load"), (11, "store")]
def numT : List (Int × Str) := [(1, "set"), (9, "testn"), (12, "loadn"), (13, "storen")]
/-- the word of a first byte, and what follows it -/
def dec (b : Int) : Option (Str × Sh) :=
  if b < 3 then some (alone b, .e)
  else if b / 16 = 15 then some (single (b % 4), .r)
  else match pairT.lookup (b / 16) with
    | some w => some (w, .rs)
    | none => if b / 16 = 14 ∧ b % 16 < 6 then some (target (b % 16), .n)
      else match numT.lookup (b / 16) with
        | some w => if b % 4 = 0 then some (w, .rn) else none
        | none => none
def boxR (b : Int) : Str := box (b / 4 % 4)
def boxS (b : Int) : Str := box (b % 4)
/-- what a row is, as data: by its first byte and the one behind -/
def rowD (b n : Int) : Option (List PyData) := (dec b).map fun p => .str p.1 :: match p.2 with
  | .e => []
  | .rs => [.str (boxR b), .str (boxS b)]
  | .rn => [.str (boxR b), .int n]
  | .n => [.int n]
  | .r => [.str (boxR b)]
def isLong (b : Int) : Bool := match dec b with
  | some (_, .rn) => true
  | some (_, .n) => true
  | _ => false
/-- the row at an address and how many bytes it has -/
def rowAt (ns : List Int) (a : Int) : Option (List PyData × Int) :=
  if 0 ≤ a ∧ a < ns.length then
    (if isLong (ns.getD a.toNat 0) = true then (if a + 1 < ns.length then (rowD (ns.getD a.toNat 0) (ns.getD (a.toNat + 1) 0)).map fun l => (l, 2) else none)
    else (rowD (ns.getD a.toNat 0) 0).map fun l => (l, 1))
  else none
def optD : Option (List PyData) → PyData
  | some l => .tuple l
  | none => .none
def atD : Option (List PyData × Int) → PyData
  | some (l, m) => .tuple [.tuple l, .int m]
  | none => .none
/-- bytes -/
def By (ns : List Int) : Prop := ∀ n ∈ ns, 0 ≤ n ∧ n < 256
/-- a list or a tuple of these ints -/
def Code (K : PySem.W.Frag) (H : Hp) (v : V) (ns : List Int) : Prop := ∃ a, v = .ref a ∧ (SqL K H a (ns.map V.int) ∨ SqT K H a (ns.map V.int))
theorem Code.mono {K : PySem.W.Frag} {H H' : Hp} {v : V} {ns : List Int} (e : Same H H') (h : Code K H v ns) : Code K H' v ns := by
  obtain ⟨a, q, h⟩ := h
  exact ⟨a, q, h.elim (fun h => .inl (SqL.mono e h)) fun h => .inr (SqT.mono e h)⟩
theorem R.lenC {K : PySem.W.Frag} {H : Hp} {c : V} {ns : List Int} {Q : VK} (h : Code K H c ns) (q : Q (.int ns.length) H) : rLenA K [c] H Q := by
  obtain ⟨p, rfl, h⟩ := h
  rcases h with h | h
  · refine R.lenL h ?_
    rw [List.length_map]
    exact q
  · refine R.lenT h ?_
    rw [List.length_map]
    exact q
theorem R.ixC {K : PySem.W.Frag} {H : Hp} {c : V} {ns : List Int} {Q : VK} {i : Int} (h : Code K H c ns) (h0 : 0 ≤ i) (h1 : i < ns.length) (q : ∀ m, ns[i.toNat]? = some m → m ∈ ns → Q (.int m) H) : rIx K c (.int i) H Q := by
  obtain ⟨p, rfl, h⟩ := h
  have hl : i.toNat < ns.length := by omega
  have e : ns[i.toNat]? = some ns[i.toNat] := List.getElem?_eq_getElem hl
  have g : atI (ns.map V.int) i = some (.int ns[i.toNat]) := R.atI_pos h0 (by rw [List.getElem?_map, e]; rfl)
  rcases h with h | h
  · exact R.ixL h g (q _ e (List.mem_of_getElem? e))
  · exact R.ixT h g (q _ e (List.mem_of_getElem? e))
theorem SqL.code {K : PySem.W.Frag} {H : Hp} {p : Addr} {ns : List Int} (h : SqL K H p (ns.map V.int)) : Code K H (.ref p) ns := ⟨p, rfl, .inl h⟩
theorem SqT.code {K : PySem.W.Frag} {H : Hp} {p : Addr} {ns : List Int} (h : SqT K H p (ns.map V.int)) : Code K H (.ref p) ns := ⟨p, rfl, .inr h⟩
/-- the module's constants -/
structure MachC (K : PySem.W.Frag) (w : World) : Prop where
  alone : ∀ H, SqT K H (He.ga K "ALONE") [.str "halt", .str "back", .str "rest"]
  single : ∀ H, SqT K H (He.ga K "SINGLE") [.str "in", .str "out", .str "keep", .str "take"]
  targets : ∀ H, SqT K H (He.ga K "TARGETS") [.str "go", .str "zero", .str "nonzero", .str "less", .str "notless", .str "call"]
  pairs : KD K w (He.ga K "WORDS_OF_PAIRS") (pairT.map fun p => (Sum.inl p.1, V.str p.2))
  nums : KD K w (He.ga K "WORDS_OF_NUMBERED") (numT.map fun p => (Sum.inl p.1, V.str p.2))
theorem atI_abcd {i : Int} (h0 : 0 ≤ i) (h4 : i < 4) : atI ("abcd" : Str).cps.toList i = some (97 + i.toNat) := by
  obtain rfl | rfl | rfl | rfl : i = 0 ∨ i = 1 ∨ i = 2 ∨ i = 3 := by omega
  all_goals decide
/-! ## promises -/
def sp_short_row (K : PySem.W.Frag) (_ : World) : Sp := fun vs H Q _ => ∃ b : Int, vs = [.int b] ∧ 0 ≤ b ∧ b < 256 ∧ ∀ v H', Same H H' → Dp K H' v (optD (if isLong b then none else rowD b 0)) → Q v H'
def sp_long_row (K : PySem.W.Frag) (_ : World) : Sp := fun vs H Q _ => ∃ b n : Int, vs = [.int b, .int n] ∧ 0 ≤ b ∧ b < 256 ∧ ∀ v H', Same H H' → Dp K H' v (optD (if isLong b then rowD b n else none)) → Q v H'
def sp_row_at (K : PySem.W.Frag) (_ : World) : Sp := fun vs H Q _ => ∃ (c : V) (ns : List Int) (a : Int), vs = [c, .int a] ∧ Code K H c ns ∧ By ns ∧ ∀ v H', Same H H' → Dp K H' v (atD (rowAt ns a)) → Q v H'
end Rl
namespace Rl
open PySem PySem.Spec PyProof.Rows L2
/-! ## the law's reel of draws -/
/-- all but what stands at r is as it was -/
abbrev Fx (r : Addr) (H H' : Hp) : Prop := Same (but r H) (but r H')
theorem Fx.refl (r : Addr) (H : Hp) : Fx r H H := Same.refl _
theorem Fx.at {r a : Addr} {H H' : Hp} {o : HO} (h : Fx r H H') (n : a ≠ r) (e : H a = some o) : H' a = some o := Same.of_but h n e
/-- a reel stands at r: great cells, told ones, how many draws, the number that is stirred; nothing of it in S -/
def Reel (H : Hp) (r : Addr) (S : Addr → Prop) : Prop := ∃ (g c : Addr) (k st : Int) (gs cs : List Int), H r = some (.lst [.ref g, .ref c, .int k, .int st]) ∧
  H g = some (.lst (gs.map V.int)) ∧ H c = some (.lst (cs.map V.int)) ∧ g ≠ r ∧ c ≠ r ∧ cs ≠ [] ∧ gs.length ≤ 1000 ∧ 0 ≤ st ∧ st < 2 ^ 127 ∧ ¬ S g ∧ ¬ S c ∧ ¬ S r ∧ ∀ a, S a → ∃ o, H a = some o
abbrev S0 : Addr → Prop := fun _ => False
abbrev S1 (l : Addr) (S : Addr → Prop) : Addr → Prop := fun a => a = l ∨ S a
section
variable {H H' : Hp} {r : Addr} {S S' : Addr → Prop}
theorem Reel.some (h : Reel H r S) : ∃ o, H r = some o := by
  obtain ⟨_, _, _, _, _, _, h, _⟩ := h
  exact ⟨_, h⟩
theorem Reel.isL (h : Reel H r S) : ∃ o, H r = Option.some (.lst o) := by
  obtain ⟨_, _, _, _, _, _, h, _⟩ := h
  exact ⟨_, h⟩
theorem Reel.ne {p : Addr} (h : Reel H r S) (n : H p = none) : p ≠ r := fun e => by
  obtain ⟨o, h⟩ := h.some
  rw [e, h] at n
  cases n
theorem Reel.neS {p : Addr} (h : Reel H r S) (n : S p) : p ≠ r := fun e => by
  obtain ⟨_, _, _, _, _, _, _, _, _, _, _, _, _, _, _, _, _, h, _⟩ := h
  exact h (e ▸ n)
/-- new things, changes elsewhere: the reel stays -/
theorem Reel.keep (h : Reel H r S) (e : Same H H') : Reel H' r S := by
  obtain ⟨g, c, k, st, gs, cs, h1, h2, h3, h4, h5, h6, h7, h8, h9, h10, h11, h12, h13⟩ := h
  exact ⟨g, c, k, st, gs, cs, e _ _ h1, e _ _ h2, e _ _ h3, h4, h5, h6, h7, h8, h9, h10, h11, h12, fun a ha => (h13 a ha).elim fun o z => ⟨o, e _ _ z⟩⟩
theorem Reel.sub (h : Reel H r S) (e : ∀ a, S' a → S a) : Reel H r S' := by
  obtain ⟨g, c, k, st, gs, cs, h1, h2, h3, h4, h5, h6, h7, h8, h9, h10, h11, h12, h13⟩ := h
  exact ⟨g, c, k, st, gs, cs, h1, h2, h3, h4, h5, h6, h7, h8, h9, fun z => h10 (e _ z), fun z => h11 (e _ z), fun z => h12 (e _ z), fun a ha => h13 a (e _ ha)⟩
theorem Reel.zero (h : Reel H r S) : Reel H r S0 := h.sub fun _ z => z.elim
theorem Reel.add {l : Addr} {o : HO} (h : Reel H r S) (n : H l = none) : Reel (upd H l o) r (S1 l S) := by
  obtain ⟨g, c, k, st, gs, cs, h1, h2, h3, h4, h5, h6, h7, h8, h9, h10, h11, h12, h13⟩ := h
  refine ⟨g, c, k, st, gs, cs, upd_get n h1, upd_get n h2, upd_get n h3, h4, h5, h6, h7, h8, h9, fun z => z.elim (ne_of_none h2 n) h10, fun z => z.elim (ne_of_none h3 n) h11, fun z => z.elim (ne_of_none h1 n) h12, fun a ha => ?_⟩
  rcases ha with rfl | ha
  · exact ⟨_, upd_same⟩
  · obtain ⟨o, z⟩ := h13 a ha
    exact ⟨o, upd_get n z⟩
theorem Reel.mut {l : Addr} {o : HO} (h : Reel H r S) (n : S l) : Reel (upd H l o) r S := by
  obtain ⟨g, c, k, st, gs, cs, h1, h2, h3, h4, h5, h6, h7, h8, h9, h10, h11, h12, h13⟩ := h
  refine ⟨g, c, k, st, gs, cs, upd_mut (fun z => h12 (z ▸ n)) h1, upd_mut (fun z => h10 (z ▸ n)) h2, upd_mut (fun z => h11 (z ▸ n)) h3, h4, h5, h6, h7, h8, h9, h10, h11, h12, fun a ha => ?_⟩
  by_cases e : a = l
  · rw [e]
    exact ⟨_, upd_same⟩
  · obtain ⟨o, z⟩ := h13 a ha
    exact ⟨o, upd_mut e z⟩
end
def sp_law_reel (K : PySem.W.Frag) (_ : World) : Sp := fun vs H Q _ => ∃ (a : Addr) (ns : List Int), vs = [.ref a] ∧ SqL K H a (ns.map V.int) ∧ ns.length ≤ 63 ∧ ∀ r H', Same H H' → H r = none → Reel H' r S0 → Q (.ref r) H'
def sp_law_draw (_ : PySem.W.Frag) (_ : World) : Sp := fun vs H Q _ => ∃ (r : Addr) (m : Int) (S : Addr → Prop), vs = [.ref r, .int m] ∧ Reel H r S ∧ 0 < m ∧ m < 1073741824 ∧ ∀ n H', Fx r H H' → Reel H' r S → 0 ≤ n → n < m → Q (.int n) H'
theorem len_law_reel {K : PySem.W.Frag} {w : World} {vs : List V} {H : Hp} {Q : VK} {E : XK} (h : sp_law_reel K w vs H Q E) : vs.length = 1 := by
  obtain ⟨a, ns, rfl, _⟩ := h
  rfl
theorem len_law_draw {K : PySem.W.Frag} {w : World} {vs : List V} {H : Hp} {Q : VK} {E : XK} (h : sp_law_draw K w vs H Q E) : vs.length = 2 := by
  obtain ⟨r, m, S, rfl, _⟩ := h
  rfl
theorem shaped_ints (ns : List Int) : SeqAt.shaped (.list (ns.map PyData.int)) = true := by
  have h1 : ∀ ns : List Int, PyData.canLayAll0 (ns.map PyData.int) = true := fun ns => by
    induction ns with
    | nil => simp only [List.map_nil, PyData.canLayAll0]
    | cons n r ih => simp only [List.map_cons, PyData.canLayAll0, PyData.canLay0, ih, Bool.and_self]
  have h2 : ∀ ns : List Int, PyData.depthAll (ns.map PyData.int) = 0 := fun ns => by
    induction ns with
    | nil => simp only [List.map_nil, PyData.depthAll]
    | cons n r ih => simp only [List.map_cons, PyData.depthAll, PyData.depth, ih]; rfl
  unfold SeqAt.shaped
  simp only [PyData.canLay0, PyData.depth, h1, h2]
  rfl
theorem eqv_ints_nil (ns : List Int) : PyData.eqv (.list (ns.map PyData.int)) (.list []) = ns.isEmpty := by
  cases ns with
  | nil => simp only [List.map_nil, PyData.eqv, PyData.eqvAll, List.isEmpty_nil]
  | cons n r => simp only [List.map_cons, PyData.eqv, PyData.eqvAll, List.isEmpty_cons]
theorem eqvAll_ints (ns : List Int) : PyData.eqvAll (ns.map PyData.int) (ns.map PyData.int) = true := by
  induction ns with
  | nil => simp only [List.map_nil, PyData.eqvAll]
  | cons n r ih => simp only [List.map_cons, PyData.eqvAll, PyData.eqv, ih]; simp
theorem eqv_ints (ns : List Int) : PyData.eqv (.list (ns.map PyData.int)) (.list (ns.map PyData.int)) = true := by
  simp only [PyData.eqv, eqvAll_ints]
theorem SqL.ints {K : PySem.W.Frag} {H : Hp} {p : Addr} {ns : List Int} (h : SqL K H p (ns.map V.int)) : Dp K H (.ref p) (.list (ns.map PyData.int)) := .lst h (DpAll.ints ns)
theorem Fx.trans {r : Addr} {H1 H2 H3 : Hp} (a : Fx r H1 H2) (b : Fx r H2 H3) : Fx r H1 H3 := Same.trans a b
theorem Fx.same {r : Addr} {B H H' : Hp} (h : Fx r H H') (hb : B r = none) (e : Same B H) : Same B H' := fun a o z => h.at (ne_of_none z hb) (e a o z)
theorem Fx.mutN {r l : Addr} {H H' : Hp} {o : HO} (n : H l = none) (h : Fx r H H') : Fx r H (upd H' l o) := fun b u e => by
  have nb : b ≠ r := fun z => by
    rw [z, but_none] at e
    cases e
  have nl : b ≠ l := fun z => by
    have e2 := but_same b u e
    rw [z, n] at e2
    cases e2
  exact but_get nb (upd_mut nl (but_same b u (h b u e)))
/-- what is free then was free -/
theorem Fx.free {r l : Addr} {H H' : Hp} {S : Addr → Prop} (h : Fx r H H') (hR : Reel H' r S) (n : H' l = none) : H l = none := by
  cases e : H l with
  | none => rfl
  | some o =>
    have z := h.at (hR.ne n) e
    rw [n] at z
    cases z
theorem Same.mut {B H : Hp} {l : Addr} {o : HO} (hb : B l = none) (e : Same B H) : Same B (upd H l o) := fun a o z => upd_mut (ne_of_none z hb) (e a o z)
/-- [a draw of the reel for k in range(n)]: a new list of ints -/
theorem lcDraws {σ : L2.St} {H : Hp} {Q : VK} {te : TE} {j : Nat} {lo : Int} {m : Nat} {r : Addr} {S : Addr → Prop} (P : Int → Prop) (hR : Reel H r S) (hm : m < sizeLine) (hw : ∀ x, wipe ((wipe σ [j]).set j (some x)) [j] = wipe σ [j])
    (he : ∀ i D H', i < m → H D = none → Fx r H H' → Reel H' r (S1 D S) → ∀ Q : VK, (∀ v H'', Fx r H' H'' → Reel H'' r (S1 D S) → P v → Q (.int v) H'') → te ((wipe σ [j]).set j (some (.int (lo + (i : Nat))))) H' Q)
    (q : ∀ D H' (ns : List Int), H D = none → D ≠ r → Fx r H H' → Reel H' r (S1 D S) → H' D = some (.lst (ns.map V.int)) → ns.length = m → (∀ v ∈ ns, P v) → Q (.ref D) H') :
    ∀ D, H D = none → R.LcLoop (Itr lo m) (L2.gName j) tYes te [j] σ D H Q := by
  intro D hD
  have nD : D ≠ r := hR.ne hD
  refine R.lcI walk_range (fun i H' => Fx r H H' ∧ Reel H' r (S1 D S) ∧ ∃ ns : List Int, H' D = some (.lst (ns.map V.int)) ∧ ns.length = i ∧ ∀ v ∈ ns, P v) ⟨sm_bnew hD (Same.refl _), hR.add hD, [], upd_same, rfl, fun v hv => by cases hv⟩ (fun _ _ _ _ => True.intro) ?_ ?_
  · rintro i x H1 H' hi ⟨z1, z2, ns, z3, z4, z5⟩ ⟨rfl, rfl⟩
    refine ⟨hw _, ?_⟩
    unfold tYes
    refine iteT (he i D _ hi hD z1 z2 _ fun v H'' e2 r2 pv => ?_)
    have hD2 : H'' D = some (.lst (ns.map V.int)) := e2.at nD z3
    refine ⟨_, hD2, ?_, ?_, r2.mut (.inl rfl), ns ++ [v], ?_, ?_, ?_⟩
    · rw [List.length_map, z4]
      omega
    · intro b o e
      have nb : b ≠ r := fun z => by
        rw [z, but_none] at e
        cases e
      have e3 := e2 b o (z1 b o e)
      have hb : H b = some o := but_same b o e
      exact but_get nb (upd_mut (ne_of_none hb hD) (but_same b o e3))
    · rw [upd_same, List.map_append]
      rfl
    · rw [List.length_append, z4]
      rfl
    · intro u hu
      rcases List.mem_append.mp hu with hu | hu
      · exact z5 u hu
      · rw [List.mem_singleton.mp hu]
        exact pv
  · rintro H' ⟨z1, z2, ns, z3, z4, z5⟩
    exact q D H' ns hD nD z1 z2 z3 z4 z5
theorem By.set {ds : List Int} {k : Nat} {v : Int} (h : By ds) (h0 : 0 ≤ v) (h1 : v < 256) : By (ds.set k v) := fun n hn => by
  rcases List.mem_or_eq_of_mem_set hn with z | z
  · exact h n z
  · rw [z]
    exact ⟨h0, h1⟩
theorem By.take_add {ds : List Int} {k : Nat} {v : Int} (h : By ds) (h0 : 0 ≤ v) (h1 : v < 256) : By (ds.take k ++ [v]) := fun n hn => by
  rcases List.mem_append.mp hn with z | z
  · exact h n (List.mem_of_mem_take z)
  · rw [List.mem_singleton.mp z]
    exact ⟨h0, h1⟩
end Rl
namespace Rl
open PySem PySem.Spec PyProof.Rows L2
/-! ## the law's table of first bytes -/
def shS : Sh → Str
  | .e => ""
  | .rs => "rs"
  | .rn => "rn"
  | .n => "n"
  | .r => "r"
abbrev TEnt := Option (Str × Str)
def Ent (H : Hp) (v : V) : TEnt → Prop
  | none => v = .non
  | some (a, b) => ∃ p, v = .ref p ∧ H p = some (.tup [.str a, .str b])
theorem Ent.mono {H H' : Hp} {v : V} {e : TEnt} (s : Same H H') (h : Ent H v e) : Ent H' v e := by
  cases e with
  | none => exact h
  | some e =>
    obtain ⟨p, h1, h2⟩ := h
    exact ⟨p, h1, s _ _ h2⟩
structure Tab (H : Hp) (t : Addr) (T : List TEnt) : Prop where
  len : T.length = 256
  ex : ∃ xs : List V, H t = some (.lst xs) ∧ xs.length = 256 ∧ ∀ (i : Nat) (v : V) (e : TEnt), xs[i]? = some v → T[i]? = some e → Ent H v e
theorem Tab.mono {H H' : Hp} {t : Addr} {T : List TEnt} (s : Same H H') (h : Tab H t T) : Tab H' t T := by
  obtain ⟨h0, xs, h1, h2, h3⟩ := h
  exact ⟨h0, xs, s _ _ h1, h2, fun i v e a b => (h3 i v e a b).mono s⟩
theorem Tab.ne {H : Hp} {t p : Addr} {T : List TEnt} (h : Tab H t T) (n : H p = none) : p ≠ t := by
  obtain ⟨_, xs, g, _⟩ := h
  exact fun z => by rw [z, g] at n; cases n
theorem Tab.but {H : Hp} {t r : Addr} {T : List TEnt} {rs : List V} (h : Tab H t T) (n : t ≠ r) (e : H r = some (.lst rs)) : Tab (but r H) t T := by
  obtain ⟨h0, xs, h1, h2, h3⟩ := h
  refine ⟨h0, xs, but_get n h1, h2, fun i v e' a b => ?_⟩
  have z := h3 i v e' a b
  cases e' with
  | none => exact z
  | some e' =>
    obtain ⟨p, z1, z2⟩ := z
    exact ⟨p, z1, but_get (fun y => by rw [y, e] at z2; cases z2) z2⟩
theorem Tab.get {K : PySem.W.Frag} {H : Hp} {t : Addr} {T : List TEnt} (h : Tab H t T) {i : Int} (h0 : 0 ≤ i) (h1 : i < 256) {e : TEnt} (he : T[i.toNat]? = some e) {Q : VK} (q : ∀ v, Ent H v e → Q v H) : rIx K (.ref t) (.int i) H Q := by
  obtain ⟨g0, xs, g1, g2, g3⟩ := h
  exact R.ixLV (SqL.of g1) h0 (by omega) fun m hm _ => q m (g3 _ _ _ hm he)
theorem R.setTab {H : Hp} {t p : Addr} {T : List TEnt} {a b : Str} {i : Int} {n : Nat} {QS : Hp → Prop} (h : Tab H t T) (hp : H p = some (.tup [.str a, .str b])) (hn : i = (n : Int)) (h1 : n < 256)
    (q : ∀ H', Tab H' t (T.set n (some (a, b))) → Fx t H H' → QS H') : rSetL (.ref t) (.int i) (.ref p) H QS := by
  obtain ⟨g0, xs, g1, g2, g3⟩ := h
  refine R.setL (k := n) g1 ?_ (q _ ⟨?_, xs.set n (.ref p), upd_same, ?_, ?_⟩ ?_)
  · rw [hn, g2]
    unfold ixN
    rw [if_pos (by omega), if_pos (by omega)]
    rfl
  · rw [List.length_set]; exact g0
  · rw [List.length_set]; exact g2
  · intro j v e h2 h3
    have np : p ≠ t := fun z => by
      rw [z, g1] at hp
      cases hp
    by_cases hj : n = j
    · subst hj
      rw [List.getElem?_set_self (by omega)] at h2 h3
      obtain rfl := Option.some.inj h2
      obtain rfl := Option.some.inj h3
      exact ⟨p, rfl, by rw [upd_ne np]; exact hp⟩
    · rw [List.getElem?_set_ne hj] at h2 h3
      have z := g3 j v e h2 h3
      cases e with
      | none => exact z
      | some e =>
        obtain ⟨p2, z1, z2⟩ := z
        refine ⟨p2, z1, ?_⟩
        rw [upd_ne]
        · exact z2
        · intro z3
          rw [z3, g1] at z2
          cases z2
  · exact sm_bmut (Same.refl _)
def w1 (k : Nat) : Str := (["halt", "back", "rest"] : List Str).getD k ""
def w2 (k : Nat) : Str := (["copy", "add", "sub", "and", "or", "xor", "test", "", "load", "store"] : List Str).getD k ""
def w3 (k : Nat) : Nat × Str := ([(1, "set"), (9, "testn"), (12, "loadn"), (13, "storen")] : List (Nat × Str)).getD k (0, "")
def w4 (k : Nat) : Str := (["go", "zero", "nonzero", "less", "notless", "call"] : List Str).getD k ""
def w5 (k : Nat) : Str := (["in", "out", "keep", "take"] : List Str).getD (k % 4) ""
abbrev TL := List TEnt
def tb0 : TL := List.replicate 256 none
def tb1 (i : Nat) : TL := (List.range i).foldl (fun T k => T.set k (some (w1 k, ""))) tb0
def in2 (k : Nat) (T : TL) (j : Nat) : TL := (List.range j).foldl (fun T j => T.set (32 + 16 * k + j) (some (w2 k, "rs"))) T
def n2 (k : Nat) : Nat := if w2 k = "" then 0 else 16
def tb2 (i : Nat) : TL := (List.range i).foldl (fun T k => in2 k T (n2 k)) (tb1 3)
def in3 (k : Nat) (T : TL) (j : Nat) : TL := (List.range j).foldl (fun T j => T.set (16 * (w3 k).1 + 4 * j) (some ((w3 k).2, "rn"))) T
def tb3 (i : Nat) : TL := (List.range i).foldl (fun T k => in3 k T 4) (tb2 10)
def tb4 (i : Nat) : TL := (List.range i).foldl (fun T k => T.set (224 + k) (some (w4 k, "n"))) (tb3 4)
def tb5 (i : Nat) : TL := (List.range i).foldl (fun T k => T.set (240 + k) (some (w5 k, "r"))) (tb4 6)
theorem fold_succ {α : Type} (f : α → Nat → α) (x : α) (i : Nat) : (List.range (i + 1)).foldl f x = f ((List.range i).foldl f x) i := by
  rw [List.range_succ, List.foldl_append]
  rfl
theorem tb2_0 : tb2 0 = tb1 3 := by unfold tb2; rw [List.range_zero, List.foldl_nil]
theorem tb3_0 : tb3 0 = tb2 10 := by unfold tb3; rw [List.range_zero, List.foldl_nil]
theorem tb4_0 : tb4 0 = tb3 4 := by unfold tb4; rw [List.range_zero, List.foldl_nil]
theorem tb5_0 : tb5 0 = tb4 6 := by unfold tb5; rw [List.range_zero, List.foldl_nil]
theorem in2_0 (k : Nat) (T : TL) : in2 k T 0 = T := by unfold in2; rw [List.range_zero, List.foldl_nil]
theorem in3_0 (k : Nat) (T : TL) : in3 k T 0 = T := by unfold in3; rw [List.range_zero, List.foldl_nil]
abbrev tabT : TL := tb5 16
theorem tab_dec : ∀ b : Fin 256, tabT[b.val]? = some ((dec (b.val : Int)).map fun p => (p.1, shS p.2)) := by decide +kernel
theorem tabT_at {i : Int} (h0 : 0 ≤ i) (h1 : i < 256) : tabT[i.toNat]? = some ((dec i).map fun p => (p.1, shS p.2)) := by
  have h := tab_dec ⟨i.toNat, by omega⟩
  have e : ((i.toNat : Nat) : Int) = i := Int.toNat_of_nonneg h0
  rw [← e]
  exact h
def sp_law_table (K : PySem.W.Frag) (_ : World) : Sp := fun vs H Q _ => vs = [] ∧ ∀ t H', Same H H' → H t = none → Tab H' t tabT → Q (.ref t) H'
theorem len_law_table {K : PySem.W.Frag} {w : World} {vs : List V} {H : Hp} {Q : VK} {E : XK} (h : sp_law_table K w vs H Q E) : vs.length = 0 := by
  obtain ⟨rfl, _⟩ := h
  rfl
end Rl
namespace Rl
open PySem PySem.Spec PyProof.Rows L2
/-! ## the law's own likeness: two things that are the same data -/
/-- no deeper than n, no list too long -/
def Nrw : Nat → PyData → Prop
  | 0, .list _ => False
  | 0, .tuple _ => False
  | n + 1, .list ds => ds.length < sizeLine ∧ ∀ d ∈ ds, Nrw n d
  | n + 1, .tuple ds => ds.length < sizeLine ∧ ∀ d ∈ ds, Nrw n d
  | _, _ => True
def spA (K : PySem.W.Frag) (_ : World) : Nat → Sp
  | 0 => fun _ _ _ _ => False
  | n + 1 => fun vs H Q _ => ∃ f d data, vs = [f, d] ∧ Dp K H f data ∧ Dp K H d data ∧ Nrw n data ∧ ∀ H', Same H H' → Q (.bl true) H'
abbrev sp_law_alike (K : PySem.W.Frag) (w : World) : Sp := spA K w 4
theorem len_law_alike {K : PySem.W.Frag} {w : World} {n : Nat} {vs : List V} {H : Hp} {Q : VK} {E : XK} (h : spA K w n vs H Q E) : vs.length = 2 := by
  cases n with
  | zero => cases h
  | succ n =>
    obtain ⟨f, d, data, rfl, _⟩ := h
    rfl
theorem all_true (n : Nat) : ((List.range n).map fun _ => true).all id = true := by
  rw [List.all_map]
  exact List.all_eq_true.mpr fun _ _ => rfl
end Rl
namespace Rl
open PySem PySem.Spec PyProof.Rows L2
/-! ## the law's own row -/
def isN : Sh → Bool
  | .rn => true
  | .n => true
  | _ => false
theorem isLong_dec {b : Int} {w : Str} {sh : Sh} (h : dec b = some (w, sh)) : isLong b = isN sh := by
  unfold isLong
  rw [h]
  cases sh <;> rfl
theorem n_in (sh : Sh) : (!(Builtin.Str.occurrences (shS sh) "n" 0 (shS sh).length 1).isEmpty) = isN sh := by
  cases sh <;> decide +kernel
theorem sh_cps (sh : Sh) : ∀ c ∈ (shS sh).cps.toList, c = 114 ∨ c = 115 ∨ c = 110 := by
  cases sh <;> decide +kernel
theorem sh_size (sh : Sh) : (shS sh).cps.size < sizeLine := by
  cases sh <;> decide
theorem sh_size1 (sh : Sh) : 1 + (shS sh).cps.toList.length ≤ sizeLine := by
  cases sh <;> decide
/-- what stands for a sign -/
def fS (b n : Int) (c : Nat) : V := if c = 114 then .str (boxR b) else if c = 115 then .str (boxS b) else .int n
def restD (b n : Int) : Sh → List PyData
  | .e => []
  | .rs => [.str (boxR b), .str (boxS b)]
  | .rn => [.str (boxR b), .int n]
  | .n => [.int n]
  | .r => [.str (boxR b)]
theorem rowD_dec {b n : Int} {w : Str} {sh : Sh} (h : dec b = some (w, sh)) : rowD b n = some (.str w :: restD b n sh) := by
  unfold rowD
  rw [h]
  cases sh <;> rfl
theorem restD_n {b n m : Int} {sh : Sh} (h : isN sh = false) : restD b n sh = restD b m sh := by
  cases sh <;> first | rfl | cases h
theorem fS_dp {K : PySem.W.Frag} {H : Hp} (b n : Int) (sh : Sh) : DpAll K H ((shS sh).cps.toList.map (fS b n)) (restD b n sh) := by
  cases sh with
  | e => exact .nil
  | rs => exact .cons (.str _) (.cons (.str _) .nil)
  | rn => exact .cons (.str _) (.cons (.int _) .nil)
  | n => exact .cons (.int _) .nil
  | r => exact .cons (.str _) .nil
def sp_law_row (K : PySem.W.Frag) (_ : World) : Sp := fun vs H Q _ => ∃ (t a : Addr) (ns : List Int) (i : Int), vs = [.ref t, .ref a, .int i] ∧ Tab H t tabT ∧ SqL K H a (ns.map V.int) ∧ By ns ∧ ns.length ≤ 100000 ∧
  ∀ v H', Same H H' → Dp K H' v (atD (rowAt ns i)) → Q v H'
theorem len_law_row {K : PySem.W.Frag} {w : World} {vs : List V} {H : Hp} {Q : VK} {E : XK} (h : sp_law_row K w vs H Q E) : vs.length = 3 := by
  obtain ⟨_, _, _, _, rfl, _⟩ := h
  rfl
theorem rowAt_out {ns : List Int} {a : Int} (h : ¬ (0 ≤ a ∧ a < ns.length)) : rowAt ns a = none := by
  unfold rowAt
  exact if_neg h
theorem rowAt_in {ns : List Int} {a b : Int} (h : 0 ≤ a ∧ a < ns.length) (hb : ns[a.toNat]? = some b) : rowAt ns a = (if isLong b = true then (if a + 1 < ns.length then (rowD b (ns.getD (a.toNat + 1) 0)).map fun l => (l, 2) else none) else (rowD b 0).map fun l => (l, 1)) := by
  unfold rowAt
  rw [if_pos h, List.getD_eq_getElem?_getD, hb]
  rfl
theorem nrw_rest (b n : Int) (sh : Sh) : (restD b n sh).length ≤ 2 ∧ ∀ d ∈ restD b n sh, Nrw 1 d := by
  cases sh <;> refine ⟨Nat.le_of_ble_eq_true rfl, fun d hd => ?_⟩ <;> unfold restD at hd <;> simp only [List.mem_cons, List.not_mem_nil, or_false] at hd
  · rcases hd with rfl | rfl <;> exact True.intro
  · rcases hd with rfl | rfl <;> exact True.intro
  · rw [hd]; exact True.intro
  · rw [hd]; exact True.intro
theorem nrw_rowD {b n : Int} {l : List PyData} (h : rowD b n = some l) : Nrw 2 (.tuple l) := by
  cases hd : dec b with
  | none =>
    unfold rowD at h
    rw [hd] at h
    cases h
  | some p =>
    obtain ⟨w, sh⟩ := p
    rw [rowD_dec hd] at h
    obtain rfl := Option.some.inj h
    obtain ⟨h1, h2⟩ := nrw_rest b n sh
    refine ⟨Nat.lt_of_le_of_lt (m := 3) (by rw [List.length_cons]; omega) (by decide), fun d hd => ?_⟩
    rcases List.mem_cons.mp hd with rfl | hd
    · exact True.intro
    · exact h2 d hd
theorem nrw_at (ns : List Int) (a : Int) : Nrw 3 (atD (rowAt ns a)) := by
  cases h : rowAt ns a with
  | none => exact True.intro
  | some p =>
    obtain ⟨l, m⟩ := p
    have hl : ∃ b n, rowD b n = some l := by
      unfold rowAt at h
      split at h
      · split at h
        · split at h
          · cases g : rowD (ns.getD a.toNat 0) (ns.getD (a.toNat + 1) 0) with
            | none => rw [g] at h; cases h
            | some l2 =>
              rw [g] at h
              cases h
              exact ⟨_, _, g⟩
          · cases h
        · cases g : rowD (ns.getD a.toNat 0) 0 with
          | none => rw [g] at h; cases h
          | some l2 =>
            rw [g] at h
            cases h
            exact ⟨_, _, g⟩
      · cases h
    obtain ⟨b, n, hl⟩ := hl
    refine ⟨(by decide : 2 < sizeLine), fun d hd => ?_⟩
    rcases List.mem_cons.mp hd with rfl | hd
    · exact nrw_rowD hl
    · rw [List.mem_singleton.mp hd]
      exact True.intro
end Rl
namespace Rl
open PySem PySem.Spec PyProof.Rows L2
/-! ## where a row goes on -/
def wordOf : List PyData → Str
  | .str w :: _ => w
  | _ => ""
def numOf : List PyData → Int
  | _ :: .int n :: _ => n
  | _ => 0
def endsT : List Str := ["halt", "back", "go"]
def tgtT : List Str := ["go", "zero", "nonzero", "less", "notless", "call"]
def behind (ns : List Int) (a : Int) : Option Int := match rowAt ns a with
  | some (l, m) => if wordOf l ∈ endsT then none else some (a + m)
  | none => none
def tgt (ns : List Int) (a : Int) : Option Int := match rowAt ns a with
  | some (l, _) => if wordOf l ∈ tgtT then some (numOf l) else none
  | none => none
def isCall (ns : List Int) (a : Int) : Bool := match rowAt ns a with
  | some (l, _) => decide (wordOf l = "call")
  | none => false
def optV : Option Int → V
  | some i => .int i
  | none => .non
theorem tgt_dec : ∀ b : Fin 256, (match dec (b.val : Int) with
    | some (w, sh) => decide (w ∈ tgtT) == decide (sh = .n)
    | none => true) = true := by decide +kernel
theorem row_shape {ns : List Int} {a m : Int} {l : List PyData} (hb : By ns) (h : rowAt ns a = some (l, m)) : ∃ w rest, l = .str w :: rest ∧ (w ∈ tgtT → ∃ n, rest = [.int n]) := by
  unfold rowAt at h
  by_cases hin : 0 ≤ a ∧ a < ns.length
  · rw [if_pos hin] at h
    obtain ⟨b, e⟩ : ∃ b, ns[a.toNat]? = some b := ⟨_, List.getElem?_eq_getElem (by omega)⟩
    have hb2 := hb b (List.mem_of_getElem? e)
    have hl : ∃ n, rowD b n = some l := by
      rw [List.getD_eq_getElem?_getD, e] at h
      simp only [Option.getD_some] at h
      split at h
      · split at h
        · cases g : rowD b (ns.getD (a.toNat + 1) 0) with
          | none => rw [g] at h; cases h
          | some l2 =>
            rw [g] at h
            cases h
            exact ⟨_, g⟩
        · cases h
      · cases g : rowD b 0 with
        | none => rw [g] at h; cases h
        | some l2 =>
          rw [g] at h
          cases h
          exact ⟨_, g⟩
    obtain ⟨n, hl⟩ := hl
    cases hd : dec b with
    | none =>
      unfold rowD at hl
      rw [hd] at hl
      cases hl
    | some p =>
      obtain ⟨w, sh⟩ := p
      rw [rowD_dec hd] at hl
      refine ⟨w, restD b n sh, (Option.some.inj hl).symm, fun hw => ?_⟩
      have t := tgt_dec ⟨b.toNat, by omega⟩
      have e2 : ((b.toNat : Nat) : Int) = b := Int.toNat_of_nonneg hb2.1
      simp only [e2, hd] at t
      have hs : sh = .n := by
        rw [decide_eq_true hw] at t
        exact of_decide_eq_true (eq_of_beq t).symm
      rw [hs]
      exact ⟨n, rfl⟩
  · rw [if_neg hin] at h
    cases h
theorem dp_at {K : PySem.W.Frag} {H : Hp} {v : V} {w : Str} {rest : List PyData} {m : Int} (h : Dp K H v (atD (some (.str w :: rest, m)))) : ∃ p q xs, v = .ref p ∧ SqT K H p [.ref q, .int m] ∧ SqT K H q (.str w :: xs) ∧ DpAll K H xs rest := by
  obtain ⟨p, ys, rfl, hp, ha⟩ := dp_tup h
  cases ha with
  | cons a1 t1 =>
    cases t1 with
    | cons a2 t2 =>
      cases t2
      obtain ⟨q, xs, rfl, hq, hb⟩ := dp_tup a1
      cases hb with
      | cons b1 s1 =>
        rw [dp_str b1] at hq
        rw [dp_int a2] at hp
        exact ⟨p, q, _, rfl, hp, hq, s1⟩
theorem in_strs (w : Str) : ∀ ws : List Str, inV (.str w) (ws.map V.str) = decide (w ∈ ws)
  | [] => rfl
  | z :: ws => by
    have ih := in_strs w ws
    unfold inV at ih ⊢
    rw [List.map_cons, List.any_cons, ih]
    show (eqV (V.str z) (V.str w) || decide (w ∈ ws)) = _
    have e : eqV (V.str z) (V.str w) = decide (w = z) := by
      show decide (z = w) = decide (w = z)
      by_cases h : w = z
      · rw [decide_eq_true h, decide_eq_true h.symm]
      · rw [decide_eq_false h, decide_eq_false fun q => h q.symm]
    rw [e]
    by_cases h : w = z
    · subst h
      simp
    · simp [h]
theorem R.inStrs {K : PySem.W.Frag} {H : Hp} {Q : VK} {w : Str} {ws : List Str} {p : Addr} (h : SqL K H p (ws.map V.str) ∨ SqT K H p (ws.map V.str)) (q : Q (.bl (decide (w ∈ ws))) H) : rIn K false (.str w) (.ref p) H Q :=
  ⟨p, _, rfl, h, rfl, List.all_eq_true.mpr fun x hx => by
    obtain ⟨z, _, rfl⟩ := List.mem_map.mp hx
    rfl, by
    rw [← in_strs] at q
    exact q⟩
/-- the ints of a tuple of ints and Nones, as a set -/
theorem scOpts {K : PySem.W.Frag} {w : World} {σ : L2.St} {H : Hp} {Q : VK} {a : Addr} {j : Nat} (os : List (Option Int)) (h : SqT K H a (os.map optV)) (hl : os.length < 60) (hw : ∀ x, wipe ((wipe σ [j]).set j (some x)) [j] = wipe σ [j]) (hg : ∀ x, ((wipe σ [j]).set j (some x))[j]? = some (some x))
    (q : ∀ D H' S n, H D = none → Same H H' → H' D = some (SetO w D S n) → n < 64 → (∀ k, S k = true ↔ some k ∈ os) → Q (.ref D) H') :
    ∀ D, H D = none → ScGo w (Itt K a) (L2.gName j) (tTest (tOp rNotN (tVar j) (tC .non))) (tVar j) [j] σ D H Q := by
  intro D hD
  refine scWalk walk_tup (fun i H' => Same H H' ∧ ∃ S n, H' D = some (SetO w D S n) ∧ n ≤ i ∧ ∀ k, S k = true ↔ some k ∈ os.take i) ⟨same_upd hD, _, 0, upd_same, Nat.le_refl _, fun k => ?_⟩ (fun i H' _ z => SqT.mono z.1 h) ?_ (fun H' z => ?_)
  · constructor
    · intro z
      cases z
    · intro z
      cases z
  · rintro i x H1 H' hi ⟨z1, S, n, z2, z3, z4⟩ ⟨rfl, hx⟩
    rw [List.length_map] at hi
    rw [List.getElem?_map, List.getElem?_eq_getElem hi] at hx
    obtain rfl : optV os[i] = x := Option.some.inj hx
    have ht : os.take (i + 1) = os.take i ++ [os[i]] := by rw [List.take_add_one, List.getElem?_eq_getElem hi]; rfl
    refine ⟨hw _, ?_⟩
    refine ⟨_, hg _, rfl, ?_⟩
    cases ho : os[i] with
    | none =>
      refine ⟨false, rfl, iteF ⟨z1, S, n, z2, by omega, fun k => ?_⟩⟩
      rw [ht, ho, List.mem_append, z4 k]
      simp
    | some c =>
      refine ⟨true, rfl, iteT ⟨_, hg _, c, S, n, rfl, z2, Nat.lt_of_le_of_lt (m := 61) (by omega) (by decide), ?_, _, _, upd_same, ?_, fun k => ?_⟩⟩
      · intro b o e
        rw [upd_ne (ne_of_none e hD)]
        exact z1 _ _ e
      · split <;> omega
      · rw [ht, ho, List.mem_append, Bool.or_eq_true, z4 k, List.mem_singleton]
        constructor
        · rintro (z | z)
          · exact .inl z
          · exact .inr (by rw [of_decide_eq_true z])
        · rintro (z | z)
          · exact .inl z
          · exact .inr (decide_eq_true (Option.some.inj z))
  · obtain ⟨z1, S, n, z2, z3, z4⟩ := z
    rw [List.length_map] at z3
    rw [List.length_map, List.take_of_length_le (Nat.le_refl _)] at z4
    exact q D H' S n hD z1 z2 (by omega) z4
structure FindC (K : PySem.W.Frag) (w : World) : Prop where
  mach : MachC K w
  ends : ∀ H, SqT K H (He.ga K "ENDS") [.str "halt", .str "back", .str "go"]
/-- a new pair -/
def Pair2 (H : Hp) (v : V) (x y : Option Int) : Prop := ∃ p, v = .ref p ∧ H p = some (.tup [optV x, optV y])
def sp_behind_and_target (K : PySem.W.Frag) (_ : World) : Sp := fun vs H Q _ => ∃ (c : V) (ns : List Int) (a : Int), vs = [c, .int a] ∧ Code K H c ns ∧ By ns ∧ ∀ v H', Same H H' → Pair2 H' v (behind ns a) (tgt ns a) → Q v H'
def sp_is_call (K : PySem.W.Frag) (_ : World) : Sp := fun vs H Q _ => ∃ (c : V) (ns : List Int) (a : Int), vs = [c, .int a] ∧ Code K H c ns ∧ By ns ∧ ∀ H', Same H H' → Q (.bl (isCall ns a)) H'
/-- the places that a row goes on to -/
def Goes (ns : List Int) (a : Int) (L : List Int) : Prop := L.Pairwise (· < ·) ∧ ∀ k, k ∈ L ↔ (behind ns a = some k ∨ (isCall ns a = false ∧ tgt ns a = some k))
def sp_goes_on (K : PySem.W.Frag) (_ : World) : Sp := fun vs H Q _ => ∃ (c : V) (ns : List Int) (a : Int), vs = [c, .int a] ∧ Code K H c ns ∧ By ns ∧ ∀ p H' L, Same H H' → H p = none → H' p = some (.lst (L.map V.int)) → Goes ns a L → Q (.ref p) H'
def sp_law_onward (K : PySem.W.Frag) (_ : World) : Sp := fun vs H Q _ => ∃ (t a : Addr) (ns : List Int) (i : Int), vs = [.ref t, .ref a, .int i] ∧ Tab H t tabT ∧ SqL K H a (ns.map V.int) ∧ By ns ∧ ns.length ≤ 100000 ∧ ∀ v H', Same H H' → Pair2 H' v (behind ns i) (tgt ns i) → Q v H'
def sp_law_is_call (K : PySem.W.Frag) (_ : World) : Sp := fun vs H Q _ => ∃ (t a : Addr) (ns : List Int) (i : Int), vs = [.ref t, .ref a, .int i] ∧ Tab H t tabT ∧ SqL K H a (ns.map V.int) ∧ By ns ∧ ns.length ≤ 100000 ∧ ∀ H', Same H H' → Q (.bl (isCall ns i)) H'
theorem len_behind_and_target {K : PySem.W.Frag} {w : World} {vs : List V} {H : Hp} {Q : VK} {E : XK} (h : sp_behind_and_target K w vs H Q E) : vs.length = 2 := by
  obtain ⟨_, _, _, rfl, _⟩ := h
  rfl
theorem len_is_call {K : PySem.W.Frag} {w : World} {vs : List V} {H : Hp} {Q : VK} {E : XK} (h : sp_is_call K w vs H Q E) : vs.length = 2 := by
  obtain ⟨_, _, _, rfl, _⟩ := h
  rfl
theorem len_goes_on {K : PySem.W.Frag} {w : World} {vs : List V} {H : Hp} {Q : VK} {E : XK} (h : sp_goes_on K w vs H Q E) : vs.length = 2 := by
  obtain ⟨_, _, _, rfl, _⟩ := h
  rfl
theorem len_law_onward {K : PySem.W.Frag} {w : World} {vs : List V} {H : Hp} {Q : VK} {E : XK} (h : sp_law_onward K w vs H Q E) : vs.length = 3 := by
  obtain ⟨_, _, _, _, rfl, _⟩ := h
  rfl
theorem len_law_is_call {K : PySem.W.Frag} {w : World} {vs : List V} {H : Hp} {Q : VK} {E : XK} (h : sp_law_is_call K w vs H Q E) : vs.length = 3 := by
  obtain ⟨_, _, _, _, rfl, _⟩ := h
  rfl
/-- the same members, rising: the same list -/
theorem sorted_uniq : ∀ {L M : List Int}, L.Pairwise (· < ·) → M.Pairwise (· < ·) → (∀ k, k ∈ L ↔ k ∈ M) → L = M
  | [], [], _, _, _ => rfl
  | [], m :: M, _, _, h => by
    have := (h m).mpr List.mem_cons_self
    cases this
  | l :: L, [], _, _, h => by
    have := (h l).mp List.mem_cons_self
    cases this
  | l :: L, m :: M, hl, hm, h => by
    obtain ⟨l1, l2⟩ := List.pairwise_cons.mp hl
    obtain ⟨m1, m2⟩ := List.pairwise_cons.mp hm
    have e : l = m := by
      rcases List.mem_cons.mp ((h l).mp List.mem_cons_self) with z | z
      · exact z
      · rcases List.mem_cons.mp ((h m).mpr List.mem_cons_self) with y | y
        · exact y.symm
        · have := m1 l z
          have := l1 m y
          omega
    subst e
    rw [sorted_uniq l2 m2 fun k => ?_]
    constructor
    · intro hk
      rcases List.mem_cons.mp ((h k).mp (List.mem_cons_of_mem _ hk)) with z | z
      · have := l1 k hk
        omega
      · exact z
    · intro hk
      rcases List.mem_cons.mp ((h k).mpr (List.mem_cons_of_mem _ hk)) with z | z
      · have := m1 k hk
        omega
      · exact z
theorem Goes.uniq {ns : List Int} {a : Int} {L M : List Int} (h : Goes ns a L) (g : Goes ns a M) : L = M := sorted_uniq h.1 g.1 fun k => (h.2 k).trans (g.2 k).symm
end Rl
namespace Rl
open PySem PySem.Spec PyProof.Rows L2 NdefX LamX
/-! ## a def within a def, handed to another def: the captured name's cell is tracked while that one runs -/
/-- at c stands o, nothing else -/
def CellO (c : Addr) (o : Obj) : HO := .ext fun h => h.get? c = some o
theorem cellO_ok {P : Program} {w : World} {H : Hp} {h : Heap} {c : Addr} {o : Obj} (g : h.get? c = some o) : ObjOk P w H h c (CellO c o) := ⟨g, ⟨o, g⟩, fun _ _ z st => st o z⟩
theorem cellO_at {P : Program} {w : World} {H : Hp} {h : Heap} {c : Addr} {o : Obj} (x : HOk P w H h) (e : H c = some (CellO c o)) : h.get? c = some o := (x c _ e).1
theorem but_of {c b : Addr} {H : Hp} {v : HO} (q : but c H b = some v) : b ≠ c ∧ H b = some v := by
  unfold but at q
  split at q
  · cases q
  · exact ⟨‹_›, q⟩
theorem upd_of {c b : Addr} {H : Hp} {v x : HO} (q : upd H c x b = some v) : (b = c ∧ v = x) ∨ (b ≠ c ∧ H b = some v) := by
  by_cases e : b = c
  · rw [e, upd_same] at q
    exact .inl ⟨e, (Option.some.inj q).symm⟩
  · rw [upd_ne e] at q
    exact .inr ⟨e, q⟩
/-- an entry that is no cell's -/
theorem but_keep {c b : Addr} {H : Hp} {v : HO} {o : Obj} (e : H c = some (CellO c o)) (n : ∀ φ, v ≠ .ext φ) (z : H b = some v) : but c H b = some v :=
  but_get (fun y => n _ (Option.some.inj (z.symm.trans (y ▸ e)))) z
section
variable {P : Program} {w : World} {H H' : Hp} {h h' : Heap} {c : Addr} {o : Obj} {fs ex : List Addr}
theorem hok_but (x : HOk P w H h) (e : H c = some (CellO c o)) : HOk P w (but c H) h := fun b u q =>
  (x b u (but_of q).2).stay (fun _ _ _ z => z) (fun _ z => but_keep e (fun _ y => nomatch y) z) fun _ _ z => but_keep e (fun _ y => nomatch y) z
theorem hok_cell (x : HOk P w H h) (n : H c = none) (g : h.get? c = some o) : HOk P w (upd H c (CellO c o)) h := fun b u q => by
  rcases upd_of q with ⟨rfl, rfl⟩ | ⟨_, z⟩
  · exact cellO_ok g
  · exact (x b u z).stay (fun _ _ _ y => y) (fun _ y => upd_get n y) fun _ _ y => upd_get n y
/-- the cell is given back to its frame -/
theorem un_back (u : Un fs ex (upd H c (CellO c o)) H' h h') (n : H c = none) (g : h.get? c = some o) (e : H' c = some (CellO c o)) (x : HOk P w H' h') : Un fs ex H (but c H') h h' := by
  have same : h'.get? c = some o := cellO_at x e
  have none' : ∀ b, b ≠ c → H b = none → upd H c (CellO c o) b = none := fun b nb q => by rw [upd_ne nb]; exact q
  refine ⟨fun b v gb q nf nx => ?_, fun b v gb q hf nx => ?_, fun b v gb q nx => ?_, u.there, fun b xs q => ?_, fun b v y q => ?_, fun b ps q => ?_⟩
  · by_cases hb : b = c
    · rw [hb] at gb ⊢
      rw [same, ← g, gb]
    · exact u.keep b v gb (none' b hb q) nf nx
  · by_cases hb : b = c
    · rw [hb] at gb ⊢
      have ev : v = o := Option.some.inj (gb.symm.trans g)
      exact ⟨o.slots, by rw [ev]; exact same⟩
    · exact u.slot b v gb (none' b hb q) hf nx
  · by_cases hb : b = c
    · rw [hb]
      exact but_none
    · have z := u.free b v gb (none' b hb q) nx
      unfold but
      rw [if_neg hb]
      exact z
  · exact but_keep e (fun _ y => nomatch y) (u.tups b xs (upd_get n q))
  · exact but_keep e (fun _ y => nomatch y) (u.frzs b v y (upd_get n q))
  · obtain ⟨more, z⟩ := u.tbls b ps (upd_get n q)
    exact ⟨more, but_keep e (fun _ y => nomatch y) z⟩
/-- the cell goes on being tracked -/
theorem un_held (u : Un fs ex (but c H) H' h h') (e : H c = some (CellO c o)) (g : h.get? c = some o) (nf : c ∉ fs) (nx : c ∉ ex) : h'.get? c = some o ∧ H' c = none ∧ Un fs ex H (upd H' c (CellO c o)) h h' := by
  have k1 : h'.get? c = some o := u.keep c o g but_none nf nx
  have k2 : H' c = none := u.free c o g but_none nx
  have none' : ∀ b, H b = none → b ≠ c ∧ but c H b = none := fun b q => by
    have hb : b ≠ c := fun z => by
      rw [z, e] at q
      cases q
    unfold but
    rw [if_neg hb]
    exact ⟨hb, q⟩
  refine ⟨k1, k2, fun b v gb q => u.keep b v gb (none' b q).2, fun b v gb q => u.slot b v gb (none' b q).2, fun b v gb q x => ?_, u.there, fun b xs q => ?_, fun b v y q => ?_, fun b ps q => ?_⟩
  · rw [upd_ne (none' b q).1]
    exact u.free b v gb (none' b q).2 x
  · exact upd_get k2 (u.tups b xs (but_keep e (fun _ y => nomatch y) q))
  · exact upd_get k2 (u.frzs b v y (but_keep e (fun _ y => nomatch y) q))
  · obtain ⟨more, z⟩ := u.tbls b ps (but_keep e (fun _ y => nomatch y) q)
    exact ⟨more, upd_get k2 z⟩
end
theorem same_put {H H2 : Hp} {c : Addr} {x : HO} (e : H c = some x) (s : Same (but c H) H2) : Same H (upd H2 c x) := fun b v q => by
  by_cases hb : b = c
  · rw [hb] at q ⊢
    rw [upd_same, ← e, q]
  · rw [upd_ne hb]
    exact s b v (but_get hb q)
section
variable {X : Cx} {pins : List (Addr × Obj)} {σ : L2.St} {H : Hp} {s : Shared}
/-- cells made by this frame lie behind its names -/
theorem cell_out (I : Inv X pins σ H s) {c : Addr} (hgt : X.env.locals < c) : X.base.get? c = none ∧ c ∉ frs X.stack := by
  have sz := I.ok.above
  have far : X.s_0.heap.objs.size < c := Nat.lt_of_le_of_lt sz hgt
  refine ⟨?_, fun z => ?_⟩
  · cases q : X.base.get? c with
    | none => rfl
    | some o =>
      exact absurd (Nat.lt_trans far (Nat.lt_of_lt_of_le (Heap.lt_size q) I.ok.bsz)) (Nat.lt_irrefl _)
  · rcases List.mem_cons.mp (I.stkSub c z) with y | y
    · exact absurd (y ▸ hgt) (Nat.lt_irrefl _)
    · obtain ⟨_, o, q, _⟩ := I.ok.funs.mem y
      exact absurd (Nat.lt_trans far (Heap.lt_size q)) (Nat.lt_irrefl _)
/-- x(e, ..), x a def of the top: the name in the slot j stands in the cell c, tracked while the callee runs -/
def tCallC (K : PySem.W.Frag) (c : Addr) (j : Nat) (sp : Sp) (t : TA) : TE := fun σ H Q => t σ H fun vs H1 => ∃ a, σ[j]? = some (some (.ref a)) ∧ ∀ o : Obj, o.data = .cell (some (.ref a)) → K.lookup c = none → H1 c = none → sp vs (upd H1 c (CellO c o)) (fun v H2 => H2 c = some (CellO c o) ∧ Q v (but c H2)) E0
theorem pe_callC {k k' j : Nat} {x y : Str} {sp : Sp} {c : Addr} {t : TA} {e : Expr} {es : List Expr} {p pos : Pos} (F : Cl X.prog X.w X.K X.mg X.base k x sp) (hr : Room k' X.A) (hk : k ≤ k') (hg : Gl X x) (hN : X.N[j]? = some y) (hy : X.env.scope.names.lookup y = some .cell) (hc : X.env.cells.lookup y = some c) (hgt : X.env.locals < c) (ha : PA X (e :: es) t)
    (hdb : (x == ("__debug__" : Str)) = false := by decide) (he : starEach (e :: es) X.env = (false, eval e X.env) :: starEach es X.env := by rfl) (hpl : (backTo pos (starEach es X.env)).any (·.1) = false := by rfl) :
    PE X (.Call (.Name x p) (e :: es) [] pos) (tCallC X.K c j sp t) := by
  obtain ⟨f, fd, ps, Fn, hm, kp, b⟩ := F.ex
  refine ⟨fun pins s σ H Q I h => wpAny_Call_Name_kw (ld_glob I hg hm ?_ hdb)⟩
  refine PySem.W.callWith_K (h₀ := X.base) I.ok.mod.kin kp (thn (ha.run pos pins s σ H _ I h) fun us s1 ⟨vs, H1, I1, r, a, hs, q⟩ => ⟨I1.kIn, ?_⟩) he hpl
  -- the cell
  obtain ⟨m, _, look⟩ := I1.loc
  obtain ⟨u, ru, lk⟩ := look j y (.ref a) hN hs (.inr (.inl hy))
  obtain rfl : u = Value.ref a := ru
  obtain ⟨o, go, od⟩ : s1.heap.IsCell c (some (.ref a)) := by
    rcases lk with ⟨z, _⟩ | ⟨_, c', hc', z⟩
    · have z' : X.env.scope.names.lookup y = some .local := z
      rw [hy] at z'
      cases z'
    · rw [hc] at hc'
      cases hc'
      exact z
  have n1 : H1 c = none := I1.freeC y c hc
  obtain ⟨nb, nf⟩ := cell_out I1 hgt
  have e0 := I1.env0
  have e1 : Env0 X.prog X.w X.K X.mg X.base X.A X.stack s1 (upd H1 c (CellO c o)) := by
    refine ⟨e0.frames, e0.mod, fun b v z => ?_, e0.bsz, e0.funs, fun b z => ?_, hok_cell e0.hok n1 go, e0.bare⟩
    · have hb : b ≠ c := fun y => by
        rw [y, nb] at z
        cases z
      rw [upd_ne hb]
      exact e0.bs b v z
    · rw [upd_ne fun (y : b = c) => nf (y ▸ z)]
      exact e0.frf b z
  have nk : X.K.lookup c = none := by
    cases z : X.K.lookup c with
    | none => rfl
    | some v =>
      have y := I1.ok.mod.kin c v z
      rw [nb] at y
      cases y
  have sp1 := q o od nk n1
  have hl := Fn.len _ _ _ _ sp1
  have bd : BindsTo s1 fd ⟨us, []⟩ (ps.zip us) := by
    have z := b s1 us I1.kIn (by rw [List.append_nil, ← r.length]; exact hl)
    rw [List.append_nil] at z
    exact z
  refine wpAny_call (codeAny_mono (Fn.run X.A X.stack s1 _ ⟨us, []⟩ us vs _ _ (hr.mono hk) e1 bd r sp1) fun r s' hq => ?_)
  cases r with
  | error e => exact hq.elim
  | ok fl =>
    cases fl with
    | ret u =>
      obtain ⟨v, H', os, bare, un, hok, rv, k1, k2⟩ := hq
      exact I1.after ⟨v, but c H', os, bare, un_back un n1 go k1 hok, hok_but hok k1, rv, k2⟩
    | next => exact False.elim hq
    | brk => exact False.elim hq
    | cont => exact False.elim hq
/-- x(e, ..), the slot i holds a def made elsewhere whose one captured name stands in a tracked cell; T: which ones there may be, with what they promise -/
def tCallH (i : Nat) (y : Str) (T : NF → (Addr → Sp) → Prop) (t : TA) : TE := fun σ H Q => ∃ (f : Addr) (F : NF) (sp : Addr → Sp) (c : Addr) (o : Obj) (a : Addr), σ[i]? = some (some (.ref f)) ∧ T F sp ∧ F.cl = [(y, c)] ∧ o.data = .cell (some (.ref a)) ∧ H f = some (FnO f F) ∧
  t σ H fun vs H1 => H1 f = some (FnO f F) ∧ H1 F.c = some (CodeO F.c F.qual) ∧ H1 c = some (CellO c o) ∧ f ≠ c ∧ F.c ≠ c ∧ sp a vs (but c H1) (fun v H2 => H2 c = none → Q v (upd H2 c (CellO c o))) E0
/-- a nested def's promise, its captured name's object told -/
abbrev spCap (sp : Addr → Sp) : List (Option V) → Sp := fun ws vs H Q E => ∃ a, ws = [some (.ref a)] ∧ sp a vs H Q E
theorem pe_callH {k k' i : Nat} {x y : Str} {T : NF → (Addr → Sp) → Prop} {ps : List Str} {t : TA} {e : Expr} {es : List Expr} {p pos : Pos} (Fn : ∀ f F sp, T F sp → NOk X.prog X.w X.K X.mg X.base CX0 k f F ps [y] (spCap sp)) (hr : Room k' X.A) (hk : k ≤ k') (hN : X.N[i]? = some x) (hv : Vis X.env.scope x) (ha : PA X (e :: es) t)
    (hdb : (x == ("__debug__" : Str)) = false := by decide) (hcd : (x == ("__classdict__" : Str)) = false := by decide)
    (he : starEach (e :: es) X.env = (false, eval e X.env) :: starEach es X.env := by rfl) (hpl : (backTo pos (starEach es X.env)).any (·.1) = false := by rfl) :
    PE X (.Call (.Name x p) (e :: es) [] pos) (tCallH i y T t) := by
  refine ⟨fun pins s σ H Q I h => ?_⟩
  obtain ⟨f, F, sp, c, o, a, hs, hT, hcl, od, hf, ht⟩ := h
  have var := (pe_var (X := X) (i := i) (pos := p) hN hv hdb hcd).run pins s σ H (fun v H1 => v = .ref f ∧ H1 = H) I ⟨.ref f, hs, rfl, rfl⟩
  refine wpAny_Call_Name_kw (thn var fun u s1 ⟨v, H1, I1, r1, ev, eH⟩ => ?_)
  subst eH
  subst ev
  obtain rfl : u = Value.ref f := r1
  refine PySem.W.callWith_F (first := []) (fnAt_of I1 hf) (thn (ha.run pos pins s1 σ H1 _ I1 ht) fun us s2 ⟨vs, H2, I2, r, h1, h2, h3, n1, n2, q⟩ => ⟨fnAt_of I2 h1, ?_⟩) he hpl
  show wpAny _ _ (call (.ref f) us) _ _ _
  have e0 := I2.env0
  have go : s2.heap.get? c = some o := cellO_at e0.hok h3
  have nf : c ∉ frs X.stack := fun z => by
    have y := e0.frf c z
    rw [h3] at y
    cases y
  have lt : ∀ b, H2 b = none → but c H2 b = none := fun b z => by
    unfold but
    split
    · rfl
    · exact z
  have e1 : Env0 X.prog X.w X.K X.mg X.base X.A X.stack s2 (but c H2) := ⟨e0.frames, e0.mod, fun b v z => ⟨(e0.bs b v z).1, lt b (e0.bs b v z).2⟩, e0.bsz, e0.funs, fun b z => lt b (e0.frf b z), hok_but e0.hok h3, e0.bare⟩
  have one : ∀ z d, F.cl.lookup z = some d → z = y ∧ d = c := fun z d g => by
    rw [hcl] at g
    have m := PySem.mem_of_lookup g
    have m2 := List.mem_singleton.mp m
    cases m2
    exact ⟨rfl, rfl⟩
  have C : CellsAt F.cl [y] [some (.ref a)] s2.heap (but c H2) := by
    refine ⟨rfl, fun z d g => ?_, fun z1 z2 d g1 g2 => (one z1 d g1).1.trans (one z2 d g2).1.symm, fun i z g => ?_⟩
    · rw [(one z d g).2]
      exact ⟨but_none, _, o, go, od⟩
    · cases i with
      | succ i => cases g
      | zero =>
        obtain rfl : y = z := Option.some.inj g
        refine ⟨c, by rw [hcl]; exact List.lookup_cons_self, fun v ev => ⟨.ref a, ?_, o, go, od⟩⟩
        have e2 : V.ref a = v := Option.some.inj (Option.some.inj ev)
        rw [← e2]
        rfl
  refine wpAny_call (codeAny_mono ((Fn f F sp hT).run X.A X.stack s2 _ us vs _ _ _ (hr.mono hk) e1 (but_get n1 h1) (but_get n2 h2) C r ⟨a, rfl, q⟩) fun r s' hq => ?_)
  cases r with
  | error e => exact hq.elim
  | ok fl =>
    cases fl with
    | ret u =>
      obtain ⟨v, H', os, bare, un, hok, rv, k1⟩ := hq
      obtain ⟨u1, u2, u3⟩ := un_held un h3 go nf (fun z => by cases z)
      exact I2.after ⟨v, _, os, bare, u3, hok_cell hok u2 u1, rv, k1 u2⟩
    | next => exact False.elim hq
    | brk => exact False.elim hq
    | cont => exact False.elim hq
end
/-! ## a def's body, its code object known by the def's name -/
section
variable {K : PySem.W.Frag} {P : Program} {w : World} {base : Heap} {mg : Str → Option Value}
theorem cl_ofC {x : Str} {st : Stmt} {fd : FuncData} {N ps : List Str} {k : Nat} {sp : Sp} (D : FnP K x st (He.fAd K (x, none)) fd) (hm : mg x = some (.ref (He.fAd K (x, none)))) (hb : Binds K fd ps []) (S : FnScope N ps (defScope st)) (len : ∀ vs H Q E, sp vs H Q E → vs.length = ps.length)
    (hbody : ∀ (A : Around) (outer : List PySem.Env) (s : Shared) (H : Hp) (vs : List V) (Q : VK) (E : XK), Room k (A.deeper (envOfC x (defScope st) s.heap.objs.size (He.fAd K (x, none)) (.ref (He.codeOf K (x, none))))) → sp vs H Q E →
      ∃ t, PSs (cxOf CX0 P w K mg base N x (defScope st) (He.fAd K (x, none)) (.ref (He.codeOf K (x, none))) A outer s H E) (defBody st) t ∧ t { nx := fun _ H' => Q .non H', rt := Q } (start N vs) H) : Cl P w K mg base (k + 1) x sp := by
  refine ⟨_, fd, ps, ?_, hm, D.kp, hb⟩
  obtain ⟨oc, od, dV, kV, doc, pm, an, cdv, ct, osl, e, lk, hcd, _, _⟩ := D.ex
  obtain ⟨c, ec⟩ := He.codeIn_ref hcd
  have e1 : He.codeOf K (x, none) = c := He.codeOf_eq lk (by rw [e]; exact ec)
  rw [e1] at hbody
  subst ec e
  exact fn_of lk hcd S len fun A outer s H vs Q E hr hsp => hbody A outer s H vs Q E hr hsp
end
section
variable {X : Cx}
/-- def name(..): .. in a def's body -/
theorem ps_ndefW {st : Stmt} {T : List NTab} {nm : Nat → Nat → Str} {c P : Addr} {name q : Str} {cl : List (Str × Addr)} {pos : Pos} {i : Nat} (hq : X.env.qual ++ name = q) (hcl : cloFrom X.env.cells (C8.fnScope st).names [] = cl)
    (hst : st = .FunctionDef name (C8.fnArgs st) (C8.fnBody st) [] none [] (C8.fnScope st) none name pos) (TB : TabB X.base X.mg c P) (hcode : X.env.code = .ref c) (hm : (P, nm) ∈ T) (hn : nm pos.line pos.col = q) (hu : ∀ p ∈ T, p.1 = P → p.2 = nm) (hfr : ndefB X.env.scope (C8.fnScope st) [] = true)
    (hd0 : (C8.fnArgs st).defaults = []) (hk0 : (C8.fnArgs st).kw_defaults = []) (ha : annTrees (C8.fnArgs st) none X.env = []) (hN : X.N.Nodup) (hi : X.N[i]? = some name) (hx : Loc X.env.scope name) (hf : X.fn name = true ∨ X.env.scope.names.lookup name = some .local) :
    PS X st (tNdef T i (NF.of st name q cl)) := by
  subst hq hcl
  exact ps_ndefS hst TB hcode hm hn hu (ndef_free hfr) hd0 hk0 ha hN hi hx hf
end
/-! ## sorted(d), d a dict with keys that are ints: any number of them -/
def rSortedD : List V → Hp → VK → Prop := fun xs H Q => ∃ (a : Addr) (kvs : List (Key × V)) (ks : List Int), xs = [.ref a] ∧ H a = some (.dK kvs) ∧ kvs.map (·.1) = ks.map Sum.inl ∧
  ∀ (ys : List Int) (p : Addr), ys.Perm ks → ys.Pairwise (· ≤ ·) → H p = none → Q (.ref p) (upd H p (.lst (ys.map V.int)))
section
variable {X : Cx}
theorem keys_ints {P : Program} {w : World} {ks : List Int} {vs : List (Key × Value)} (hk : vs.map (·.1) = ks.map Sum.inl) {acc : List Value} (hl : acc.length = vs.length) (ha : ∀ (j : Nat) (v : Value), acc[j]? = some v → ∃ (k : Key) (x : Value), vs[j]? = some (k, x) ∧ (mixKind P w).is k v = true) : IntsAre acc ks := by
  have hlk : vs.length = ks.length := by simpa using congrArg List.length hk
  refine ints_each (hl.trans hlk) fun j v e => ?_
  obtain ⟨k, x, e1, e2⟩ := ha j v e
  have e3 : (ks.map (Sum.inl : Int → Key))[j]? = some k := by rw [← hk, List.getElem?_map, e1]; rfl
  rw [List.getElem?_map] at e3
  obtain ⟨n, hn, rfl⟩ := Option.map_eq_some_iff.mp e3
  rcases keyIs_shape (show keyIs (Sum.inl n) v = true from e2) with ⟨i, t, y1, y2⟩ | ⟨_, _, y1, _⟩
  · cases y1
    exact ⟨n, t, hn, y2⟩
  · cases y1
theorem cr_sortedD (calm : X.calm = true) : CallR X (.builtin "sorted") rSortedD := by
  intro pins s σ H xs us Q I r ⟨a, kvs, ks, ex, hd, hks, q⟩
  subst ex
  rw [Vals.ref1 r]
  obtain ⟨z, lo, vs, rel, dd⟩ := I.hok a _ hd
  obtain ⟨ep, at'⟩ := dd.dictAt
  have e1 : vs.map (·.1) = ks.map Sum.inl := rel.keys.symm.trans hks
  have e2 : kvs.length = vs.length := by simpa using congrArg List.length rel.keys
  have vz : vs.length ≤ sizeLine := e2 ▸ z
  refine Calls.call_function_entry kind_sorted plain_sorted entry_sorted (args_sorted1 _) ?_
  unfold Builtin.«sorted»
  refine wpAny_bind (m := checkCount "sorted" 1 1 _) (wpAny_pure ?_)
  refine wpAny_bind (PySem.W.kdu_collect (PySem.W.kdl_dict (knd := mixKind X.prog X.w) lo) (I.ok.hd calm) at' vz fun h1 tk acc kp got => ?_)
  have al : acc.toList.length = vs.length := by rw [Array.length_toList]; exact got.1
  have isI : IntsAre acc.toList ks := keys_ints e1 al fun j v e => got.2 j v (by rw [← Array.getElem?_toList]; exact e)
  have sz : acc.toList.length ≤ sizeLine := al ▸ vz
  have I1 : Inv X pins σ H { s with heap := h1, toks := tk } := I.kept kp
  refine wpAny_bind (wpAny_newList ?_ sz)
  have top : (h1.push (seqObj "list" acc.toList.toArray 0)).get? h1.objs.size = some (seqObj "list" acc.toList.toArray 0) := Heap.get?_push_size _ rfl
  show wpAny _ _ _ _ _ { s with heap := h1.push (seqObj "list" acc.toList.toArray 0), toks := tk }
  refine wpAny_bind (wpAny_holding (wpAny_call_entry slot_list_sort ⟨_, top, rfl⟩ entry_list_sort (SrtO.list_sort_ord (s := { s with heap := h1.push (seqObj "list" acc.toList.toArray 0), toks := tk }) SrtO.swo_int top sz (fun two => SrtO.ints_sortable isI two) fun out o1 o2 => ⟨_, rfl, ?_⟩) (args_list_sort _)))
  obtain ⟨k1, k2, k3⟩ := SrtO.ints_out isI o1 o2
  obtain ⟨n, hn⟩ := sortedHeap_at (vs := acc.toList) (out := out.toArray) top
  have zl : ((out.map SrtO.iv).map V.int).length ≤ sizeLine := by
    rw [List.length_map, k2.length_eq, ← isI.length]
    exact sz
  refine wpAny_pure ⟨_, rfl, .ref h1.objs.size, _, I1.laid (t' := tk) (o := .lst ((out.map SrtO.iv).map V.int)) (fun b u e => ?_) (Nat.le_refl _) ⟨zl, out, n, vals_of_ints k1, hn⟩, rfl, q _ _ k2 k3 (I1.hok.fresh (Nat.le_refl _))⟩
  have lb : b < h1.objs.size := Heap.lt_size e
  rw [sortedHeap_old (Nat.ne_of_lt lb) (Nat.lt_of_lt_of_eq (Nat.lt_succ_of_lt lb) (size_push' ..).symm)]
  exact Heap.get?_push_of_some _ e
end
end Rl
namespace Rl
open PySem PySem.Spec PyProof.Rows L2 NdefX LamX
/-! ## all places that are gone to -/
/-- from a on, by N -/
inductive Rch (N : Int → Int → Prop) (a : Int) : Int → Prop
  | here : Rch N a a
  | on {x k : Int} : Rch N a x → N x k → Rch N a k
/-- what all_from has at a turn: found ones, waiting ones -/
structure AF (N : Int → Int → Prop) (a : Int) (ks ws : List Int) : Prop where
  nd : ks.Nodup
  fst : a ∈ ks
  sub : ∀ k ∈ ws, k ∈ ks
  clo : ∀ k ∈ ks, k ∈ ws ∨ ∀ j, N k j → j ∈ ks
  rch : ∀ k ∈ ks, Rch N a k
/-- amid a turn: x was taken, the first i of L are done -/
structure AFi (N : Int → Int → Prop) (a : Int) (ks ws : List Int) (x : Int) (L : List Int) (i : Nat) : Prop where
  nd : ks.Nodup
  fst : a ∈ ks
  sub : ∀ k ∈ ws, k ∈ ks
  clo : ∀ k ∈ ks, k ∈ ws ∨ k = x ∨ ∀ j, N k j → j ∈ ks
  rch : ∀ k ∈ ks, Rch N a k
  xin : x ∈ ks
  don : ∀ k ∈ L.take i, k ∈ ks
section
variable {N : Int → Int → Prop} {a x : Int} {ks ws L : List Int} {i : Nat}
theorem AF.start : AF N a [a] [a] := ⟨by simp, List.mem_singleton.mpr rfl, fun _ h => h, fun _ h => .inl h, fun k h => by
  rw [List.mem_singleton.mp h]
  exact .here⟩
theorem AF.take (h : AF N a ks ws) (hx : ws[ws.length - 1]? = some x) : AFi N a ks ws.dropLast x L 0 := by
  have hm : x ∈ ws := List.mem_of_getElem? hx
  have hs : ∀ k ∈ ws, k ∈ ws.dropLast ∨ k = x := fun k hk => by
    obtain ⟨j, hj⟩ := List.mem_iff_getElem?.mp hk
    have lj : j < ws.length := (List.getElem?_eq_some_iff.mp hj).1
    by_cases e : j = ws.length - 1
    · rw [e, hx] at hj
      exact .inr (Option.some.inj hj).symm
    · refine .inl (List.mem_iff_getElem?.mpr ⟨j, ?_⟩)
      rw [List.getElem?_dropLast, if_pos (by omega)]
      exact hj
  refine ⟨h.nd, h.fst, fun k hk => h.sub k ((List.dropLast_sublist ws).subset hk), fun k hk => ?_, h.rch, h.sub x hm, fun k hk => by simp at hk⟩
  rcases h.clo k hk with z | z
  · rcases hs k z with y | y
    · exact .inl y
    · exact .inr (.inl y)
  · exact .inr (.inr z)
theorem AFi.old {k : Int} (h : AFi N a ks ws x L i) (hk : L[i]? = some k) (m : k ∈ ks) : AFi N a ks ws x L (i + 1) :=
  ⟨h.nd, h.fst, h.sub, h.clo, h.rch, h.xin, fun j hj => by
    rw [List.take_add_one, hk] at hj
    rcases List.mem_append.mp hj with z | z
    · exact h.don j z
    · rw [List.mem_singleton.mp z]
      exact m⟩
theorem AFi.new {k : Int} (h : AFi N a ks ws x L i) (hk : L[i]? = some k) (m : k ∉ ks) (n : N x k) : AFi N a (ks ++ [k]) (ws ++ [k]) x L (i + 1) := by
  have inl : ∀ j, j ∈ ks → j ∈ ks ++ [k] := fun j hj => List.mem_append_left _ hj
  refine ⟨?_, inl _ h.fst, fun j hj => ?_, fun j hj => ?_, fun j hj => ?_, inl _ h.xin, fun j hj => ?_⟩
  · refine List.nodup_append.mpr ⟨h.nd, by simp, fun u hu v hv e => ?_⟩
    rw [List.mem_singleton.mp hv] at e
    exact m (e ▸ hu)
  · rcases List.mem_append.mp hj with z | z
    · exact inl _ (h.sub j z)
    · exact List.mem_append_right _ z
  · rcases List.mem_append.mp hj with z | z
    · rcases h.clo j z with y | y | y
      · exact .inl (List.mem_append_left _ y)
      · exact .inr (.inl y)
      · exact .inr (.inr fun l hl => inl _ (y l hl))
    · exact .inl (List.mem_append_right _ z)
  · rcases List.mem_append.mp hj with z | z
    · exact h.rch j z
    · rw [List.mem_singleton.mp z]
      exact .on (h.rch x h.xin) n
  · rw [List.take_add_one, hk] at hj
    rcases List.mem_append.mp hj with z | z
    · exact inl _ (h.don j z)
    · exact List.mem_append_right _ z
theorem AFi.done (h : AFi N a ks ws x L L.length) (hL : ∀ k, k ∈ L ↔ N x k) : AF N a ks ws := by
  refine ⟨h.nd, h.fst, h.sub, fun k hk => ?_, h.rch⟩
  rcases h.clo k hk with y | y | y
  · exact .inl y
  · refine .inr fun j hj => h.don j ?_
    rw [List.take_length]
    rw [y] at hj
    exact (hL j).mpr hj
  · exact .inr y
theorem AF.all (h : AF N a ks []) (k : Int) : k ∈ ks ↔ Rch N a k := by
  refine ⟨h.rch k, fun r => ?_⟩
  induction r with
  | here => exact h.fst
  | on _ n ih =>
    rcases h.clo _ ih with z | z
    · cases z
    · exact z _ n
/-- no more than M of them -/
theorem len_below : ∀ {M : Nat} {ks : List Int}, ks.Nodup → (∀ k ∈ ks, 0 ≤ k ∧ k < (M : Int)) → ks.length ≤ M
  | 0, ks, _, h => by
    cases ks with
    | nil => exact Nat.le_refl _
    | cons k r =>
      have := h k List.mem_cons_self
      omega
  | M + 1, ks, nd, h => by
    have ih := len_below (M := M) (nd.erase (M : Int)) fun k hk => by
      have h1 := h k (List.mem_of_mem_erase hk)
      have h2 : k ≠ (M : Int) := fun e => by
        rw [e] at hk
        exact nd.not_mem_erase hk
      omega
    rw [List.length_erase] at ih
    split at ih <;> omega
theorem sorted_strict {ys : List Int} (p : ys.Perm ks) (o : ys.Pairwise (· ≤ ·)) (nd : ks.Nodup) : ys.Pairwise (· < ·) := by
  have nd2 : ys.Nodup := p.nodup_iff.mpr nd
  refine (List.pairwise_and_iff.mpr ⟨o, nd2⟩).imp fun ⟨h1, h2⟩ => ?_
  omega
end
/-- all within 0 and M -/
theorem rch_in {N : Int → Int → Prop} {a k : Int} {P : Int → Prop} (h : Rch N a k) (h0 : P a) (hN : ∀ x k, N x k → P k) : P k := by
  cases h with
  | here => exact h0
  | on _ n => exact hN _ _ n
/-- where a row goes on to: behind, its target -/
def NxA (ns : List Int) (a k : Int) : Prop := behind ns a = some k ∨ tgt ns a = some k
def NxG (ns : List Int) (a k : Int) : Prop := behind ns a = some k ∨ (isCall ns a = false ∧ tgt ns a = some k)
end Rl
namespace Rl
open PySem PySem.Spec PyProof.Rows L2 NdefX LamX
/-! ## a list comprehension in whose turns a def of the frame is handed on: what the frame's cell holds is told of the block's start -/
/-- a block starts here, from the frame of X; the name in the slot j holds the object at a -/
def Starts (X : Cx) (j : Nat) (a : Addr) (s : Shared) (H : Hp) (fp : List Addr) : Prop := ∃ (pins : List (Addr × Obj)) (σ : L2.St), Inv X pins σ H s ∧ σ[j]? = some (some (.ref a)) ∧ ∀ b ∈ fp, FpOk X pins H b
def tLcS (j : Nat) (a : Addr) (wi : TI) (g : TG) (tt : TT) (te : TE) (vs : List Nat) : TE := fun σ H Q => σ[j]? = some (some (.ref a)) ∧ tLc wi g tt te vs σ H Q
section
variable {X : Cx}
theorem pe_lcS {j : Nat} {a : Addr} {elt tg src : Expr} {cs : List Expr} {bsc : Scope} {own : List (PySem.Str × Nat)} {cp : Pos} {wi : TI} {g : TG} {tt : TT} {te : TE} (calm : X.calm = true) (nd : X.N.Nodup) (walk : PI X tg src wi) (blk : BlkOk X.N X.env.scope bsc own)
    (dg : ∀ (s : Shared) (H : Hp) (C : Addr) (cl : List (PySem.Str × Addr)) (fp : List Addr), PG (X.blk s H bsc (compEnvC bsc cl C X.env) fp) tg g)
    (dt : ∀ (s : Shared) (H : Hp) (C : Addr) (cl : List (PySem.Str × Addr)) (fp : List Addr), PTs (X.blk s H bsc (compEnvC bsc cl C X.env) fp) cs tt)
    (de : ∀ (s : Shared) (H : Hp) (C : Addr) (cl : List (PySem.Str × Addr)) (fp : List Addr), Starts X j a s H fp → PE (X.blk s H bsc (compEnvC bsc cl C X.env) fp) elt te) (fold : ∀ x, foldedSetIterable src X.env x = pure x := by intro _; rfl) :
    PE X (.ListComp elt [⟨tg, src, cs, 0⟩] bsc cp) (tLcS j a wi g tt te (own.map (·.2))) := by
  refine ⟨fun pins s0 σ H Q I0 ⟨slot, go⟩ => ?_⟩
  rw [eval_ListComp]
  have cellsHere : ∀ y ∈ bsc.names, y.2 = .free → ∃ c, X.env.cells.lookup y.1 = some c := by
    intro y hy e
    exact (blk.free y hy e).elim (fun k => I0.ok.has _ (.inl k)) fun k => I0.ok.has _ (.inr k)
  refine wpAny_comprehension_free (use := none) rfl fold (closure_ok cellsHere) blk.kind (fun y hy e => by rw [blk.uniq y hy, e]) ?_
  refine thn (walk.run pins s0 σ H _ I0 go) fun xv sA inner => thn inner fun itv sB res => ?_
  obtain ⟨it, fp, tn, J, HB, e, IB, T, stB, okB, q⟩ := res
  subst e
  refine wpAny_newObj_type (newEnv_comp ?_) (by show 0 ≤ sizeLine; decide)
  -- the list is the newest thing
  obtain ⟨D, hD⟩ : ∃ D, D = sB.heap.objs.size := ⟨_, rfl⟩
  have fresh : HB D = none := IB.hok.fresh (Nat.le_of_eq hD.symm)
  obtain ⟨W, ⟨m0, w0⟩, turn⟩ := q D fresh
  rw [← hD]
  generalize hsC : ({ sB with heap := sB.heap.push { cls := .type "list", data := .seq ([] : List Value).toArray } } : Shared) = sC
  have heapC : sC.heap = sB.heap.push { cls := .type "list", data := .seq ([] : List Value).toArray } := by rw [← hsC]
  have IC : Inv X pins σ (upd HB D (HO.lst [])) sC := by
    rw [← hsC]
    refine IB.laid (t' := sB.toks) (fun b o e => Heap.get?_push_of_some _ e) (Nat.le_of_eq hD.symm) ?_
    rw [hD]
    exact ⟨Nat.zero_le _, [], 0, .nil, Heap.get?_push_size _ rfl⟩
  have below : ∀ b ∈ fp, b < sB.heap.objs.size := by
    intro b hb
    obtain ⟨o, e, _⟩ := T.obj _ _ stB b hb
    exact Heap.lt_size e
  have okC : ∀ b ∈ fp, FpOk X pins (upd HB D (HO.lst [])) b ∧ b < sC.heap.objs.size := by
    intro b hb
    have lt := below b hb
    have ne : b ≠ D := by
      rw [hD]
      exact Nat.ne_of_lt lt
    refine ⟨⟨(upd_ne ne).trans (okB b hb).1, (okB b hb).2⟩, ?_⟩
    rw [heapC, Heap.size_push]
    exact Nat.lt_succ_of_lt lt
  have stC : tn 0 sC.heap := T.keep _ _ _ stB fun b _ o e => by
    rw [heapC]
    exact Heap.get?_push_of_some _ e
  obtain ⟨HC, hHC⟩ : ∃ HC, HC = upd HB D (HO.lst []) := ⟨_, rfl⟩
  rw [← hHC] at IC okC w0
  have inner := block_start IC blk nd okC
  have qg := dg sC HC sC.heap.objs.size (cellsFrom (sC.heap.objs.size + 1) bsc.names (cloFrom X.env.cells bsc.names [])) fp
  have qt := dt sC HC sC.heap.objs.size (cellsFrom (sC.heap.objs.size + 1) bsc.names (cloFrom X.env.cells bsc.names [])) fp
  have qe := de sC HC sC.heap.objs.size (cellsFrom (sC.heap.objs.size + 1) bsc.names (cloFrom X.env.cells bsc.names [])) fp ⟨pins, σ, IC, slot, fun b hb => (okC b hb).1⟩
  show codeAny _ _ (.compStart (.ListComp elt [⟨tg, src, cs, 0⟩] bsc cp) 0 (.ref it) (.ref D) (compEnvC bsc (cellsFrom (sC.heap.objs.size + 1) bsc.names (cloFrom X.env.cells bsc.names [])) sC.heap.objs.size X.env)) (compPost (model X.prog X.w) X.A X.xe none _ (.ref D) sC.heap.objs.size) { sC with heap := pushCells (sC.heap.push { cls := .type "dict", data := .dict #[] }) bsc.names }
  have fpC : ∀ b ∈ fp, HC b = none := fun b hb => (okC b hb).1.1
  generalize hce : compEnvC bsc (cellsFrom (sC.heap.objs.size + 1) bsc.names (cloFrom X.env.cells bsc.names [])) sC.heap.objs.size X.env = ce at inner qg qt qe ⊢
  have locC : ce.locals = sC.heap.objs.size := by
    subst hce
    rfl
  generalize hsE : ({ sC with heap := pushCells (sC.heap.push { cls := .type "dict", data := .dict #[] }) bsc.names } : Shared) = sE at inner ⊢
  have stE : tn 0 sE.heap := T.keep _ _ _ stC fun b _ o e => by
    rw [← hsE]
    exact pushCells_keeps _ _ _ _ (Heap.get?_push_of_some _ e)
  have okIn : ∀ {σ' : L2.St} {H' : Hp} {s' : Shared}, Inv (X.blk sC HC bsc ce fp) [] σ' H' s' → (∀ b ∈ fp, H' b = none) → ∀ b ∈ fp, FpOk (X.blk sC HC bsc ce fp) [] H' b := by
    intro σ' H' s' I' none' b hb
    exact ⟨none' b hb, (I'.ok.exf b hb).1, I'.ok.exfs b hb, .inl hb, fun x c e => (I'.ok.exf b hb).2 x c e, fun p hp => absurd (show p ∈ ([] : List (Addr × Obj)) ++ [] from hp) (by simp)⟩
  refine codeAny_compStart_list ?_ (T.self X.A 0 _ _ _ stE ?_)
  all_goals
    refine compLoop_any (fun n s' => ∃ i H', Inv (X.blk sC HC bsc ce fp) [] (wipe σ (own.map (·.2))) H' s' ∧ tn i s'.heap ∧ (∀ b ∈ fp, H' b = none) ∧ W i n H') ?_ m0 ⟨0, HC, inner, stE, fpC, w0⟩
    rintro n sF ⟨i, HF, IF, stF, noneF, wF⟩
    rcases turn i n HF wF with ⟨stop, fin⟩ | ⟨more, Nx, hNx, each⟩
    · refine thnF (T.done (X.blk sC HC bsc ce fp) rfl rfl rfl calm i [] sF _ HF (fun _ _ => False) IF (okIn IF noneF) stF stop) fun r sG ⟨hr, IG⟩ => ?_
      subst hr
      have back : Inv X pins σ HF sG := IC.call' (ch := fp) IG.os IG.base IG.hok IG.bare fun b hb => ⟨(okC b hb).1.2.2.2.1, (okC b hb).1.2.1, (okC b hb).1.2.2.2.2.1, (okC b hb).1.2.2.2.2.2⟩
      have noLoc : HF sC.heap.objs.size = none := by
        have z : HF ce.locals = none := IG.free
        rwa [locC] at z
      obtain ⟨m, isNs, _⟩ := IG.loc
      replace isNs : sG.heap.Ns ce.locals m := isNs
      rw [locC] at isNs
      refine ⟨m, isNs, fun h'' same => ?_⟩
      obtain ⟨f0, f1, f2, f3, f4, f5⟩ := IC.fpOk (Nat.le_refl _) noLoc
      exact ⟨.ref D, HF, back.turned (t' := sG.toks) (fun b o hb e => (same.2 b hb).trans e) f0 f1 f3 f4 f5, rfl, fin⟩
    · refine thnF (T.item (X.blk sC HC bsc ce fp) rfl rfl rfl calm i [] sF _ HF (fun _ _ => False) IF (okIn IF noneF) stF more) fun r sG ⟨u, hr, yields⟩ => ?_
      subst hr
      refine thnF yields fun _ sH ⟨x, HH, IH, rH, yH, stH, noneH⟩ => ?_
      refine thnF (qg.run _ sH _ HH x u _ (IH.pinned (okIn IH noneH) (T.obj _ _ stH)) rH (each x HH yH)) fun _ sI ⟨σI, HI, II, wipeI, qI⟩ => ?_
      refine thnF (qt.run _ sI σI HI _ II qI) fun b sJ ⟨HJ, IJ, qJ⟩ => ?_
      have onward : ∀ {s' : Shared} {H' : Hp}, Inv (X.blk sC HC bsc ce fp) ([] ++ pinsAt fp sH.heap) σI H' s' → Nx H' → ∃ m, m < n ∧ ∃ i H', Inv (X.blk sC HC bsc ce fp) [] (wipe σ (own.map (·.2))) H' s' ∧ tn i s'.heap ∧ (∀ b ∈ fp, H' b = none) ∧ W i m H' := by
        intro s' H' I' nx
        obtain ⟨m', lt, w'⟩ := hNx H' nx
        have held : ∀ b ∈ fp, ∀ o, sH.heap.get? b = some o → s'.heap.get? b = some o ∧ H' b = none := by
          intro b hb o e
          have z := I'.pin (b, o) (List.mem_append_right _ (List.mem_append_right _ (mem_pinsAt hb e)))
          exact ⟨z.1, z.2.1⟩
        refine ⟨m', lt, i + 1, H', (I'.unpinned (pins := [])).weak (by rw [← wipeI, wipe_length]) (fun j v e => ?_), T.keep _ _ _ stH fun b hb o e => (held b hb o e).1, fun b hb => ?_, w'⟩
        · rw [← wipeI] at e
          exact (wipe_some e).1
        · obtain ⟨o, e, _⟩ := T.obj _ _ stH b hb
          exact (held b hb o e).2
      cases b with
      | false =>
        simp only [Bool.false_eq_true, if_false] at qJ ⊢
        exact onward IJ qJ
      | true =>
        simp only [if_true] at qJ ⊢
        refine thnF (qe.run _ sJ σI HJ _ IJ qJ) fun z sK ⟨yv, HK, IK, rK, acc, atD, room, nx⟩ => ?_
        exact app_ok (X := X.blk sC HC bsc ce fp) IK atD room rK fun sL IL => onward IL nx
/-- x(e, ..) within such a block -/
def tCallB (K : PySem.W.Frag) (c a : Addr) (sp : Sp) (t : TA) : TE := fun σ H Q => t σ H fun vs H1 => ∀ o : Obj, o.data = .cell (some (.ref a)) → K.lookup c = none → H1 c = none → sp vs (upd H1 c (CellO c o)) (fun v H2 => H2 c = some (CellO c o) ∧ Q v (but c H2)) E0
theorem pe_callB' {k k' j : Nat} {x y : PySem.Str} {sp : Sp} {c a : Addr} {t : TA} {e : Expr} {es : List Expr} {p pos : Pos} {s0 : Shared} {H0 : Hp} {bsc : Scope} {ce : Env} {fp : List Addr} (st : Starts X j a s0 H0 fp) (F : Cl X.prog X.w X.K X.mg X.base k x sp) (hr : Room k' X.A) (hk : k ≤ k') (hg : Gl (X.blk s0 H0 bsc ce fp) x)
    (hN : X.N[j]? = some y) (hy : X.env.scope.names.lookup y = some .cell) (hc : X.env.cells.lookup y = some c) (hgt : X.env.locals < c) (ha : PA (X.blk s0 H0 bsc ce fp) (e :: es) t)
    (hdb : (x == ("__debug__" : PySem.Str)) = false := by decide) (he : starEach (e :: es) ce = (false, eval e ce) :: starEach es ce := by rfl) (hpl : (backTo pos (starEach es ce)).any (·.1) = false := by rfl) :
    PE (X.blk s0 H0 bsc ce fp) (.Call (.Name x p) (e :: es) [] pos) (tCallB X.K c a sp t) := by
  obtain ⟨pins0, σ0, I0, slot, okf⟩ := st
  obtain ⟨f, fd, ps, Fn, hm, kp, b⟩ := F.ex
  obtain ⟨nb, nf⟩ := cell_out I0 hgt
  obtain ⟨m, _, look⟩ := I0.loc
  obtain ⟨u0, ru, lk⟩ := look j y (.ref a) hN slot (.inr (.inl hy))
  obtain rfl : u0 = Value.ref a := ru
  obtain ⟨o, go, od⟩ : s0.heap.IsCell c (some (.ref a)) := by
    rcases lk with ⟨z, _⟩ | ⟨_, c', hc', z⟩
    · have z' : X.env.scope.names.lookup y = some .local := z
      rw [hy] at z'
      cases z'
    · rw [hc] at hc'
      cases hc'
      exact z
  have n0 : H0 c = none := I0.freeC y c hc
  have nfp : c ∉ fp := fun z => (okf c z).2.2.2.2.1 y c hc rfl
  have nk : X.K.lookup c = none := by
    cases z : X.K.lookup c with
    | none => rfl
    | some v =>
      have y := I0.ok.mod.kin c v z
      rw [nb] at y
      cases y
  refine ⟨fun pins s σ H Q I h => wpAny_Call_Name_kw (ld_glob I hg hm ?_ hdb)⟩
  refine PySem.W.callWith_K (h₀ := X.base) I.ok.mod.kin kp (thn (ha.run pos pins s σ H _ I h) fun us s1 ⟨vs, H1, I1, r, q⟩ => ⟨I1.kIn, ?_⟩) he hpl
  have go1 : s1.heap.get? c = some o := I1.base.keep c o go n0 nf nfp
  have n1 : H1 c = none := I1.base.free c o go n0 nfp
  have e0 := I1.env0
  have e1 : Env0 X.prog X.w X.K X.mg X.base X.A X.stack s1 (upd H1 c (CellO c o)) := by
    refine ⟨e0.frames, e0.mod, fun b v z => ?_, e0.bsz, e0.funs, fun b z => ?_, hok_cell e0.hok n1 go1, e0.bare⟩
    · have hb : b ≠ c := fun y => by
        rw [y] at z
        have z2 : X.base.get? c = some v := z
        rw [nb] at z2
        cases z2
      rw [upd_ne hb]
      exact e0.bs b v z
    · rw [upd_ne fun (y : b = c) => nf (y ▸ z)]
      exact e0.frf b z
  have sp1 := q o od nk n1
  have hl := Fn.len _ _ _ _ sp1
  have bd : BindsTo s1 fd ⟨us, []⟩ (ps.zip us) := by
    have z := b s1 us I1.kIn (by rw [List.append_nil, ← r.length]; exact hl)
    rw [List.append_nil] at z
    exact z
  refine wpAny_call (codeAny_mono (Fn.run X.A X.stack s1 _ ⟨us, []⟩ us vs _ _ (hr.mono hk) e1 bd r sp1) fun r s' hq => ?_)
  cases r with
  | error e => exact hq.elim
  | ok fl =>
    cases fl with
    | ret u =>
      obtain ⟨v, H', os, bare, un, hok, rv, k1, k2⟩ := hq
      exact I1.after ⟨v, but c H', os, bare, un_back un n1 go1 k1 hok, hok_but hok k1, rv, k2⟩
    | next => exact False.elim hq
    | brk => exact False.elim hq
    | cont => exact False.elim hq
end
def refOf : List V → Addr
  | .ref a :: _ => a
  | _ => 0
theorem R.callB {K : PySem.W.Frag} {σ : L2.St} {H : Hp} {Q : VK} {c a : Addr} {sp : Sp} {ta : TA} (q : ta σ H fun vs H1 => ∀ o : Obj, o.data = .cell (some (.ref a)) → K.lookup c = none → H1 c = none → sp vs (upd H1 c (CellO c o)) (fun v H2 => H2 c = some (CellO c o) ∧ Q v (but c H2)) E0) : tCallB K c a sp ta σ H Q := q
end Rl
namespace Rl
open PySem PySem.Spec PyProof.Rows L2
/-! ## steps for while, dicts, lists -/
namespace R
section
variable {K : PySem.W.Frag} {σ : L2.St} {H : Hp} {Q : VK} {t : TS} {nx bk ct : L2.St → Hp → Prop} {rt : VK}
/-- while: what holds at each turn, and how far it is at most -/
theorem whL {c : TT} (W : Nat → L2.St → Hp → Prop) (m0 : Nat) (h0 : W m0 σ H)
    (hs : ∀ m σ H, W m σ H → c σ H fun b H1 => if b = true then ∃ N : L2.St → Hp → Prop, (∀ σ' H', N σ' H' → ∃ m', m' < m ∧ W m' σ' H') ∧ t ⟨N, rt, nx, N⟩ σ H1 else nx σ H1) : tWhile c t ⟨nx, rt, bk, ct⟩ σ H := ⟨W, ⟨m0, h0⟩, hs⟩
theorem bm0 {T : String} {r : V → List V → Hp → VK → Prop} {tk : TE} (q : tk σ H fun x H1 => tyV K T x H1 ∧ r x [] H1 Q) : tBM0 K T r tk σ H Q := q
theorem pop {p : Addr} {ns : List Int} {n : Int} (h : H p = some (.lst (ns.map V.int))) (e : ns[ns.length - 1]? = some n) (q : Q (.int n) (upd H p (.lst (ns.dropLast.map V.int)))) : rPop (.ref p) [] H Q :=
  ⟨p, ns.map V.int, .int n, rfl, rfl, h, by rw [List.length_map, List.getElem?_map, e]; rfl, by rw [← List.map_dropLast]; exact q⟩
theorem clear {p : Addr} {xs : List V} (h : H p = some (.lst xs)) (q : Q .non (upd H p (.lst []))) : rClear (.ref p) [] H Q := ⟨p, xs, rfl, rfl, h, q⟩
theorem dnot {ty td : TE} (q : ty σ H fun y H1 => td σ H1 fun x H2 => ∃ a o, x = .ref a ∧ DGet H2 a y o ∧ Q (.bl (!o.isSome)) H2) : tDNotIn ty td σ H Q := q
theorem dput {ty td tv : TE} (q : tv σ H fun v H1 => td σ H1 fun x H2 => ty σ H2 fun y H3 => ∃ a H4, x = .ref a ∧ DPut H3 a y v H4 ∧ nx σ H4) : sDPut td ty tv ⟨nx, rt, bk, ct⟩ σ H := q
theorem sortedI {p : Addr} {ks : List Int} (h : SqL K H p (ks.map V.int)) (q : ∀ (ys : List Int) (l : Addr), ys.Perm ks → ys.Pairwise (· ≤ ·) → H l = none → Q (.ref l) (upd H l (.lst (ys.map V.int)))) : rSortedI K [.ref p] H Q :=
  ⟨p, ks, rfl, h, q⟩
end
end R
end Rl
namespace Rl
open PySem PySem.Spec PyProof.Rows L2
theorem R.listC {K : PySem.W.Frag} {H : Hp} {c : V} {ns : List Int} {Q : VK} (h : Code K H c ns) (q : ∀ l, H l = none → Q (.ref l) (upd H l (.lst (ns.map V.int)))) : rListA K [c] H Q := by
  obtain ⟨p, rfl, h | h⟩ := h
  · exact R.listL h q
  · exact R.listT h q
end Rl
namespace Rl
open PySem PySem.Spec PyProof.Rows L2 NdefX LamX
/-! ## steps for while, for dicts that keep numbers, for defs within defs -/
/-- a dict of numbers that are seen -/
def dkv (ks : List Int) : List (Key × V) := ks.map fun k => ((Sum.inl k : Key), V.bl true)
theorem dkv_get (ks : List Int) (k : Int) : (valV (dkv ks) (Sum.inl k)).isSome = decide (k ∈ ks) := by
  induction ks with
  | nil => rfl
  | cons j r ih =>
    unfold dkv at ih ⊢
    rw [List.map_cons]
    by_cases e : j = k
    · rw [valV_pos (by rw [e])]
      simp [e]
    · rw [valV_neg (fun z => e (Sum.inl.inj z)), ih]
      have e2 : ¬ k = j := fun z => e z.symm
      simp [e2]
theorem dkv_put {ks : List Int} {k : Int} (h : k ∉ ks) : putK (dkv ks) (Sum.inl k) (V.bl true) = dkv (ks ++ [k]) := by
  rw [putK_new _ (by
    have e := dkv_get ks k
    rw [decide_eq_false h] at e
    exact Option.not_isSome_iff_eq_none.mp (by rw [e]; decide))]
  unfold dkv
  rw [List.map_append]
  rfl
theorem dkv_keys (ks : List Int) : (dkv ks).map (·.1) = ks.map Sum.inl := by
  unfold dkv
  rw [List.map_map]
  rfl
theorem dkv_len (ks : List Int) : (dkv ks).length = ks.length := by
  unfold dkv
  rw [List.length_map]
namespace R
section
variable {K : PySem.W.Frag} {σ : L2.St} {H : Hp} {Q : VK} {t : TS} {nx bk ct : L2.St → Hp → Prop} {rt : VK}
theorem dnotI {p : Addr} {ks : List Int} {k : Int} (h : H p = some (.dK (dkv ks))) (q : Q (.bl (!decide (k ∈ ks))) H) : ∃ a o, V.ref p = .ref a ∧ DGet H a (.int k) o ∧ Q (.bl (!o.isSome)) H :=
  ⟨p, _, rfl, DGet.k (k := Sum.inl k) h, by rw [dkv_get]; exact q⟩
theorem dputI {p : Addr} {ks : List Int} {k : Int} {F : Hp → Prop} (h : H p = some (.dK (dkv ks))) (n : k ∉ ks) (l : ks.length < sizeLine) (q : F (upd H p (.dK (dkv (ks ++ [k]))))) : ∃ a H4, V.ref p = .ref a ∧ DPut H a (.int k) (.bl true) H4 ∧ F H4 :=
  ⟨p, _, rfl, .inl ⟨_, Sum.inl k, h, rfl, by rw [dkv_len]; exact l, rfl⟩, by rw [dkv_put n]; exact q⟩
theorem sortedD {p : Addr} {ks : List Int} (h : H p = some (.dK (dkv ks))) (q : ∀ (ys : List Int) (l : Addr), ys.Perm ks → ys.Pairwise (· ≤ ·) → H l = none → Q (.ref l) (upd H l (.lst (ys.map V.int)))) : rSortedD [.ref p] H Q :=
  ⟨p, _, ks, rfl, h, dkv_keys ks, q⟩
/-- {i: True} -/
theorem disp1 {tk : TE} {i : Int} (hk : ∀ H' (QE : VK), QE (.int i) H' → tk σ H' QE) (q : ∀ p, H p = none → Q (.ref p) (upd (upd H p (.dK [])) p (.dK (dkv [i])))) : tDisp [(tk, tC (.bl true))] σ H Q := fun p hp =>
  hk _ _ ⟨upd_same, [(Sum.inl i, .bl true)], rfl, Nat.le_of_ble_eq_true rfl, q p hp⟩
theorem callC {c : Addr} {j : Nat} {sp : Sp} {ta : TA} (q : ta σ H fun vs H1 => ∃ a, σ[j]? = some (some (.ref a)) ∧ ∀ o : Obj, o.data = .cell (some (.ref a)) → K.lookup c = none → H1 c = none → sp vs (upd H1 c (CellO c o)) (fun v H2 => H2 c = some (CellO c o) ∧ Q v (but c H2)) E0) : tCallC K c j sp ta σ H Q := q
end
end R
/-- the ints among a pair, a new list -/
theorem lcOpts {K : PySem.W.Frag} {σ : L2.St} {H : Hp} {Q : VK} {a : Addr} {j : Nat} (os : List (Option Int)) (h : SqT K H a (os.map optV)) (hl : os.length < 60) (hw : ∀ x, wipe ((wipe σ [j]).set j (some x)) [j] = wipe σ [j]) (hg : ∀ x, ((wipe σ [j]).set j (some x))[j]? = some (some x))
    (q : ∀ D H', H D = none → Same H H' → H' D = some (.lst ((os.filterMap id).map V.int)) → Q (.ref D) H') :
    ∀ D, H D = none → R.LcLoop (Itt K a) (L2.gName j) (tTest (tOp rNotN (tVar j) (tC .non))) (tVar j) [j] σ D H Q := by
  intro D hD
  refine R.lcI walk_tup (fun i H' => Same H H' ∧ H' D = some (.lst (((os.take i).filterMap id).map V.int))) ⟨same_upd hD, upd_same⟩ (fun i H' _ z => SqT.mono z.1 h) ?_ (fun H' z => ?_)
  · rintro i x H1 H' hi ⟨z1, z2⟩ ⟨rfl, hx⟩
    rw [List.length_map] at hi
    rw [List.getElem?_map, List.getElem?_eq_getElem hi] at hx
    obtain rfl : optV os[i] = x := Option.some.inj hx
    have ht : os.take (i + 1) = os.take i ++ [os[i]] := by rw [List.take_add_one, List.getElem?_eq_getElem hi]; rfl
    have hs : (((os.take i).filterMap id).map V.int).length < sizeLine := by
      rw [List.length_map]
      have l1 := List.length_filterMap_le id (os.take i)
      rw [List.length_take] at l1
      exact Nat.lt_of_le_of_lt (m := 60) (by omega) (by decide)
    refine ⟨hw _, ?_⟩
    refine ⟨_, hg _, rfl, ?_⟩
    cases ho : os[i] with
    | none =>
      refine ⟨false, rfl, iteF ⟨z1, ?_⟩⟩
      rw [ht, ho, List.filterMap_append]
      simpa using z2
    | some c =>
      refine ⟨true, rfl, iteT ⟨_, hg _, _, z2, hs, fun b o e => ?_, ?_⟩⟩
      · rw [upd_ne (ne_of_none e hD)]
        exact z1 _ _ e
      · rw [upd_same, ht, ho, List.filterMap_append, List.map_append]
        rfl
  · obtain ⟨z1, z2⟩ := z
    rw [List.length_map, List.take_of_length_le (Nat.le_refl _)] at z2
    exact q D H' hD z1 z2
end Rl
namespace Rl
open PySem PySem.Spec PyProof.Rows L2
/-! ## d.update(another dict), {.. for k in range(n)}, [k for k in range(n) if ..] -/
def rUpdate : V → List V → Hp → VK → Prop := fun x xs H Q => ∃ (a b : Addr) (kvs more : List (Key × V)), x = .ref a ∧ xs = [.ref b] ∧ a ≠ b ∧ H a = some (.dK kvs) ∧ H b = some (.dK more) ∧ kvs.length + more.length ≤ sizeLine ∧ Q .non (upd H a (.dK (mergeK kvs more)))
theorem mergeK_len : ∀ (more kvs : List (Key × V)), (mergeK kvs more).length ≤ kvs.length + more.length
  | [], kvs => Nat.le_refl _
  | p :: r, kvs => by
    have ih := mergeK_len r (putK kvs p.1 p.2)
    have l1 := length_putK kvs p.1 p.2
    show (mergeK (putK kvs p.1 p.2) r).length ≤ _
    rw [List.length_cons]
    omega
theorem mt_update {X : Cx} : MtR X "dict.update" rUpdate := by
  intro pins s σ H x xs v us Q I rx rv ⟨a, b, kvs, more, ex, exs, ne, ha, hb, hz, q⟩
  subst ex exs
  cases rx
  rw [Vals.ref1 rv]
  obtain ⟨_, lo, vs, r1, d1⟩ := dk_of I.hok ha
  obtain ⟨_, lo2, ms, r2, d2⟩ := dk_of I.hok hb
  have total : vs.length + ms.length ≤ sizeLine := by rw [← r1.length, ← r2.length]; exact hz
  refine call_meetsIn PySem.F.slot_dict_update d1.typeIs PySem.F.entry_dict_update (PySem.F.args_dict_update_2 _ _) (meets_dict_update (mixKind X.prog X.w) a b ne lo2) ⟨vs, ms, d1, d2, total, fun h1 d3 _ but => ?_⟩
  have there : ∃ o, h1.get? a = some o := d3.elim fun o z => z.elim fun _ z => z.elim fun _ z => ⟨o, z.1⟩
  exact ⟨.non, _, d_write (t' := s.toks) I (by rw [ha]; exact True.intro) but there (dk_new (Nat.le_trans (mergeK_len more kvs) hz) lo (KV.merge r2 r1) d3), rfl, q⟩
theorem merge_dkv (a : Int) : ∀ (ks : List Int) (kvs : List (Key × V)), (valV (mergeK kvs (dkv ks)) (Sum.inl a)).isSome = ((valV kvs (Sum.inl a)).isSome || decide (a ∈ ks))
  | [], kvs => by
    show (valV kvs (Sum.inl a)).isSome = _
    simp
  | k :: r, kvs => by
    show (valV (mergeK (putK kvs (Sum.inl k) (.bl true)) (dkv r)) (Sum.inl a)).isSome = _
    rw [merge_dkv a r, valV_put]
    by_cases e : a = k
    · rw [if_pos (by rw [e])]
      simp [e]
    · rw [if_neg fun z => e (Sum.inl.inj z)]
      simp [e]
namespace R
theorem update {H : Hp} {Q : VK} {a b : Addr} {kvs more : List (Key × V)} (ne : a ≠ b) (ha : H a = some (.dK kvs)) (hb : H b = some (.dK more)) (hz : kvs.length + more.length ≤ sizeLine) (q : Q .non (upd H a (.dK (mergeK kvs more)))) : rUpdate (.ref a) [.ref b] H Q :=
  ⟨a, b, kvs, more, rfl, rfl, ne, ha, hb, hz, q⟩
theorem tyD {K : PySem.W.Frag} {H : Hp} {p : Addr} {kvs : List (Key × V)} {A : Prop} (h : H p = some (.dK kvs)) (q : A) : tyV K "dict" (.ref p) H ∧ A := ⟨.inr (.inr (.inl ⟨rfl, .inl ⟨kvs, h⟩⟩)), q⟩
/-- the loop of a dict comprehension, behind what is walked -/
def DcLoop (J : It) (g : TG) (tt : TT) (tk tv : TE) (vs : List Nat) (σ : L2.St) (D : Addr) (H : Hp) (Q : VK) : Prop := ∃ W : Nat → Nat → Hp → Prop, (∃ m, W 0 m (upd H D (.dK []))) ∧ ∀ i m H, W i m H →
    (J.stop i H ∧ Q (.ref D) H) ∨ (J.go i H ∧ ∃ Nx : Hp → Prop, (∀ H', Nx H' → ∃ m', m' < m ∧ W (i + 1) m' H') ∧ ∀ x H', J.yld i H x H' → g x (wipe σ vs) H' fun σ2 H2 => wipe σ2 vs = wipe σ vs ∧ tt σ2 H2 fun b H3 =>
      if b = true then tk σ2 H3 fun y H4 => tv σ2 H4 fun z H5 => ∃ kvs k, y = kV k ∧ H5 D = some (.dK kvs) ∧ kvs.length < sizeLine ∧ Nx (upd H5 D (.dK (putK kvs k z))) else Nx H3)
theorem dc {σ : L2.St} {H : Hp} {Q : VK} {wi : TI} {g : TG} {tt : TT} {tk tv : TE} {vs : List Nat} (q : wi σ H fun J H1 => ∀ D, H1 D = none → DcLoop J g tt tk tv vs σ D H1 Q) : tDc wi g tt tk tv vs σ H Q := q
/-- {f(k): True for k in range(m)}, no two keys alike -/
theorem dcR {σ : L2.St} {H : Hp} {Q : VK} {tk : TE} {j m : Nat} (f : Nat → Int) (inj : ∀ x y, f x = f y → x = y) (hm : m < sizeLine) (hw : ∀ x, wipe ((wipe σ [j]).set j (some x)) [j] = wipe σ [j])
    (hk : ∀ (i : Nat) (H' : Hp), i < m → Same H H' → ∀ Q' : VK, Q' (.int (f i)) H' → tk ((wipe σ [j]).set j (some (.int (0 + (i : Nat))))) H' Q')
    (q : ∀ D H', H D = none → Same H H' → H' D = some (.dK (dkv ((List.range m).map f))) → Q (.ref D) H') (D : Addr) (hD : H D = none) :
    DcLoop (Itr 0 m) (L2.gName j) tYes tk (tC (.bl true)) [j] σ D H Q := by
  refine ⟨fun i n H' => n = m - i ∧ i ≤ m ∧ Same H H' ∧ H' D = some (.dK (dkv ((List.range i).map f))), ⟨m, rfl, Nat.zero_le _, same_upd hD, upd_same⟩, ?_⟩
  rintro i n H' ⟨rfl, hi, s, g⟩
  by_cases hlt : i < m
  · refine .inr ⟨hlt, fun H' => Same H H' ∧ H' D = some (.dK (dkv ((List.range (i + 1)).map f))), fun H2 z => ⟨m - (i + 1), by omega, rfl, hlt, z⟩, fun x H2 y => ?_⟩
    obtain ⟨rfl, rfl⟩ := y
    refine ⟨hw _, ?_⟩
    unfold tYes
    refine iteT ?_
    refine hk i _ hlt s _ ?_
    refine ⟨_, Sum.inl (f i), rfl, g, ?_, Same.mut hD s, ?_⟩
    · rw [dkv_len, List.length_map, List.length_range]
      omega
    · rw [upd_same, dkv_put, List.range_succ, List.map_append]
      · rfl
      · intro z
        obtain ⟨y, hy, e⟩ := List.mem_map.mp z
        have := inj _ _ e
        have := List.mem_range.mp hy
        omega
  · have e : i = m := by omega
    subst e
    exact .inl ⟨Nat.le_refl _, q D H' hD s g⟩
end R
/-- [k for k in range(n) if p(k)] -/
theorem lcRF {σ : L2.St} {H : Hp} {Q : VK} {tt : TT} {j n : Nat} (p : Int → Bool) (hn : n < sizeLine) (hw : ∀ x, wipe ((wipe σ [j]).set j (some x)) [j] = wipe σ [j]) (hg : ∀ x, ((wipe σ [j]).set j (some x))[j]? = some (some x))
    (ht : ∀ (i : Nat) (H' : Hp), i < n → Same H H' → ∀ QB : Bool → Hp → Prop, QB (p i) H' → tt ((wipe σ [j]).set j (some (.int (0 + (i : Nat))))) H' QB)
    (q : ∀ D H', H D = none → Same H H' → H' D = some (.lst ((((List.range n).map fun (k : Nat) => (k : Int)).filter p).map V.int)) → Q (.ref D) H') : ∀ D, H D = none → R.LcLoop (Itr 0 n) (L2.gName j) tt (tVar j) [j] σ D H Q := by
  intro D hD
  refine R.lcI walk_range (fun i H' => Same H H' ∧ H' D = some (.lst ((((List.range i).map fun (k : Nat) => (k : Int)).filter p).map V.int))) ⟨same_upd hD, upd_same⟩ (fun _ _ _ _ => True.intro) ?_ ?_
  · rintro i x H1 H' hi ⟨s, g⟩ ⟨rfl, rfl⟩
    refine ⟨hw _, ht i _ hi s _ ?_⟩
    have e : ((List.range (i + 1)).map fun (k : Nat) => (k : Int)).filter p = ((List.range i).map fun (k : Nat) => (k : Int)).filter p ++ if p i = true then [(i : Int)] else [] := by
      rw [List.range_succ, List.map_append, List.filter_append]
      congr 1
      show [(i : Int)].filter p = _
      rw [List.filter_cons]
      rfl
    refine R.iB (fun hp => ?_) (fun hp => ?_)
    · rw [hp, if_pos rfl] at e
      refine ⟨_, hg _, _, g, ?_, Same.mut hD s, ?_⟩
      · rw [List.length_map]
        have l1 := List.length_filter_le p ((List.range i).map fun (k : Nat) => (k : Int))
        rw [List.length_map, List.length_range] at l1
        omega
      · rw [upd_same, e, List.map_append]
        show some (HO.lst (_ ++ [V.int (0 + (i : Nat))])) = some (HO.lst (_ ++ [V.int i]))
        rw [Int.zero_add]
    · rw [hp, if_neg (by decide), List.append_nil] at e
      exact ⟨s, by rw [e]; exact g⟩
  · rintro H' ⟨s, g⟩
    exact q D H' hD s g
end Rl
namespace Rl
open PySem PySem.Spec PyProof.Rows L2
/-! ## codes drawn -/
theorem in_ints (i : Int) : ∀ ns : List Int, inV (.int i) (ns.map V.int) = decide (i ∈ ns)
  | [] => rfl
  | z :: ns => by
    have ih := in_ints i ns
    unfold inV at ih ⊢
    rw [List.map_cons, List.any_cons, ih]
    show ((z == i) || decide (i ∈ ns)) = _
    by_cases h : i = z
    · subst h
      simp
    · have h2 : ¬ z = i := fun q => h q.symm
      simp [h, h2]
theorem R.inInts {K : PySem.W.Frag} {H : Hp} {Q : VK} {i : Int} {ns : List Int} {p : Addr} (h : SqL K H p (ns.map V.int) ∨ SqT K H p (ns.map V.int)) (q : Q (.bl (decide (i ∈ ns))) H) : rIn K false (.int i) (.ref p) H Q :=
  ⟨p, _, rfl, h, rfl, List.all_eq_true.mpr fun x hx => by
    obtain ⟨z, _, rfl⟩ := List.mem_map.mp hx
    rfl, by
    rw [← in_ints] at q
    exact q⟩
theorem R.ninInts {K : PySem.W.Frag} {H : Hp} {Q : VK} {i : Int} {ns : List Int} {p : Addr} (h : SqL K H p (ns.map V.int) ∨ SqT K H p (ns.map V.int)) (q : Q (.bl (!decide (i ∈ ns))) H) : rIn K true (.int i) (.ref p) H Q :=
  ⟨p, _, rfl, h, rfl, List.all_eq_true.mpr fun x hx => by
    obtain ⟨z, _, rfl⟩ := List.mem_map.mp hx
    rfl, by
    rw [← in_ints] at q
    exact q⟩
theorem R.truB {K : PySem.W.Frag} {H : Hp} {b : Bool} {F : Bool → Prop} (q : F b) : ∃ k, TruV K (.bl b) H k ∧ F k := ⟨b, rfl, q⟩
def sp_law_any_row (_ : PySem.W.Frag) (_ : World) : Sp := fun vs H Q _ => ∃ (r : Addr) (k : Int) (S : Addr → Prop), vs = [.ref r, .int k] ∧ 0 ≤ k ∧ k < 4 ∧ Reel H r S ∧
  ∀ p H' row, H p = none → p ≠ r → Fx r H H' → Reel H' r (S1 p S) → H' p = some (.lst (row.map V.int)) → By row → 1 ≤ row.length → row.length ≤ 2 → Q (.ref p) H'
/-- a new list of bytes -/
def spBytes (N : Nat) : Sp := fun vs H Q _ => ∃ (r : Addr) (S : Addr → Prop), vs = [.ref r] ∧ Reel H r S ∧
  ∀ p H' ds, H p = none → p ≠ r → Fx r H H' → Reel H' r (S1 p S) → H' p = some (.lst (ds.map V.int)) → By ds → 1 ≤ ds.length → ds.length ≤ N → Q (.ref p) H'
theorem len_law_any_row {K : PySem.W.Frag} {w : World} {vs : List V} {H : Hp} {Q : VK} {E : XK} (h : sp_law_any_row K w vs H Q E) : vs.length = 2 := by
  obtain ⟨_, _, _, rfl, _⟩ := h
  rfl
/-! ## rows, one behind another -/
inductive Rws (B : Hp) : List V → List (List Int) → Prop
  | nil : Rws B [] []
  | cons {p : Addr} {row : List Int} {vs : List V} {rws : List (List Int)} : B p = some (.lst (row.map V.int)) → Rws B vs rws → Rws B (.ref p :: vs) (row :: rws)
theorem Rws.mono {B B' : Hp} (e : Same B B') : ∀ {vs : List V} {rws : List (List Int)}, Rws B vs rws → Rws B' vs rws
  | _, _, .nil => .nil
  | _, _, .cons h t => .cons (e _ _ h) (Rws.mono e t)
theorem Rws.len {B : Hp} : ∀ {vs : List V} {rws : List (List Int)}, Rws B vs rws → vs.length = rws.length
  | _, _, .nil => rfl
  | _, _, .cons _ t => by rw [List.length_cons, List.length_cons, Rws.len t]
theorem Rws.app {B : Hp} {ws : List V} {rs : List (List Int)} (g : Rws B ws rs) : ∀ {vs : List V} {rws : List (List Int)}, Rws B vs rws → Rws B (vs ++ ws) (rws ++ rs)
  | _, _, .nil => g
  | _, _, .cons h t => .cons h (Rws.app g t)
theorem Rws.get {B : Hp} : ∀ {vs : List V} {rws : List (List Int)}, Rws B vs rws → ∀ {i : Nat} {v : V}, vs[i]? = some v → ∃ p row, v = .ref p ∧ rws[i]? = some row ∧ B p = some (.lst (row.map V.int))
  | _, _, .nil, i, v, h => by cases h
  | _, _, .cons (p := p) (row := row) h _, 0, v, e => ⟨p, row, (Option.some.inj e).symm, rfl, h⟩
  | _, _, .cons _ t, i + 1, v, e => Rws.get t (i := i) e
/-- one or two bytes -/
def RowG (row : List Int) : Prop := By row ∧ 1 ≤ row.length ∧ row.length ≤ 2
/-- B stands in H, whole; r is not in it -/
structure Bs (B H : Hp) (r : Addr) : Prop where
  same : Same B H
  nr : B r = none
theorem Bs.fx {B H H' : Hp} {r : Addr} (b : Bs B H r) (f : Fx r H H') : Bs B H' r := ⟨f.same b.nr b.same, b.nr⟩
theorem Bs.to {B H H' : Hp} {r : Addr} (b : Bs B H r) (f : Same H H') : Bs B H' r := ⟨b.same.trans f, b.nr⟩
theorem Bs.mut {B H : Hp} {r l : Addr} {o : HO} (b : Bs B H r) (n : B l = none) : Bs B (upd H l o) r := ⟨Same.mut n b.same, b.nr⟩
theorem Bs.free {B H : Hp} {r l : Addr} (b : Bs B H r) (n : H l = none) : B l = none := b.same.free n
/-- one more thing -/
theorem Bs.grow {B H : Hp} {r l : Addr} {o : HO} (b : Bs B H r) (e : H l = some o) (n : l ≠ r) : Bs (upd B l o) H r := by
  refine ⟨fun a u q => ?_, by rw [upd_ne n.symm]; exact b.nr⟩
  by_cases h : a = l
  · rw [h, upd_same] at q
    rw [h, e, q]
  · rw [upd_ne h] at q
    exact b.same _ _ q
/-! ## sums of lengths -/
def tot (rws : List (List Int)) : Nat := (rws.map List.length).sum
theorem tot_app (a b : List (List Int)) : tot (a ++ b) = tot a + tot b := by
  unfold tot
  rw [List.map_append, List.sum_append]
def lenAt (rws : List (List Int)) (k : Nat) : Nat := (rws.getD k []).length
theorem sum_range (rws : List (List Int)) : ((List.range rws.length).map (lenAt rws)).sum = tot rws := by
  have e : (List.range rws.length).map (lenAt rws) = rws.map List.length := by
    refine List.ext_getElem (by simp) fun i h1 h2 => ?_
    simp at h1
    simp [lenAt, List.getD_eq_getElem?_getD, h1]
  rw [e]
  rfl
theorem sum_take (f : Nat → Nat) : ∀ (l : List Nat) (i : Nat), ((l.take i).map f).sum ≤ (l.map f).sum
  | [], i => by simp
  | x :: l, 0 => by simp
  | x :: l, i + 1 => by
    have := sum_take f l i
    simp only [List.take_succ_cons, List.map_cons, List.sum_cons]
    omega
theorem sum_order {rws : List (List Int)} {od : List Nat} (h : od.Perm (List.range rws.length)) (i : Nat) : ((od.take i).map (lenAt rws)).sum ≤ tot rws := by
  refine Nat.le_trans (sum_take _ _ _) (Nat.le_of_eq ?_)
  rw [(h.map (lenAt rws)).sum_nat, sum_range]
theorem take_succ_sum (f : Nat → Nat) {l : List Nat} {i k : Nat} (h : l[i]? = some k) : ((l.take (i + 1)).map f).sum = ((l.take i).map f).sum + f k := by
  rw [List.take_add_one, h, List.map_append, List.sum_append]
  simp
/-! ## rows that are written -/
theorem Rws.mem {B : Hp} : ∀ {vs : List V} {rws : List (List Int)}, Rws B vs rws → ∀ {v : V}, v ∈ vs → ∃ p, v = .ref p ∧ ∃ o, B p = some o
  | _, _, .cons (p := p) h t, v, hv => by
    rcases List.mem_cons.mp hv with z | z
    · exact ⟨p, z, _, h⟩
    · exact Rws.mem t z
theorem Rws.memL {B : Hp} : ∀ {vs : List V} {rws : List (List Int)}, Rws B vs rws → ∀ {v : V}, v ∈ vs → ∃ (p : Addr) (row : List Int), v = .ref p ∧ B p = some (.lst (row.map V.int))
  | _, _, .cons (p := p) h t, v, hv => by
    rcases List.mem_cons.mp hv with z | z
    · exact ⟨p, _, z, h⟩
    · exact Rws.memL t z
/-- how many things stand in a list at v -/
def lenV (B : Hp) : V → V
  | .ref p => match B p with
    | some (.lst xs) => .int xs.length
    | _ => .non
  | _ => .non
theorem Rws.lens {B : Hp} : ∀ {vs : List V} {rws : List (List Int)}, Rws B vs rws → (vs.filter fun _ => true).map (lenV B) = (rws.map fun row => (row.length : Int)).map V.int
  | _, _, .nil => rfl
  | _, _, .cons (p := p) (row := row) (vs := vs) (rws := rws) h t => by
    have ih := Rws.lens t
    rw [List.filter_cons_of_pos (by rfl), List.map_cons, ih, List.map_cons, List.map_cons]
    have e : lenV B (.ref p) = .int row.length := by
      show (match B p with | some (.lst xs) => V.int xs.length | _ => V.non) = _
      rw [h]
      show V.int (row.map V.int).length = _
      rw [List.length_map]
    rw [e]
theorem sum_lens (rws : List (List Int)) : (rws.map fun row => (row.length : Int)).sum = (tot rws : Nat) := by
  induction rws with
  | nil => rfl
  | cons row rws ih =>
    rw [List.map_cons, List.sum_cons, ih]
    unfold tot
    rw [List.map_cons, List.sum_cons]
    omega
/-- elsewhere -/
theorem Rws.away {B : Hp} {l : Addr} {o : HO} : ∀ {vs : List V} {rws : List (List Int)}, Rws B vs rws → V.ref l ∉ vs → Rws (upd B l o) vs rws
  | _, _, .nil, _ => .nil
  | _, _, .cons (p := p) h t, n => .cons ((upd_ne (fun z => n (by rw [z]; exact List.mem_cons_self))).trans h) (Rws.away t fun z => n (List.mem_cons_of_mem _ z))
theorem Rws.put {B : Hp} {row : List Int} : ∀ {vs : List V} {rws : List (List Int)}, Rws B vs rws → vs.Nodup → ∀ {k : Nat} {p : Addr}, vs[k]? = some (.ref p) → Rws (upd B p (.lst (row.map V.int))) vs (rws.set k row)
  | _, _, .nil, _, k, p, h => by cases h
  | _, _, .cons (p := q) h t, nd, 0, p, e => by
    have e2 : V.ref q = V.ref p := Option.some.inj e
    cases e2
    exact .cons upd_same (Rws.away t (List.nodup_cons.mp nd).1)
  | _, _, .cons (p := q) h t, nd, k + 1, p, e => by
    have e2 : V.ref p ∈ _ := List.mem_of_getElem? e
    refine .cons ((upd_ne fun z => (List.nodup_cons.mp nd).1 ?_).trans h) (Rws.put t (List.nodup_cons.mp nd).2 (k := k) e)
    rw [z]
    exact List.mem_of_getElem? (i := k) e
theorem lenAt_set {rws : List (List Int)} {k j : Nat} {row old : List Int} (h : rws[k]? = some old) (e : row.length = old.length) : lenAt (rws.set k row) j = lenAt rws j := by
  unfold lenAt
  rw [List.getD_eq_getElem?_getD, List.getD_eq_getElem?_getD]
  by_cases hj : k = j
  · subst hj
    have hk : k < rws.length := by
      rcases Nat.lt_or_ge k rws.length with z | z
      · exact z
      · rw [List.getElem?_eq_none z] at h
        cases h
    rw [List.getElem?_set_self hk, h]
    exact e
  · rw [List.getElem?_set_ne hj]
/-- both go on -/
theorem Bs.both {B H : Hp} {r l : Addr} {o : HO} (b : Bs B H r) (n : l ≠ r) : Bs (upd B l o) (upd H l o) r := by
  refine ⟨fun a u q => ?_, by rw [upd_ne n.symm]; exact b.nr⟩
  by_cases h : a = l
  · rw [h, upd_same] at q ⊢
    exact q
  · rw [upd_ne h] at q ⊢
    exact b.same _ _ q
/-! ## blocks under way -/
structure BlkI (H0 H M : Hp) (r lo lb lg : Addr) (S : Addr → Prop) (od : List Int) (vs : List V) (rws : List (List Int)) (gs : List Int) : Prop where
  fx : Fx r H0 H
  reel : Reel H r (fun a => V.ref a ∈ vs ∨ a = lb ∨ a = lg ∨ S a)
  bs : Bs M H r
  o : M lo = some (.lst (od.map V.int))
  b : M lb = some (.lst vs)
  g : M lg = some (.lst (gs.map V.int))
  rw : Rws M vs rws
  nd : vs.Nodup
  ap : ∀ v ∈ vs, v ≠ .ref lo ∧ v ≠ .ref lb ∧ v ≠ .ref lg
  new : ∀ p, V.ref p ∈ vs → H0 p = none
  nb : H0 lb = none
  ng : H0 lg = none
  ob : lo ≠ lb
  og : lo ≠ lg
  bg : lb ≠ lg
  gl : gs.length ≤ rws.length
  okr : ∀ row ∈ rws, By row
  okg : ∀ (j : Nat) (row : List Int) (g : Int), rws[j]? = some row → gs[j]? = some g → 0 ≤ g ∧ g < row.length
section
variable {H0 H H' M : Hp} {r lo lb lg : Addr} {S : Addr → Prop} {od : List Int} {vs : List V} {rws : List (List Int)} {gs : List Int}
theorem BlkI.drawn (I : BlkI H0 H M r lo lb lg S od vs rws gs) (f : Fx r H H') (R : Reel H' r (fun a => V.ref a ∈ vs ∨ a = lb ∨ a = lg ∨ S a)) : BlkI H0 H' M r lo lb lg S od vs rws gs :=
  { I with fx := I.fx.trans f, reel := R, bs := I.bs.fx f }
theorem BlkI.to (I : BlkI H0 H M r lo lb lg S od vs rws gs) (f : Same H H') : BlkI H0 H' M r lo lb lg S od vs rws gs :=
  { I with fx := I.fx.trans (Same.but f), reel := I.reel.keep f, bs := I.bs.to f }
theorem BlkI.push {p : Addr} {row : List Int} (I : BlkI H0 H M r lo lb lg S od vs rws gs) (hp : H p = none) (hby : By row) :
    BlkI H0 (upd (upd H p (.lst (row.map V.int))) lb (.lst (vs ++ [.ref p]))) (upd (upd M p (.lst (row.map V.int))) lb (.lst (vs ++ [.ref p]))) r lo lb lg S od (vs ++ [.ref p]) (rws ++ [row]) gs := by
  have npr : p ≠ r := I.reel.ne hp
  have hM : M p = none := I.bs.free hp
  have p0 : H0 p = none := I.fx.free I.reel hp
  have nlb : lb ≠ p := ne_of_none I.b hM
  have nlo : lo ≠ p := ne_of_none I.o hM
  have nlg : lg ≠ p := ne_of_none I.g hM
  have nbr : lb ≠ r := I.reel.neS (.inr (.inl rfl))
  have hv : V.ref p ∉ vs := fun z => by
    obtain ⟨q, e, o, ho⟩ := I.rw.mem z
    cases e
    rw [hM] at ho
    cases ho
  have hvb : V.ref lb ∉ vs ++ [.ref p] := fun z => by
    rcases List.mem_append.mp z with z | z
    · exact (I.ap _ z).2.1 rfl
    · exact nlb (V.ref.inj (List.mem_singleton.mp z))
  refine { fx := Fx.mutN I.nb (Fx.mutN p0 I.fx), reel := ?_, bs := (I.bs.both npr).both nbr, o := ?_, b := upd_same, g := ?_, rw := ?_, nd := ?_, ap := ?_, new := ?_, nb := I.nb, ng := I.ng, ob := I.ob, og := I.og, bg := I.bg, gl := ?_, okr := ?_, okg := ?_ }
  · refine Reel.mut (Reel.sub (I.reel.add hp) fun a z => ?_) (.inr (.inl rfl))
    rcases z with z | z | z | z
    · rcases List.mem_append.mp z with z | z
      · exact .inr (.inl z)
      · exact .inl (V.ref.inj (List.mem_singleton.mp z))
    · exact .inr (.inr (.inl z))
    · exact .inr (.inr (.inr (.inl z)))
    · exact .inr (.inr (.inr (.inr z)))
  · rw [upd_ne I.ob, upd_ne nlo]
    exact I.o
  · rw [upd_ne I.bg.symm, upd_ne nlg]
    exact I.g
  · exact Rws.away (Rws.app (.cons upd_same .nil) (I.rw.mono (same_upd hM))) hvb
  · refine List.nodup_append.mpr ⟨I.nd, by simp, fun u hu v hv' => ?_⟩
    rw [List.mem_singleton.mp hv']
    exact fun z => hv (z ▸ hu)
  · intro v hv'
    rcases List.mem_append.mp hv' with z | z
    · exact I.ap v z
    · rw [List.mem_singleton.mp z]
      exact ⟨fun y => nlo (V.ref.inj y).symm, fun y => nlb (V.ref.inj y).symm, fun y => nlg (V.ref.inj y).symm⟩
  · intro q hq
    rcases List.mem_append.mp hq with z | z
    · exact I.new q z
    · rw [V.ref.inj (List.mem_singleton.mp z)]
      exact p0
  · rw [List.length_append]
    have := I.gl
    omega
  · intro u hu
    rcases List.mem_append.mp hu with z | z
    · exact I.okr u z
    · rw [List.mem_singleton.mp z]
      exact hby
  · intro j u g hu hg
    have hj : j < rws.length := by
      have h1 : j < gs.length := by
        rcases Nat.lt_or_ge j gs.length with z | z
        · exact z
        · rw [List.getElem?_eq_none z] at hg
          cases hg
      have := I.gl
      omega
    rw [List.getElem?_append_left hj] at hu
    exact I.okg j u g hu hg
theorem BlkI.pushG {n : Int} (I : BlkI H0 H M r lo lb lg S od vs rws gs) (hl : gs.length < rws.length) (hn : ∀ row, rws[gs.length]? = some row → 0 ≤ n ∧ n < row.length) :
    BlkI H0 (upd H lg (.lst ((gs ++ [n]).map V.int))) (upd M lg (.lst ((gs ++ [n]).map V.int))) r lo lb lg S od vs rws (gs ++ [n]) := by
  have ngr : lg ≠ r := I.reel.neS (.inr (.inr (.inl rfl)))
  refine { I with fx := Fx.mutN I.ng I.fx, reel := I.reel.mut (.inr (.inr (.inl rfl))), bs := I.bs.both ngr, o := (upd_ne I.og).trans I.o, b := (upd_ne I.bg).trans I.b, g := upd_same, rw := Rws.away I.rw fun z => (I.ap _ z).2.2 rfl, gl := ?_, okg := ?_ }
  · rw [List.length_append]
    exact hl
  · intro j u g hu hg
    rcases Nat.lt_or_ge j gs.length with z | z
    · rw [List.getElem?_append_left z] at hg
      exact I.okg j u g hu hg
    · rw [List.getElem?_append_right z] at hg
      have e : j = gs.length := by
        rcases Nat.lt_or_ge 0 (j - gs.length) with y | y
        · rw [List.getElem?_eq_none (show ([n] : List Int).length ≤ j - gs.length from y)] at hg
          cases hg
        · omega
      subst e
      rw [Nat.sub_self] at hg
      obtain rfl : n = g := Option.some.inj hg
      exact hn u hu
/-- one more list, ours to write -/
theorem BlkI.newS {l : Addr} {o : HO} (I : BlkI H0 H M r lo lb lg S od vs rws gs) (n : H l = none) : BlkI H0 (upd H l o) M r lo lb lg (S1 l S) od vs rws gs := by
  have sw : ∀ a, (V.ref a ∈ vs ∨ a = lb ∨ a = lg ∨ S1 l S a) → S1 l (fun a => V.ref a ∈ vs ∨ a = lb ∨ a = lg ∨ S a) a := by
    rintro a (z | z | z | z | z)
    · exact .inr (.inl z)
    · exact .inr (.inr (.inl z))
    · exact .inr (.inr (.inr (.inl z)))
    · exact .inl z
    · exact .inr (.inr (.inr (.inr z)))
  exact { I with fx := I.fx.trans (Same.but (same_upd n)), bs := I.bs.to (same_upd n), reel := (I.reel.add n).sub sw }
theorem BlkI.mutS {l : Addr} {o : HO} (I : BlkI H0 H M r lo lb lg S od vs rws gs) (hS : S l) (h0 : H0 l = none) (hM : M l = none) : BlkI H0 (upd H l o) M r lo lb lg S od vs rws gs :=
  { I with fx := Fx.mutN h0 I.fx, bs := I.bs.mut hM, reel := I.reel.mut (.inr (.inr (.inr hS))) }
theorem lenAt_eq {k : Nat} {row : List Int} (h : rws[k]? = some row) : lenAt rws k = row.length := by
  unfold lenAt
  rw [List.getD_eq_getElem?_getD, h]
  rfl
/-- a block is written -/
theorem BlkI.put {k : Nat} {p : Addr} {old row : List Int} (I : BlkI H0 H M r lo lb lg S od vs rws gs) (hv : vs[k]? = some (.ref p)) (hr : rws[k]? = some old) (hl : row.length = old.length) (hby : By row) :
    BlkI H0 (upd H p (.lst (row.map V.int))) (upd M p (.lst (row.map V.int))) r lo lb lg S od vs (rws.set k row) gs := by
  have hm : V.ref p ∈ vs := List.mem_of_getElem? hv
  have npr : p ≠ r := I.reel.neS (.inl hm)
  have ap := I.ap _ hm
  have no : lo ≠ p := fun z => ap.1 (by rw [z])
  have nb : lb ≠ p := fun z => ap.2.1 (by rw [z])
  have ng : lg ≠ p := fun z => ap.2.2 (by rw [z])
  refine { I with fx := Fx.mutN (I.new p hm) I.fx, reel := I.reel.mut (.inl hm), bs := I.bs.both npr, o := (upd_ne no).trans I.o, b := (upd_ne nb).trans I.b, g := (upd_ne ng).trans I.g, rw := Rws.put I.rw I.nd hv, gl := ?_, okr := ?_, okg := ?_ }
  · rw [List.length_set]
    exact I.gl
  · intro u hu
    rcases List.mem_or_eq_of_mem_set hu with z | z
    · exact I.okr u z
    · rw [z]
      exact hby
  · intro j u g hu hg
    by_cases hj : k = j
    · subst hj
      have hk : k < rws.length := by
        rcases Nat.lt_or_ge k rws.length with z | z
        · exact z
        · rw [List.getElem?_eq_none z] at hr
          cases hr
      rw [List.getElem?_set_self hk] at hu
      obtain rfl : row = u := Option.some.inj hu
      rw [hl]
      exact I.okg k old g hr hg
    · rw [List.getElem?_set_ne hj] at hu
      exact I.okg j u g hu hg
end
end Rl
namespace Rl
open PySem PySem.Spec PyProof.Rows L2
/-! ## the law's codes and blocks: up to 250 bytes -/
def sp_law_code (_ : PySem.W.Frag) (_ : World) : Sp := spBytes 250
def sp_law_blocks (_ : PySem.W.Frag) (_ : World) : Sp := spBytes 250
theorem len_law_code {K : PySem.W.Frag} {w : World} {vs : List V} {H : Hp} {Q : VK} {E : XK} (h : sp_law_code K w vs H Q E) : vs.length = 1 := by
  obtain ⟨_, _, rfl, _⟩ := h
  rfl
theorem len_law_blocks {K : PySem.W.Frag} {w : World} {vs : List V} {H : Hp} {Q : VK} {E : XK} (h : sp_law_blocks K w vs H Q E) : vs.length = 1 := by
  obtain ⟨_, _, rfl, _⟩ := h
  rfl
end Rl
namespace Rl
open PySem PySem.Spec PyProof.Rows L2
theorem Goes.len {ns : List Int} {a : Int} {L : List Int} (h : Goes ns a L) : L.length ≤ 2 := by
  obtain ⟨h1, h2⟩ := h
  match L, h1, h2 with
  | [], _, _ => exact Nat.zero_le _
  | [_], _, _ => exact Nat.le_of_ble_eq_true rfl
  | [_, _], _, _ => exact Nat.le_refl _
  | x :: y :: z :: L, h1, h2 =>
    have hx := (h2 x).mp (by simp)
    have hy := (h2 y).mp (by simp)
    have hz := (h2 z).mp (by simp)
    simp only [List.pairwise_cons, List.mem_cons] at h1
    have l1 : x < y := h1.1 y (.inl rfl)
    have l2 : y < z := h1.2.1 z (.inl rfl)
    have l3 : x < z := by omega
    have cl : ∀ u v : Int, u < v → behind ns a = some u → behind ns a = some v → False := fun u v huv p q => by
      rw [p] at q
      cases q
      omega
    have ct : ∀ u v : Int, u < v → tgt ns a = some u → tgt ns a = some v → False := fun u v huv p q => by
      rw [p] at q
      cases q
      omega
    rcases hx with hx | ⟨_, hx⟩ <;> rcases hy with hy | ⟨_, hy⟩ <;> rcases hz with hz | ⟨_, hz⟩ <;> first
      | exact (cl _ _ l1 hx hy).elim
      | exact (cl _ _ l2 hy hz).elim
      | exact (cl _ _ l3 hx hz).elim
      | exact (ct _ _ l1 hx hy).elim
      | exact (ct _ _ l2 hy hz).elim
      | exact (ct _ _ l3 hx hz).elim
end Rl
namespace Rl
open PySem PySem.Spec PyProof.Rows L2 NdefX LamX
/-! ## the defs within defs -/
def top (i : Nat) : Stmt := PySem.Challenge.pw_rowlift_k22_whole_runs_come_to_found_row.main.body.getD i (.Pass ⟨0, 0, 0, 0⟩)
def on_found_places : Stmt := (defBody (top 39)).getD 0 (.Pass ⟨0, 0, 0, 0⟩)
def on_q_found_places : Str := "found_places.<locals>.onward"
/-- the table of its code objects -/
abbrev nt_P_found_places (K : PySem.W.Frag) : Addr := (He.cT K ("found_places", none)).2
def on_parts_of : Stmt := (defBody (top 42)).getD 2 (.Pass ⟨0, 0, 0, 0⟩)
def on_q_parts_of : Str := "parts_of.<locals>.onward"
/-- the table of its code objects -/
abbrev nt_P_parts_of (K : PySem.W.Frag) : Addr := (He.cT K ("parts_of", none)).2
def on_nm : Nat → Nat → Str := fun l _ => if l = 161 then on_q_found_places else on_q_parts_of
def NT (K : PySem.W.Frag) : List NTab := [(nt_P_found_places K, on_nm), (nt_P_parts_of K, on_nm)]
theorem nt_mem_found_places (K : PySem.W.Frag) : (nt_P_found_places K, on_nm) ∈ NT K := List.mem_of_getElem? (i := 0) rfl
theorem nt_mem_parts_of (K : PySem.W.Frag) : (nt_P_parts_of K, on_nm) ∈ NT K := List.mem_of_getElem? (i := 1) rfl
theorem nt_one (K : PySem.W.Frag) {P : Addr} : ∀ p ∈ NT K, p.1 = P → p.2 = on_nm := fun p hp _ => by
  simp only [NT, List.mem_cons, List.not_mem_nil, or_false] at hp
  rcases hp with hp | hp <;> rw [hp]
/-- the defs that all_from may be handed, where each goes on to -/
def NxT (F : NF) (Nx : List Int → Int → Int → Prop) : Prop := ((∃ cl c, F = NF.of on_found_places "onward" on_q_found_places cl c) ∧ Nx = NxA) ∨ ((∃ cl c, F = NF.of on_parts_of "onward" on_q_parts_of cl c) ∧ Nx = NxG)
theorem nxt_found_places (cl : List (Str × Addr)) (c : Addr) : NxT (NF.of on_found_places "onward" on_q_found_places cl c) NxA := .inl ⟨⟨cl, c, rfl⟩, rfl⟩
theorem nxt_parts_of (cl : List (Str × Addr)) (c : Addr) : NxT (NF.of on_parts_of "onward" on_q_parts_of cl c) NxG := .inr ⟨⟨cl, c, rfl⟩, rfl⟩
end Rl
namespace Rl
open PySem PySem.Spec PyProof.Rows L2
theorem row_range {ns : List Int} {a m : Int} {l : List PyData} (h : rowAt ns a = some (l, m)) : 0 ≤ a ∧ a < ns.length ∧ 1 ≤ m ∧ a + m ≤ ns.length := by
  by_cases hin : 0 ≤ a ∧ a < ns.length
  · obtain ⟨b, e⟩ : ∃ b, ns[a.toNat]? = some b := ⟨_, List.getElem?_eq_getElem (by omega)⟩
    rw [rowAt_in hin e] at h
    split at h
    · split at h
      · cases g : rowD b (ns.getD (a.toNat + 1) 0) with
        | none => rw [g] at h; cases h
        | some l2 =>
          rw [g] at h
          cases h
          omega
      · cases h
    · cases g : rowD b 0 with
      | none => rw [g] at h; cases h
      | some l2 =>
        rw [g] at h
        cases h
        omega
  · rw [rowAt_out hin] at h
    cases h
theorem row_byte {ns : List Int} {a m n : Int} {w : Str} (hb : By ns) (hw : w ∈ tgtT) (h : rowAt ns a = some ([.str w, .int n], m)) : 0 ≤ n ∧ n < 256 := by
  obtain ⟨h0, h1, _, _⟩ := row_range h
  obtain ⟨b, e⟩ : ∃ b, ns[a.toNat]? = some b := ⟨_, List.getElem?_eq_getElem (by omega)⟩
  have hb2 := hb b (List.mem_of_getElem? e)
  rw [rowAt_in ⟨h0, h1⟩ e] at h
  obtain ⟨z, hz, hl⟩ : ∃ z, (0 ≤ z ∧ z < 256) ∧ rowD b z = some [.str w, .int n] := by
    split at h
    · split at h
      · rename_i h2
        refine ⟨ns.getD (a.toNat + 1) 0, ?_, ?_⟩
        · rw [List.getD_eq_getElem?_getD, List.getElem?_eq_getElem (by omega)]
          exact hb _ (List.getElem_mem _)
        · cases g : rowD b (ns.getD (a.toNat + 1) 0) with
          | none => rw [g] at h; cases h
          | some l2 =>
            rw [g] at h
            cases h
            rfl
      · cases h
    · refine ⟨0, by decide, ?_⟩
      cases g : rowD b 0 with
      | none => rw [g] at h; cases h
      | some l2 =>
        rw [g] at h
        cases h
        rfl
  cases hd : dec b with
  | none =>
    unfold rowD at hl
    rw [hd] at hl
    cases hl
  | some p =>
    obtain ⟨w2, sh⟩ := p
    rw [rowD_dec hd] at hl
    have t := tgt_dec ⟨b.toNat, by omega⟩
    have e2 : ((b.toNat : Nat) : Int) = b := Int.toNat_of_nonneg hb2.1
    simp only [e2, hd] at t
    have hl2 := Option.some.inj hl
    injection hl2 with x1 x2
    injection x1 with x1
    rw [x1, decide_eq_true hw] at t
    have hs : sh = .n := of_decide_eq_true (eq_of_beq t).symm
    rw [hs] at x2
    have x3 : PyData.int z = PyData.int n := (List.cons.inj x2).1
    injection x3 with x3
    omega
end Rl
namespace Rl
open PySem PySem.Spec PyProof.Rows L2 NdefX LamX
/-! ## what stays where tables may grow -/
section
variable {K : PySem.W.Frag} {H H' H'' : Hp}
/-- the heap without tables -/
def noT (H : Hp) : Hp := fun a => match H a with
  | some (.tbl _) => none
  | o => o
theorem noT_get {a : Addr} {o : HO} (h : H a = some o) (n : ∀ ps, o ≠ .tbl ps) : noT H a = some o := by
  unfold noT
  rw [h]
  cases o <;> first | rfl | exact absurd rfl (n _)
theorem noT_same : Same (noT H) H := fun a o e => by
  unfold noT at e
  split at e
  · cases e
  · exact e
theorem noT_not {a : Addr} {o : HO} (e : noT H a = some o) : ∀ ps, o ≠ .tbl ps := fun ps z => by
  subst z
  unfold noT at e
  cases q : H a with
  | none =>
    rw [q] at e
    cases e
  | some u =>
    rw [q] at e
    cases u <;> first | (cases e; done) | cases e
theorem extN_noT (e : ExtN H H') : Same (noT H) H' := fun a o q => e a o (noT_same a o q) (noT_not q)
theorem ExtN.ofSame (e : Same H H') : ExtN H H' := fun a o q _ => e a o q
theorem ExtN.sqL {a : Addr} {xs : List V} (e : ExtN H H') (h : SqL K H a xs) : SqL K H' a xs := by
  rcases h with (g | ⟨o, g⟩) | g
  · exact .inl (.inl (e _ _ g fun _ z => nomatch z))
  · exact .inl (.inr ⟨o, e _ _ g fun _ z => nomatch z⟩)
  · exact .inr g
theorem ExtN.sqT {a : Addr} {xs : List V} (e : ExtN H H') (h : SqT K H a xs) : SqT K H' a xs := by
  rcases h with (g | ⟨o, g⟩) | g
  · exact .inl (.inl (e _ _ g fun _ z => nomatch z))
  · exact .inl (.inr ⟨o, e _ _ g fun _ z => nomatch z⟩)
  · exact .inr g
theorem ExtN.code {c : V} {ns : List Int} (e : ExtN H H') (h : Code K H c ns) : Code K H' c ns := by
  obtain ⟨p, rfl, h | h⟩ := h
  · exact SqL.code (ExtN.sqL e h)
  · exact SqT.code (ExtN.sqT e h)
theorem TabsN.same {T : List NTab} (t : TabsN T H) (e : Same H H') : TabsN T H' := t.ext e
end
/-! ## found places -/
def spOn (K : PySem.W.Frag) (Nx : List Int → Int → Int → Prop) : Addr → Sp := fun a vs H Q _ => ∃ (ns : List Int) (i : Int), vs = [.int i] ∧ Code K H (.ref a) ns ∧ By ns ∧ ∀ (p : Addr) (H' : Hp) (L : List Int), Same H H' → H p = none → H' p = some (.lst (L.map V.int)) → (∀ k, k ∈ L ↔ Nx ns i k) → L.length ≤ 2 → Q (.ref p) H'
def OnP (K : PySem.W.Frag) (F : NF) (sp : Addr → Sp) : Prop := ∃ Nx, NxT F Nx ∧ sp = spOn K Nx
/-- numbers of places -/
abbrev Few (k : Int) : Prop := 0 ≤ k ∧ k < (1300 : Nat)
def sp_all_from (K : PySem.W.Frag) (_ : World) : Sp := fun vs H Q _ => ∃ (first : Int) (f : Addr) (F : NF) (Nx : List Int → Int → Int → Prop) (c : Addr) (o : Obj) (a : Addr) (ns : List Int), vs = [.int first, .ref f] ∧ NxT F Nx ∧ F.cl = [(("code" : Str), c)] ∧ o.data = .cell (some (.ref a)) ∧
  H f = some (FnO f F) ∧ H F.c = some (CodeO F.c F.qual) ∧ H c = some (CellO c o) ∧ f ≠ c ∧ F.c ≠ c ∧ Code K H (.ref a) ns ∧ a ≠ c ∧ By ns ∧ Few first ∧ (∀ x k, Nx ns x k → Few k) ∧
  ∀ (p : Addr) (H' : Hp) (L : List Int), Same H H' → H p = none → H' p = some (.lst (L.map V.int)) → L.Pairwise (· < ·) → (∀ k, k ∈ L ↔ Rch (Nx ns) first k) → Q (.ref p) H'
/-- all places of a code that are found -/
def Fnd (ns L : List Int) : Prop := L.Pairwise (· < ·) ∧ ∀ k, k ∈ L ↔ Rch (NxA ns) 0 k
def sp_found_places (K : PySem.W.Frag) (_ : World) : Sp := fun vs H Q _ => ∃ (c : V) (ns : List Int), vs = [c] ∧ Code K H c ns ∧ By ns ∧ ns.length ≤ 1000 ∧ TabsN (NT K) H ∧
  ∀ (p : Addr) (H' : Hp) (L : List Int), ExtN H H' → TabsN (NT K) H' → noT H p = none → H' p = some (.lst (L.map V.int)) → Fnd ns L → Q (.ref p) H'
def sp_found_places_onward (K : PySem.W.Frag) (_ : World) : Addr → Sp := spOn K NxA
theorem len_all_from {K : PySem.W.Frag} {w : World} {vs : List V} {H : Hp} {Q : VK} {E : XK} (h : sp_all_from K w vs H Q E) : vs.length = 2 := by
  obtain ⟨_, _, _, _, _, _, _, _, rfl, _⟩ := h
  rfl
theorem len_found_places {K : PySem.W.Frag} {w : World} {vs : List V} {H : Hp} {Q : VK} {E : XK} (h : sp_found_places K w vs H Q E) : vs.length = 1 := by
  obtain ⟨_, _, rfl, _⟩ := h
  rfl
theorem len_on {K : PySem.W.Frag} {Nx : List Int → Int → Int → Prop} {ws : List (Option V)} {vs : List V} {H : Hp} {Q : VK} {E : XK} (h : spCap (spOn K Nx) ws vs H Q E) : vs.length = 1 := by
  obtain ⟨_, _, _, _, rfl, _⟩ := h
  rfl
theorem Fnd.uniq {ns L M : List Int} (h : Fnd ns L) (g : Fnd ns M) : L = M := sorted_uniq h.1 g.1 fun k => (h.2 k).trans (g.2 k).symm
end Rl
namespace Rl
open PySem PySem.Spec PyProof.Rows L2 NdefX LamX
theorem nxA_few {ns : List Int} {x k : Int} (hb : By ns) (hl : ns.length ≤ 1000) (h : NxA ns x k) : Few k := by
  rcases h with h | h
  · unfold behind at h
    cases hr : rowAt ns x with
    | none => rw [hr] at h; cases h
    | some p =>
      obtain ⟨l, m⟩ := p
      rw [hr] at h
      have r := row_range hr
      have h2 : (if wordOf l ∈ endsT then none else some (x + m)) = some k := h
      split at h2
      · cases h2
      · cases h2
        exact ⟨by omega, by omega⟩
  · unfold tgt at h
    cases hr : rowAt ns x with
    | none => rw [hr] at h; cases h
    | some p =>
      obtain ⟨l, m⟩ := p
      obtain ⟨wd, rest, rfl, ht⟩ := row_shape hb hr
      rw [hr] at h
      have h2 : (if wd ∈ tgtT then some (numOf (.str wd :: rest)) else none) = some k := h
      split at h2
      · rename_i hw
        obtain ⟨n, rfl⟩ := ht hw
        cases h2
        have := row_byte hb hw hr
        show 0 ≤ n ∧ n < _
        omega
      · cases h2
theorem nxG_few {ns : List Int} {x k : Int} (hb : By ns) (hl : ns.length ≤ 1000) (h : NxG ns x k) : Few k := nxA_few hb hl (h.elim .inl fun z => .inr z.2)
theorem Code.but {K : PySem.W.Frag} {H : Hp} {a c : Addr} {ns : List Int} (h : Code K H (.ref a) ns) (n : a ≠ c) : Code K (Rl.but c H) (.ref a) ns := by
  obtain ⟨p, e, h⟩ := h
  cases e
  rcases h with ((g | ⟨o, g⟩) | g) | ((g | ⟨o, g⟩) | g)
  · exact SqL.code (.inl (.inl (but_get n g)))
  · exact SqL.code (.inl (.inr ⟨o, but_get n g⟩))
  · exact SqL.code (.inr g)
  · exact SqT.code (.inl (.inl (but_get n g)))
  · exact SqT.code (.inl (.inr ⟨o, but_get n g⟩))
  · exact SqT.code (.inr g)
end Rl
namespace Rl
open PySem PySem.Spec PyProof.Rows L2 NdefX LamX
/-! ## data that is kept where some things change -/
mutual
theorem Dp.by {K : PySem.W.Frag} {H H' : Hp} (eL : ∀ a xs, SqL K H a xs → SqL K H' a xs) (eT : ∀ a xs, SqT K H a xs → SqT K H' a xs) : ∀ {d : PyData} {v : V}, Dp K H v d → Dp K H' v d
  | _, _, .non => .non
  | _, _, .bl b => .bl b
  | _, _, .int i => .int i
  | _, _, .str x => .str x
  | _, _, .lst hs ha => .lst (eL _ _ hs) (DpAll.by eL eT ha)
  | _, _, .tup hs ha => .tup (eT _ _ hs) (DpAll.by eL eT ha)
theorem DpAll.by {K : PySem.W.Frag} {H H' : Hp} (eL : ∀ a xs, SqL K H a xs → SqL K H' a xs) (eT : ∀ a xs, SqT K H a xs → SqT K H' a xs) : ∀ {ds : List PyData} {vs : List V}, DpAll K H vs ds → DpAll K H' vs ds
  | _, _, .nil => .nil
  | _, _, .cons a b => .cons (Dp.by eL eT a) (DpAll.by eL eT b)
end
/-- no list in it -/
def NL : Nat → PyData → Prop
  | 0, .tuple _ => False
  | _, .list _ => False
  | n + 1, .tuple ds => ∀ d ∈ ds, NL n d
  | _, _ => True
section
variable {K : PySem.W.Frag} {H H' : Hp} {D : Addr}
theorem ExtN.dp {v : V} {d : PyData} (e : ExtN H H') (h : Dp K H v d) : Dp K H' v d := Dp.by (fun _ _ z => ExtN.sqL e z) (fun _ _ z => ExtN.sqT e z) h
theorem ExtN.dpAll {xs : List V} {ds : List PyData} (e : ExtN H H') (h : DpAll K H xs ds) : DpAll K H' xs ds := DpAll.by (fun _ _ z => ExtN.sqL e z) (fun _ _ z => ExtN.sqT e z) h
theorem noT_ext : ExtN H (noT H) := fun _ _ e n => noT_get e n
theorem sqT_off {a : Addr} {xs ys : List V} (hD : H D = some (.lst ys)) (h : SqT K H a xs) : SqT K (but D H) a xs := by
  rcases h with (g | ⟨o, g⟩) | g
  · exact .inl (.inl (but_get (fun z => by rw [z, hD] at g; cases g) g))
  · exact .inl (.inr ⟨o, but_get (fun z => by rw [z, hD] at g; cases g) g⟩)
  · exact .inr g
theorem DpAll.each {xs : List V} : ∀ {ds : List PyData}, (∀ d ∈ ds, ∀ v, Dp K H v d → Dp K H' v d) → DpAll K H xs ds → DpAll K H' xs ds := by
  intro ds f h
  induction xs generalizing ds with
  | nil =>
    cases h
    exact .nil
  | cons x xs ih =>
    cases h with
    | cons a b => exact .cons (f _ List.mem_cons_self _ a) (ih (fun d hd => f d (List.mem_cons_of_mem _ hd)) b)
theorem Dp.off {ys : List V} (hD : H D = some (.lst ys)) : ∀ {n : Nat} {d : PyData} {v : V}, NL n d → Dp K H v d → Dp K (but D H) v d
  | n, d, v, hn, h => by
    cases h with
    | non => exact .non
    | bl b => exact .bl b
    | int i => exact .int i
    | str x => exact .str x
    | lst hs ha => cases n <;> exact hn.elim
    | tup hs ha =>
      cases n with
      | zero => exact hn.elim
      | succ n => exact .tup (sqT_off hD hs) (DpAll.each (fun d hd v z => Dp.off hD (hn d hd) z) ha)
theorem DpAll.snoc {d : PyData} {v : V} (hv : Dp K H v d) : ∀ {xs : List V} {ds : List PyData}, DpAll K H xs ds → DpAll K H (xs ++ [v]) (ds ++ [d])
  | _, _, .nil => .cons hv .nil
  | _, _, .cons a b => .cons a (DpAll.snoc hv b)
end
theorem range_snoc {α : Type} (f : Nat → α) (i : Nat) : (List.range (i + 1)).map f = (List.range i).map f ++ [f i] := by
  rw [List.range_succ, List.map_append]
  rfl
theorem range_map {α β : Type} (f : α → β) (d : α) (xs : List α) : ((List.range xs.length).map fun i => f (xs.getD i d)) = xs.map f := by
  refine List.ext_getElem (by simp) fun i h1 h2 => ?_
  simp at h1
  simp [List.getD_eq_getElem?_getD, h1]
/-- a list comprehension whose elements are data -/
theorem lcDp {K : PySem.W.Frag} {σ : L2.St} {H : Hp} {Q : VK} {g : TG} {te : TE} {vs : List Nat} {J : It} {n : Nat} {G : Hp → Prop} {Y : Nat → Hp → V → Hp → Prop} (w : Walk J n G Y) (out : Nat → PyData) (hn : n < sizeLine) (hG : ∀ H', Same H H' → G H')
    (each : ∀ (D : Addr) (i : Nat) (x : V) (H1 H' : Hp) (Q' : VK), H D = none → i < n → Same H H1 → (∃ ys, H1 D = some (.lst ys)) → Y i H1 x H' → (∀ v H3, Same H1 H3 → Dp K (but D H3) v (out i) → Q' v H3) → g x (wipe σ vs) H' fun σ2 H2 => wipe σ2 vs = wipe σ vs ∧ te σ2 H2 Q')
    (q : ∀ (D : Addr) (H' : Hp) (xs : List V), H D = none → Same H H' → H' D = some (.lst xs) → DpAll K (but D H') xs ((List.range n).map out) → Q (.ref D) H') : ∀ D, H D = none → R.LcLoop J g tYes te vs σ D H Q := by
  intro D hD
  refine R.lcI w (fun i H' => Same H H' ∧ ∃ xs, H' D = some (.lst xs) ∧ xs.length = i ∧ DpAll K (but D H') xs ((List.range i).map out)) ⟨same_upd hD, [], upd_same, rfl, .nil⟩ (fun i H' _ z => hG H' z.1) ?_ ?_
  · rintro i x H1 H' hi ⟨z1, xs, z2, z3, z4⟩ y
    refine each D i x H1 H' (fun y H4 => ∃ got, H4 D = some (.lst got) ∧ got.length < sizeLine ∧ Same H (upd H4 D (.lst (got ++ [y]))) ∧ ∃ xs, (upd H4 D (.lst (got ++ [y]))) D = some (.lst xs) ∧ xs.length = i + 1 ∧ DpAll K (but D (upd H4 D (.lst (got ++ [y])))) xs ((List.range (i + 1)).map out)) hD hi z1 ⟨_, z2⟩ y fun v H3 e3 hv => ?_
    refine ⟨xs, e3 _ _ z2, by omega, Same.mut hD (z1.trans e3), xs ++ [v], upd_same, by rw [List.length_append, z3]; rfl, ?_⟩
    rw [but_upd, range_snoc]
    exact DpAll.snoc hv (DpAll.mono (Same.but e3) z4)
  · rintro H' ⟨z1, xs, z2, z3, z4⟩
    exact q D H' xs hD z1 z2 z4
end Rl
namespace Rl
open PySem PySem.Spec PyProof.Rows L2 NdefX LamX
section
variable {K : PySem.W.Frag} {H H' H'' : Hp}
theorem ExtN.free {p : Addr} (e : ExtN H H') (n : H' p = none) : noT H p = none := by
  cases z : noT H p with
  | none => rfl
  | some v =>
    have y := extN_noT e _ _ z
    rw [n] at y
    cases y
theorem ExtN.freeN {p : Addr} (e : ExtN H H') (n : noT H' p = none) : noT H p = none := by
  cases z : noT H p with
  | none => rfl
  | some v =>
    rw [noT_get (extN_noT e _ _ z) (noT_not z)] at n
    cases n
theorem ExtN.mut {p : Addr} {o : HO} (e : ExtN H H') (n : noT H p = none) : ExtN H (upd H' p o) := fun b u q m => by
  have ne : b ≠ p := fun z => by
    rw [z] at q
    rw [noT_get q m] at n
    cases n
  exact upd_mut ne (e b u q m)
/-- a snapshot without tables -/
theorem noT_ext' {B : Hp} (s : Same (noT B) H) (e : ExtN H H') : Same (noT B) H' := fun a o q => e a o (s a o q) (noT_not q)
theorem noT_out {B : Hp} {p : Addr} (s : Same (noT B) H) (n : noT H p = none) : noT B p = none := by
  cases z : noT B p with
  | none => rfl
  | some v =>
    rw [noT_get (s _ _ z) (noT_not z)] at n
    cases n
theorem TabsN.mut {T : List NTab} {p : Addr} {xs : List V} {o : HO} (t : TabsN T H) (h : H p = some (.lst xs)) : TabsN T (upd H p o) := fun u hu => by
  obtain ⟨ps, h1, h2, h3⟩ := t u hu
  refine ⟨ps, upd_mut (fun z => by rw [z, h] at h1; cases h1) h1, h2, fun pos cv hc => ?_⟩
  obtain ⟨c, e1, e2⟩ := h3 pos cv hc
  exact ⟨c, e1, upd_mut (fun z => by rw [z, h] at e2; unfold CodeO at e2; cases e2) e2⟩
theorem TabsN.fx {T : List NTab} {r : Addr} {S : Addr → Prop} (t : TabsN T H) (R : Reel H r S) (f : Fx r H H') : TabsN T H' := fun u hu => by
  obtain ⟨xs, hr⟩ := R.isL
  obtain ⟨ps, h1, h2, h3⟩ := t u hu
  refine ⟨ps, f.at (fun z => by rw [z, hr] at h1; cases h1) h1, h2, fun pos cv hc => ?_⟩
  obtain ⟨c, e1, e2⟩ := h3 pos cv hc
  exact ⟨c, e1, f.at (fun z => by rw [z, hr] at e2; unfold CodeO at e2; cases e2) e2⟩
theorem Reel.extN {r : Addr} {S : Addr → Prop} (h : Reel H r S) (e : ExtN H H') (hS : ∀ a, S a → ∃ xs : List V, H a = Option.some (HO.lst xs)) : Reel H' r S := by
  obtain ⟨g, c, k, st, gs, cs, h1, h2, h3, h4, h5, h6, h7, h8, h9, h10, h11, h12, h13⟩ := h
  refine ⟨g, c, k, st, gs, cs, e _ _ h1 (fun _ z => nomatch z), e _ _ h2 (fun _ z => nomatch z), e _ _ h3 (fun _ z => nomatch z), h4, h5, h6, h7, h8, h9, h10, h11, h12, fun a ha => ?_⟩
  obtain ⟨xs, z⟩ := hS a ha
  exact ⟨_, e _ _ z (fun _ y => nomatch y)⟩
end
/-- what was none of the reel's is changed -/
theorem Reel.app {H H' : Hp} {r p : Addr} {o : HO} (h : Reel H r S0) (n : noT H p = none) (e : ExtN H H') : Reel (upd H' p o) r S0 := by
  obtain ⟨g, c, k, st, gs, cs, h1, h2, h3, h4, h5, h6, h7, h8, h9, h10, h11, h12, h13⟩ := h
  have ne : ∀ {b : Addr} {xs : List V}, H b = Option.some (HO.lst xs) → b ≠ p := fun q z => by
    rw [← z, noT_get q fun _ y => nomatch y] at n
    cases n
  exact ⟨g, c, k, st, gs, cs, upd_mut (ne h1) (e _ _ h1 (fun _ z => nomatch z)), upd_mut (ne h2) (e _ _ h2 (fun _ z => nomatch z)), upd_mut (ne h3) (e _ _ h3 (fun _ z => nomatch z)), h4, h5, h6, h7, h8, h9, h10, h11, h12, fun a ha => ha.elim⟩
/-! ## rows are flat -/
def flatD : PyData → Prop
  | .tuple _ => False
  | .list _ => False
  | _ => True
theorem flatD.nl {d : PyData} (h : flatD d) (n : Nat) : NL n d := by
  cases d <;> first | exact h.elim | (cases n <;> exact True.intro)
theorem flatD.nrw {d : PyData} (h : flatD d) (n : Nat) : Nrw n d := by
  cases d <;> first | exact h.elim | (cases n <;> exact True.intro)
theorem rowAt_rowD {ns : List Int} {a m : Int} {l : List PyData} (h : rowAt ns a = some (l, m)) : ∃ b n, rowD b n = some l := by
  have r := row_range h
  obtain ⟨b, e⟩ : ∃ b, ns[a.toNat]? = some b := ⟨_, List.getElem?_eq_getElem (by omega)⟩
  rw [rowAt_in ⟨r.1, r.2.1⟩ e] at h
  split at h
  · split at h
    · cases g : rowD b (ns.getD (a.toNat + 1) 0) with
      | none => rw [g] at h; cases h
      | some l2 =>
        rw [g] at h
        cases h
        exact ⟨_, _, g⟩
    · cases h
  · cases g : rowD b 0 with
    | none => rw [g] at h; cases h
    | some l2 =>
      rw [g] at h
      cases h
      exact ⟨_, _, g⟩
theorem row_flat {ns : List Int} {a m : Int} {l : List PyData} (h : rowAt ns a = some (l, m)) : l.length ≤ 3 ∧ ∀ d ∈ l, flatD d := by
  obtain ⟨b, n, hl⟩ := rowAt_rowD h
  cases hd : dec b with
  | none =>
    unfold rowD at hl
    rw [hd] at hl
    cases hl
  | some p =>
    obtain ⟨w, sh⟩ := p
    rw [rowD_dec hd] at hl
    obtain rfl := Option.some.inj hl
    cases sh <;> refine ⟨Nat.le_of_ble_eq_true rfl, fun d hd => ?_⟩ <;> simp only [restD, List.mem_cons, List.not_mem_nil, or_false] at hd
    · rw [hd]; exact True.intro
    · rcases hd with rfl | rfl | rfl <;> exact True.intro
    · rcases hd with rfl | rfl | rfl <;> exact True.intro
    · rcases hd with rfl | rfl <;> exact True.intro
    · rcases hd with rfl | rfl <;> exact True.intro
theorem nl_atD (ns : List Int) (a : Int) : NL 2 (atD (rowAt ns a)) := by
  cases h : rowAt ns a with
  | none => exact True.intro
  | some p =>
    obtain ⟨l, m⟩ := p
    intro d hd
    rcases List.mem_cons.mp hd with rfl | hd
    · exact fun e he => ((row_flat h).2 e he).nl 0
    · rw [List.mem_singleton.mp hd]
      exact True.intro
theorem Fnd.few {ns L : List Int} (hb : By ns) (hl : ns.length ≤ 1000) (h : Fnd ns L) : L.length ≤ 1300 ∧ ∀ k ∈ L, Few k := by
  have f : ∀ k ∈ L, Few k := fun k hk => rch_in ((h.2 k).mp hk) ⟨by decide, by decide⟩ fun _ _ => nxA_few hb hl
  exact ⟨len_below (h.1.imp fun z => Int.ne_of_lt z) f, f⟩
end Rl
namespace Rl
open PySem PySem.Spec PyProof.Rows L2 NdefX LamX
/-! ## the law's own spread -/
def NxC (calls : Bool) : List Int → Int → Int → Prop := if calls then NxA else NxG
def sp_law_spread (K : PySem.W.Frag) (_ : World) : Sp := fun vs H Q _ => ∃ (t a : Addr) (ns : List Int) (first : Int) (calls : Bool), vs = [.ref t, .ref a, .int first, .bl calls] ∧ Tab H t tabT ∧ SqL K H a (ns.map V.int) ∧ By ns ∧ ns.length ≤ 1000 ∧ Few first ∧
  ∀ (p : Addr) (H' : Hp) (L : List Int), Same H H' → H p = none → H' p = some (.lst (L.map V.int)) → L.Pairwise (· < ·) → (∀ k, k ∈ L ↔ Rch (NxC calls ns) first k) → Q (.ref p) H'
theorem len_law_spread {K : PySem.W.Frag} {w : World} {vs : List V} {H : Hp} {Q : VK} {E : XK} (h : sp_law_spread K w vs H Q E) : vs.length = 4 := by
  obtain ⟨_, _, _, _, _, rfl, _⟩ := h
  rfl
end Rl
namespace Rl
open PySem PySem.Spec PyProof.Rows L2 NdefX LamX
/-! ## parts -/
/-- the addresses of the part of entry e -/
def Part (ns : List Int) (e : Int) (L : List Int) : Prop := L.Pairwise (· < ·) ∧ ∀ k, k ∈ L ↔ Rch (NxG ns) e k
theorem Part.uniq {ns L M : List Int} {e : Int} (h : Part ns e L) (g : Part ns e M) : L = M := sorted_uniq h.1 g.1 fun k => (h.2 k).trans (g.2 k).symm
open Classical in
noncomputable def partL (ns : List Int) (e : Int) : List Int := if h : ∃ L, Part ns e L then h.choose else []
theorem Part.eq {ns L : List Int} {e : Int} (h : Part ns e L) : partL ns e = L := by
  unfold partL
  rw [dif_pos ⟨L, h⟩]
  exact Part.uniq (Exists.choose_spec (⟨L, h⟩ : ∃ L, Part ns e L)) h
noncomputable def partE (ns : List Int) (e : Int) : PyData := .tuple [.int e, .list ((partL ns e).map PyData.int)]
/-- the entries: 0 and what found calls name -/
def Entr (ns L : List Int) (k : Int) : Prop := k = 0 ∨ ∃ x ∈ L, isCall ns x = true ∧ tgt ns x = some k
def Ents (ns es : List Int) : Prop := ∃ L, Fnd ns L ∧ es.Pairwise (· < ·) ∧ ∀ k, k ∈ es ↔ Entr ns L k
theorem Ents.uniq {ns es fs : List Int} (h : Ents ns es) (g : Ents ns fs) : es = fs := by
  obtain ⟨L, h1, h2, h3⟩ := h
  obtain ⟨M, g1, g2, g3⟩ := g
  obtain rfl := h1.uniq g1
  exact sorted_uniq h2 g2 fun k => (h3 k).trans (g3 k).symm
theorem ent_snoc {ns L : List Int} {x k : Int} : Entr ns (L ++ [x]) k ↔ (Entr ns L k ∨ (isCall ns x = true ∧ tgt ns x = some k)) := by
  unfold Entr
  constructor
  · rintro (h | ⟨y, hy, h⟩)
    · exact .inl (.inl h)
    · rcases List.mem_append.mp hy with z | z
      · exact .inl (.inr ⟨y, z, h⟩)
      · rw [List.mem_singleton.mp z] at h
        exact .inr h
  · rintro ((h | ⟨y, hy, h⟩) | h)
    · exact .inl h
    · exact .inr ⟨y, List.mem_append_left _ hy, h⟩
    · exact .inr ⟨x, List.mem_append_right _ (List.mem_singleton.mpr rfl), h⟩
theorem ent_few {ns L : List Int} {k : Int} (hb : By ns) (hl : ns.length ≤ 1000) (h : Entr ns L k) : Few k := by
  rcases h with rfl | ⟨x, _, _, h⟩
  · exact ⟨by decide, by decide⟩
  · exact nxA_few hb hl (x := x) (.inr h)
/-- a call has its target -/
theorem call_tgt {ns : List Int} {x : Int} (hb : By ns) (h : isCall ns x = true) : ∃ n m, rowAt ns x = some ([.str "call", .int n], m) ∧ tgt ns x = some n := by
  unfold isCall at h
  cases hr : rowAt ns x with
  | none =>
    rw [hr] at h
    cases h
  | some p =>
    obtain ⟨l, m⟩ := p
    obtain ⟨wd, rest, rfl, ht⟩ := row_shape hb hr
    rw [hr] at h
    have hw : wd = "call" := of_decide_eq_true h
    subst hw
    obtain ⟨n, rfl⟩ := ht (by decide)
    refine ⟨n, m, rfl, ?_⟩
    unfold tgt
    rw [hr]
    rfl
/-- what stands in the told list: pairs, each with a list of its own -/
def Items (H0 H : Hp) (p : Addr) (xs : List V) (ns es : List Int) : Prop := xs.length = es.length ∧ ∀ (j : Nat) (x : V), xs[j]? = some x → ∃ (q l : Addr) (e : Int) (L : List Int), es[j]? = some e ∧ x = .ref q ∧ H q = some (.tup [.int e, .ref l]) ∧ H l = some (.lst (L.map V.int)) ∧ Part ns e L ∧ L.length ≤ 1300 ∧ noT H0 l = none ∧ l ≠ p
theorem dpAll_of {K : PySem.W.Frag} {H : Hp} : ∀ {xs : List V} {ds : List PyData}, xs.length = ds.length → (∀ (j : Nat) (x : V) (d : PyData), xs[j]? = some x → ds[j]? = some d → Dp K H x d) → DpAll K H xs ds
  | [], [], _, _ => .nil
  | [], _ :: _, h, _ => by simp at h
  | _ :: _, [], h, _ => by simp at h
  | x :: xs, d :: ds, h, f => .cons (f 0 x d rfl rfl) (dpAll_of (by simpa using h) fun j y e h1 h2 => f (j + 1) y e (by simpa using h1) (by simpa using h2))
theorem Items.dp {K : PySem.W.Frag} {H0 H : Hp} {p : Addr} {xs : List V} {ns es : List Int} (h : Items H0 H p xs ns es) : DpAll K H xs (es.map (partE ns)) := by
  refine dpAll_of (by rw [List.length_map]; exact h.1) fun j x d hx hd => ?_
  obtain ⟨q, l, e, L, he, rfl, hq, hl, hP, _⟩ := h.2 j x hx
  rw [List.getElem?_map, he] at hd
  obtain rfl : partE ns e = d := Option.some.inj hd
  unfold partE
  rw [hP.eq]
  exact .tup (SqT.of hq) (.cons (.int e) (.cons (SqL.ints (SqL.of hl)) .nil))
theorem nrw_parts {ns es : List Int} (h : es.length ≤ 1300) (hp : ∀ e ∈ es, (partL ns e).length ≤ 1300) : Nrw 3 (.list (es.map (partE ns))) := by
  refine ⟨Nat.lt_of_le_of_lt (m := 1300) (by rw [List.length_map]; exact h) (by decide), fun d hd => ?_⟩
  obtain ⟨e, he, rfl⟩ := List.mem_map.mp hd
  refine ⟨Nat.lt_of_le_of_lt (m := 2) (Nat.le_refl 2) (by decide), fun d hd => ?_⟩
  rcases List.mem_cons.mp hd with rfl | hd
  · exact True.intro
  · rw [List.mem_singleton.mp hd]
    refine ⟨Nat.lt_of_le_of_lt (m := 1300) (by rw [List.length_map]; exact hp e he) (by decide), fun d hd => ?_⟩
    obtain ⟨n, _, rfl⟩ := List.mem_map.mp hd
    exact True.intro
theorem Part.few {ns L : List Int} {e : Int} (hb : By ns) (hl : ns.length ≤ 1000) (he : Few e) (h : Part ns e L) : L.length ≤ 1300 :=
  len_below (h.1.imp fun z => Int.ne_of_lt z) fun _ hk => rch_in ((h.2 _).mp hk) he fun _ _ => nxG_few hb hl
theorem Ents.few {ns es : List Int} (hb : By ns) (hl : ns.length ≤ 1000) (h : Ents ns es) : es.length ≤ 1300 ∧ ∀ e ∈ es, Few e := by
  obtain ⟨L, _, h2, h3⟩ := h
  have f : ∀ k ∈ es, Few k := fun k hk => ent_few hb hl ((h3 k).mp hk)
  exact ⟨len_below (h2.imp fun z => Int.ne_of_lt z) f, f⟩
def sp_parts_of_onward (K : PySem.W.Frag) (_ : World) : Addr → Sp := spOn K NxG
def sp_parts_of (K : PySem.W.Frag) (_ : World) : Sp := fun vs H Q _ => ∃ (c : V) (ns : List Int), vs = [c] ∧ Code K H c ns ∧ By ns ∧ ns.length ≤ 1000 ∧ TabsN (NT K) H ∧
  ∀ (p : Addr) (H' : Hp) (xs : List V) (es : List Int), ExtN H H' → TabsN (NT K) H' → noT H p = none → H' p = some (.lst xs) → Ents ns es → Items H H' p xs ns es → Q (.ref p) H'
def sp_law_due (K : PySem.W.Frag) (_ : World) : Sp := fun vs H Q _ => ∃ (a : Addr) (ns : List Int), vs = [.ref a] ∧ SqL K H a (ns.map V.int) ∧ By ns ∧ ns.length ≤ 1000 ∧
  ∀ (p : Addr) (H' : Hp) (xs : List V) (es : List Int), Same H H' → H p = none → H' p = some (.lst xs) → Ents ns es → DpAll K H' xs (es.map (partE ns)) → Q (.ref p) H'
def sp_law_called (_ : PySem.W.Frag) (_ : World) : Sp := fun vs H Q _ => ∃ (r a : Addr) (ds : List Int), vs = [.ref r, .ref a] ∧ Reel H r S0 ∧ H a = some (.lst (ds.map V.int)) ∧ a ≠ r ∧ By ds ∧ 1 ≤ ds.length ∧ ds.length ≤ 1000 ∧
  ∀ (p : Addr) (H' : Hp) (es : List Int), H p = none → p ≠ r → Fx r H H' → Reel H' r S0 → H' p = some (.lst (es.map V.int)) → By es → es.length = ds.length → Q (.ref p) H'
def sp_law (K : PySem.W.Frag) (_ : World) : Sp := fun vs H Q _ => ∃ (a : Addr) (ns : List Int), vs = [.ref a] ∧ SqL K H a (ns.map V.int) ∧ ns.length ≤ 63 ∧ TabsN (NT K) H ∧ ∀ H', Q (.bl true) H'
theorem len_parts_of {K : PySem.W.Frag} {w : World} {vs : List V} {H : Hp} {Q : VK} {E : XK} (h : sp_parts_of K w vs H Q E) : vs.length = 1 := by
  obtain ⟨_, _, rfl, _⟩ := h
  rfl
theorem len_law_due {K : PySem.W.Frag} {w : World} {vs : List V} {H : Hp} {Q : VK} {E : XK} (h : sp_law_due K w vs H Q E) : vs.length = 1 := by
  obtain ⟨_, _, rfl, _⟩ := h
  rfl
theorem len_law_called {K : PySem.W.Frag} {w : World} {vs : List V} {H : Hp} {Q : VK} {E : XK} (h : sp_law_called K w vs H Q E) : vs.length = 2 := by
  obtain ⟨_, _, _, rfl, _⟩ := h
  rfl
theorem len_law {K : PySem.W.Frag} {w : World} {vs : List V} {H : Hp} {Q : VK} {E : XK} (h : sp_law K w vs H Q E) : vs.length = 1 := by
  obtain ⟨_, _, rfl, _⟩ := h
  rfl
theorem law_in {K : PySem.W.Frag} {w : World} {H : Hp} {a : Addr} {ns : List Int} {E : XK} (hl : ns.length ≤ 63) (hT : TabsN (NT K) H) (hS : SqL K H a (ns.map V.int)) : sp_law K w [.ref a] H (fun v _ => v = .bl true) E := ⟨a, ns, rfl, hS, hl, hT, fun _ => rfl⟩
theorem nt_start (K : PySem.W.Frag) (H : Hp) (h : ∀ p ∈ [He.cT K ("found_places", none), He.cT K ("parts_of", none)], H p.2 = some (.tbl #[])) : TabsN (NT K) H := fun p hp => by
  simp only [NT, List.mem_cons, List.not_mem_nil, or_false] at hp
  rcases hp with rfl | rfl
  · exact TabN.nil (h _ (by simp))
  · exact TabN.nil (h _ (by simp))
theorem on_known (K : PySem.W.Frag) (w : World) {P : Program} {mg : Str → Option Value} {base : Heap} {k k2 : Nat} (n : ∀ (f : Addr) (cl : List (Str × Addr)) (c2 : Addr), NOk P w K mg base CX0 k f (NF.of on_found_places "onward" on_q_found_places cl c2) ["address"] ["code"] (spCap (sp_found_places_onward K w)))
    (n2 : ∀ (f : Addr) (cl : List (Str × Addr)) (c2 : Addr), NOk P w K mg base CX0 k2 f (NF.of on_parts_of "onward" on_q_parts_of cl c2) ["address"] ["code"] (spCap (sp_parts_of_onward K w)))
    {f : Addr} {F : NF} {sp : Addr → Sp} (h : OnP K F sp) (hk : k ≤ k2 := by decide) : NOk P w K mg base CX0 k2 f F ["address"] ["code"] (spCap sp) := by
  obtain ⟨Nx, ⟨⟨cl, c, rfl⟩, rfl⟩ | ⟨⟨cl, c, rfl⟩, rfl⟩, rfl⟩ := h
  · exact (n f cl c).mono hk
  · exact n2 f cl c
end Rl
namespace Rl
open PySem PySem.Spec PyProof.Rows L2 NdefX LamX
/-! ## bytes that stand in no found row -/
def stood (ns L : List Int) (a : Int) : Bool := L.any fun x => match rowAt ns x with
  | some (_, m) => decide (x ≤ a ∧ a < x + m)
  | none => false
def lostL (ns L : List Int) : List Int := ((List.range ns.length).map fun (k : Nat) => (k : Int)).filter fun a => !stood ns L a
theorem stood_snoc (ns L : List Int) (x a : Int) : stood ns (L ++ [x]) a = (stood ns L a || match rowAt ns x with
  | some (_, m) => decide (x ≤ a ∧ a < x + m)
  | none => false) := by
  unfold stood
  rw [List.any_append]
  simp only [List.any_cons, List.any_nil, Bool.or_false]
theorem stood_none {ns L : List Int} {x a : Int} (h : rowAt ns x = none) : stood ns (L ++ [x]) a = stood ns L a := by
  rw [stood_snoc, h]
  exact Bool.or_false _
theorem stood_some {ns L : List Int} {x a m : Int} {l : List PyData} (h : rowAt ns x = some (l, m)) : stood ns (L ++ [x]) a = (stood ns L a || decide (x ≤ a ∧ a < x + m)) := by
  rw [stood_snoc, h]
theorem lostL_len (ns L : List Int) : (lostL ns L).length ≤ ns.length := by
  unfold lostL
  refine Nat.le_trans (List.length_filter_le _ _) ?_
  rw [List.length_map, List.length_range]
  exact Nat.le_refl _
theorem nrw_intL {L : List Int} (h : L.length ≤ 1000) : Nrw 3 (.list (L.map PyData.int)) := by
  refine ⟨Nat.lt_of_le_of_lt (m := 1000) (by rw [List.length_map]; exact h) (by decide), fun d hd => ?_⟩
  obtain ⟨n, _, rfl⟩ := List.mem_map.mp hd
  exact True.intro
def sp_lost_bytes (K : PySem.W.Frag) (_ : World) : Sp := fun vs H Q _ => ∃ (c : V) (ns : List Int), vs = [c] ∧ Code K H c ns ∧ By ns ∧ ns.length ≤ 1000 ∧ TabsN (NT K) H ∧
  ∀ (p : Addr) (H' : Hp) (L : List Int), ExtN H H' → TabsN (NT K) H' → noT H p = none → H' p = some (.lst ((lostL ns L).map V.int)) → Fnd ns L → Q (.ref p) H'
theorem len_lost_bytes {K : PySem.W.Frag} {w : World} {vs : List V} {H : Hp} {Q : VK} {E : XK} (h : sp_lost_bytes K w vs H Q E) : vs.length = 1 := by
  obtain ⟨_, _, rfl, _⟩ := h
  rfl
end Rl
namespace Rl
open PySem PySem.Spec PyProof.Rows L2 NdefX LamX
/-- what found_rows tells of a place -/
def rowE (ns : List Int) (a : Int) : PyData := .tuple [.int a, match rowAt ns a with
  | some (l, _) => .tuple l
  | none => .none]
def sp_found_rows (K : PySem.W.Frag) (_ : World) : Sp := fun vs H Q _ => ∃ (c : V) (ns : List Int), vs = [c] ∧ Code K H c ns ∧ By ns ∧ ns.length ≤ 1000 ∧ TabsN (NT K) H ∧
  ∀ (p : Addr) (H' : Hp) (xs : List V) (L : List Int), ExtN H H' → TabsN (NT K) H' → noT H p = none → H' p = some (.lst xs) → DpAll K H' xs (L.map (rowE ns)) → Fnd ns L → Q (.ref p) H'
theorem len_found_rows {K : PySem.W.Frag} {w : World} {vs : List V} {H : Hp} {Q : VK} {E : XK} (h : sp_found_rows K w vs H Q E) : vs.length = 1 := by
  obtain ⟨_, _, rfl, _⟩ := h
  rfl
end Rl
namespace Rl
open PySem PySem.Spec PyProof.Rows L2
/-! ## methods, instances made, defs held by a local name -/
section
variable {P : Program} {w : World} {K : PySem.W.Frag} {mg : Str → Option Value} {base : Heap}
/-- a method that may be called, every parameter given -/
structure ClM (P : Program) (w : World) (K : PySem.W.Frag) (mg : Str → Option Value) (base : Heap) (k : Nat) (C : Addr) (m : Str) (sp : Sp) : Prop where
  ex : ∃ (f : Addr) (fd : FuncData) (ps : List Str), FnOk P w K mg base CX0 k f fd ps sp ∧ Cls K C ∧ Meth K C m f ∧ Binds K fd ps []
/-- a class whose instances may be made, its __init__ with every parameter given -/
structure ClK (P : Program) (w : World) (K : PySem.W.Frag) (mg : Str → Option Value) (base : Heap) (k : Nat) (x : Str) (C : Addr) (sp : Sp) : Prop where
  ex : ∃ (f : Addr) (fd : FuncData) (ps : List Str), FnOk P w K mg base CX0 k f fd ps sp ∧ Mk K C f ∧ mg x = some (.ref C) ∧ Binds K fd ps []
end
section
variable {X : Cx} {k j i : Nat} {x : Str} {sp : Sp} {p pos apos : Pos} {o e : Expr} {es : List Expr} {t : TA} {ta : TE}
theorem pe_clm {C : Addr} {m : Str} {pl : Sem Bool} (c : ClM X.prog X.w X.K X.mg X.base k C m sp) (hr : Room j X.A) (hk : k ≤ j) (he : PE X o ta) (ha : PA X (e :: es) t)
    (h1 : starEach (e :: es) X.env = (false, eval e X.env) :: starEach es X.env := by rfl) (h2 : (backTo pos (starEach es X.env)).any (·.1) = false := by rfl)
    (h3 : eval (.Call (.Attribute o m apos) (e :: es) [] pos) X.env = (do
      let ov ← eval o X.env
      standAt apos.atName
      let (f, first) ← holding [ov] (getMethod ov m pl)
      callWith pos f first (backTo pos (starEach (e :: es) X.env)) (backToKw pos (keywordEach [] X.env))) := by rfl) : PE X (.Call (.Attribute o m apos) (e :: es) [] pos) (tMeth C m sp [] E0 ta t) := by
  obtain ⟨f, fd, ps, F, cl, M, b⟩ := c.ex
  exact pe_meth he cl M F (hr.mono hk) b .nil pass0 ha h1 h2 h3
theorem pe_clk {C : Addr} (c : ClK X.prog X.w X.K X.mg X.base k x C sp) (hr : Room j X.A) (hk : k + 1 ≤ j) (hg : Gl X x) (ha : PA X (e :: es) t)
    (hd : (x == ("__debug__" : Str)) = false := by decide) (h1 : starEach (e :: es) X.env = (false, eval e X.env) :: starEach es X.env := by rfl) (h2 : (backTo pos (starEach es X.env)).any (·.1) = false := by rfl) : PE X (.Call (.Name x p) (e :: es) [] pos) (tMake C sp [] E0 t) := by
  obtain ⟨f, fd, ps, F, M, hm, b⟩ := c.ex
  exact pe_make M F (hr.mono hk) hg hm b .nil pass0 ha hd h1 h2
/-- f(e, ..), the slot i holds a def of the top, one of those that D tells -/
def tCallD (K : PySem.W.Frag) (D : Str → Option Sp) (i : Nat) (t : TA) : TE := fun σ H Q => ∃ nm sp, σ[i]? = some (some (.ref (He.ga K nm))) ∧ D nm = some sp ∧ t σ H fun vs H1 => sp (vs ++ []) H1 Q E0
theorem pe_callD {D : Str → Option Sp} (c : ∀ nm sp, D nm = some sp → Cl X.prog X.w X.K X.mg X.base k nm sp ∧ X.mg nm = some (.ref (He.ga X.K nm))) (hr : Room j X.A) (hk : k ≤ j) (hN : X.N[i]? = some x) (hv : Vis X.env.scope x) (ha : PA X (e :: es) t)
    (hd : (x == ("__debug__" : Str)) = false := by decide) (hc : (x == ("__classdict__" : Str)) = false := by decide)
    (h1 : starEach (e :: es) X.env = (false, eval e X.env) :: starEach es X.env := by rfl) (h2 : (backTo pos (starEach es X.env)).any (·.1) = false := by rfl) : PE X (.Call (.Name x p) (e :: es) [] pos) (tCallD X.K D i t) := by
  refine ⟨fun pins s σ H Q I ⟨nm, sp, hs, hD, q⟩ => ?_⟩
  obtain ⟨⟨f, fd, ps, F, hm, kp, b⟩, hm2⟩ := c nm sp hD
  rw [hm] at hm2
  cases hm2
  exact (pe_callL (i := i) (dvs := []) (E := E0) F (hr.mono hk) hN hv kp b .nil pass0 ha hd hc h1 h2).run pins s σ H Q I ⟨hs, q⟩
end
namespace R
section
variable {K : PySem.W.Frag} {σ : L2.St} {H : Hp} {Q : VK} {nx bk ct : L2.St → Hp → Prop} {rt : VK} {ta tv : TE} {f : Str}
theorem fld (q : ta σ H fun x H1 => ∃ a C dx fs v, x = .ref a ∧ H1 a = some (.ins C dx fs) ∧ Cls K C ∧ NoAttr K C f ∧ fs.lookup f = some v ∧ Q v H1) : tFld K ta f σ H Q := q
theorem sfld (q : tv σ H fun y H1 => ta σ H1 fun x H2 => ∃ a C dx fs, x = .ref a ∧ H2 a = some (.ins C dx fs) ∧ Cls K C ∧ NoAttr K C f ∧ fs.length < 1000 ∧ nx σ (upd H2 a (.ins C dx (putF f y fs)))) : sFld K ta tv f ⟨nx, rt, bk, ct⟩ σ H := q
theorem sfldAug {rd : V → V → Hp → VK → Prop} (q : ta σ H fun x H1 => ∃ a C dx fs v, x = .ref a ∧ H1 a = some (.ins C dx fs) ∧ Cls K C ∧ NoAttr K C f ∧ fs.lookup f = some v ∧
  tv σ H1 fun y H2 => rd v y H2 fun z H3 => ∃ dx' fs', H3 a = some (.ins C dx' fs') ∧ fs'.length < 1000 ∧ nx σ (upd H3 a (.ins C dx' (putF f z fs')))) : sFldAug K ta tv rd f ⟨nx, rt, bk, ct⟩ σ H := q
theorem meth {C : Addr} {m : Str} {sp : Sp} {t : TA} (q : ta σ H fun x H1 => ∃ a dx fs, x = .ref a ∧ H1 a = some (.ins C dx fs) ∧ fs.lookup m = none ∧ t σ H1 fun vs H2 => sp (x :: (vs ++ [])) H2 Q E0) : tMeth C m sp [] E0 ta t σ H Q := q
theorem callD {D : Str → Option Sp} {i : Nat} {t : TA} (q : ∃ nm sp, σ[i]? = some (some (.ref (He.ga K nm))) ∧ D nm = some sp ∧ t σ H fun vs H1 => sp (vs ++ []) H1 Q E0) : tCallD K D i t σ H Q := q
end
end R
end Rl
namespace Rl
open PySem PySem.Spec PyProof.Rows L2
/-! ## the old machine, as it is -/
structure Mc where
  bx : List Int
  cells : List Int
  zero : Bool
  less : Bool
  kept : List Int
  places : List Int
  ahead : List Int
  outs : List Int
  place : Int
  fin : Option Str
def Mc.box (m : Mc) (r : Nat) : Int := m.bx.getD r 0
def Mc.put (m : Mc) (r : Nat) (v : Int) : Mc := { m with bx := m.bx.set r v }
def Mc.mark (m : Mc) (z l : Bool) : Mc := { m with zero := z, less := l }
/-- what a row says, its boxes by number -/
inductive Op where
  | halt | back | rest
  | set (r : Nat) (n : Int) | copy (r s : Nat)
  | sum (add : Bool) (r s : Nat)
  | bits (k : Fin 3) (r s : Nat)
  | test (r s : Nat) | testn (r : Nat) (n : Int)
  | load (r s : Nat) | loadn (r : Nat) (n : Int)
  | store (r s : Nat) | storen (r : Nat) (n : Int)
  | go (k : Fin 5) (t : Int)
  | call (t : Int)
  | inn (r : Nat) | out (r : Nat) | keep (r : Nat) | take (r : Nat)
def bxN (r : Nat) : Str := Rl.box (r : Int)
def bitsW : Fin 3 → Str
  | 0 => "and"
  | 1 => "or"
  | 2 => "xor"
def bitsF : Fin 3 → Int → Int → Int
  | 0 => Builtin.bitAnd
  | 1 => Builtin.bitOr
  | 2 => Builtin.bitXor
def goW : Fin 5 → Str
  | 0 => "go"
  | 1 => "zero"
  | 2 => "nonzero"
  | 3 => "less"
  | 4 => "notless"
def goB (m : Mc) : Fin 5 → Bool
  | 0 => true
  | 1 => m.zero
  | 2 => !m.zero
  | 3 => m.less
  | 4 => !m.less
def Op.data : Op → List PyData
  | .halt => [.str "halt"]
  | .back => [.str "back"]
  | .rest => [.str "rest"]
  | .set r n => [.str "set", .str (bxN r), .int n]
  | .copy r s => [.str "copy", .str (bxN r), .str (bxN s)]
  | .sum a r s => [.str (if a then "add" else "sub"), .str (bxN r), .str (bxN s)]
  | .bits k r s => [.str (bitsW k), .str (bxN r), .str (bxN s)]
  | .test r s => [.str "test", .str (bxN r), .str (bxN s)]
  | .testn r n => [.str "testn", .str (bxN r), .int n]
  | .load r s => [.str "load", .str (bxN r), .str (bxN s)]
  | .loadn r n => [.str "loadn", .str (bxN r), .int n]
  | .store r s => [.str "store", .str (bxN r), .str (bxN s)]
  | .storen r n => [.str "storen", .str (bxN r), .int n]
  | .go k t => [.str (goW k), .int t]
  | .call t => [.str "call", .int t]
  | .inn r => [.str "in", .str (bxN r)]
  | .out r => [.str "out", .str (bxN r)]
  | .keep r => [.str "keep", .str (bxN r)]
  | .take r => [.str "take", .str (bxN r)]
/-- which def does it -/
def Op.doer : Op → Str
  | .halt => "done_alone"
  | .back => "done_alone"
  | .rest => "done_alone"
  | .set .. => "done_set"
  | .copy .. => "done_set"
  | .sum .. => "done_sum"
  | .bits .. => "done_bits"
  | .test .. => "done_test"
  | .testn .. => "done_test"
  | .load .. => "done_load"
  | .loadn .. => "done_load"
  | .store .. => "done_store"
  | .storen .. => "done_store"
  | .go .. => "done_go"
  | .call .. => "done_call"
  | .inn .. => "done_in"
  | .out .. => "done_out"
  | .keep .. => "done_keep"
  | .take .. => "done_take"
/-- its boxes are boxes, its numbers bytes -/
def Op.Ok : Op → Prop
  | .halt => True
  | .back => True
  | .rest => True
  | .set r n => r < 4 ∧ 0 ≤ n ∧ n < 256
  | .copy r s => r < 4 ∧ s < 4
  | .sum _ r s => r < 4 ∧ s < 4
  | .bits _ r s => r < 4 ∧ s < 4
  | .test r s => r < 4 ∧ s < 4
  | .testn r n => r < 4 ∧ 0 ≤ n ∧ n < 256
  | .load r s => r < 4 ∧ s < 4
  | .loadn r n => r < 4 ∧ 0 ≤ n ∧ n < 256
  | .store r s => r < 4 ∧ s < 4
  | .storen r n => r < 4 ∧ 0 ≤ n ∧ n < 256
  | .go _ t => 0 ≤ t ∧ t < 256
  | .call t => 0 ≤ t ∧ t < 256
  | .inn r => r < 4
  | .out r => r < 4
  | .keep r => r < 4
  | .take r => r < 4
def Mc.act (m : Mc) : Op → Mc
  | .halt => { m with fin := some "halt" }
  | .back => if m.places = [] then { m with fin := some "bare" } else { m with place := m.places.getD (m.places.length - 1) 0, places := m.places.dropLast }
  | .rest => m
  | .set r n => m.put r n
  | .copy r s => m.put r (m.box s)
  | .sum a r s => (m.put r ((if a then m.box r + m.box s else m.box r - m.box s) % 256)).mark (decide ((if a then m.box r + m.box s else m.box r - m.box s) % 256 = 0)) (!decide (0 ≤ (if a then m.box r + m.box s else m.box r - m.box s) ∧ (if a then m.box r + m.box s else m.box r - m.box s) < 256))
  | .bits k r s => (m.put r (bitsF k (m.box r) (m.box s))).mark (decide (bitsF k (m.box r) (m.box s) = 0)) false
  | .test r s => m.mark (decide (m.box r = m.box s)) (decide (m.box r < m.box s))
  | .testn r n => m.mark (decide (m.box r = n)) (decide (m.box r < n))
  | .load r s => m.put r (m.cells.getD (m.box s % 64).toNat 0)
  | .loadn r n => m.put r (m.cells.getD (n % 64).toNat 0)
  | .store r s => { m with cells := m.cells.set (m.box r % 64).toNat (m.box s) }
  | .storen r n => { m with cells := m.cells.set (n % 64).toNat (m.box r) }
  | .go k t => if goB m k then { m with place := t } else m
  | .call t => if m.places.length = 16 then { m with fin := some "deep" } else { m with places := m.places ++ [m.place], place := t }
  | .inn r => if m.ahead = [] then m.put r 0 else { m.put r (m.ahead.getD 0 0) with ahead := m.ahead.drop 1 }
  | .out r => { m with outs := m.outs ++ [m.box r] }
  | .keep r => if m.kept.length = 16 then { m with fin := some "deep" } else { m with kept := m.kept ++ [m.box r] }
  | .take r => if m.kept = [] then { m with fin := some "bare" } else { m.put r (m.kept.getD (m.kept.length - 1) 0) with kept := m.kept.dropLast }
/-- what holds of it at any time -/
structure Mc.Ok (m : Mc) : Prop where
  bl : m.bx.length = 4
  bb : By m.bx
  cl : m.cells.length = 64
  cb : By m.cells
  kl : m.kept.length ≤ 16
  kb : By m.kept
  pl : m.places.length ≤ 16
  ab : By m.ahead
/-- a new one -/
def Mc.new (ahead : List Int) : Mc := ⟨[0, 0, 0, 0], List.replicate 64 0, false, false, [], [], ahead, [], 0, none⟩
/-- every row is one of these -/
theorem row_op {ns : List Int} {a m : Int} {l : List PyData} (hb : By ns) (h : rowAt ns a = some (l, m)) : ∃ op : Op, l = op.data ∧ op.Ok := by
  have r := row_range h
  obtain ⟨b, e⟩ : ∃ b, ns[a.toNat]? = some b := ⟨_, List.getElem?_eq_getElem (by omega)⟩
  have hb2 := hb b (List.mem_of_getElem? e)
  rw [rowAt_in ⟨r.1, r.2.1⟩ e] at h
  obtain ⟨z, hz, hl⟩ : ∃ z, (0 ≤ z ∧ z < 256) ∧ rowD b z = some l := by
    split at h
    · split at h
      · rename_i h2
        refine ⟨ns.getD (a.toNat + 1) 0, ?_, ?_⟩
        · rw [List.getD_eq_getElem?_getD, List.getElem?_eq_getElem (by omega)]
          exact hb _ (List.getElem_mem _)
        · cases g : rowD b (ns.getD (a.toNat + 1) 0) with
          | none => rw [g] at h; cases h
          | some l2 =>
            rw [g] at h
            cases h
            rfl
      · cases h
    · refine ⟨0, by decide, ?_⟩
      cases g : rowD b 0 with
      | none => rw [g] at h; cases h
      | some l2 =>
        rw [g] at h
        cases h
        rfl
  have hr : (b / 4 % 4).toNat < 4 := by omega
  have hs : (b % 4).toNat < 4 := by omega
  have er : bxN (b / 4 % 4).toNat = boxR b := by
    unfold bxN boxR
    rw [Int.toNat_of_nonneg (by omega)]
  have es : bxN (b % 4).toNat = boxS b := by
    unfold bxN boxS
    rw [Int.toNat_of_nonneg (by omega)]
  cases hd : dec b with
  | none =>
    unfold rowD at hl
    rw [hd] at hl
    cases hl
  | some p =>
    obtain ⟨wd, sh⟩ := p
    rw [rowD_dec hd] at hl
    obtain rfl := Option.some.inj hl
    have key : ∀ b : Fin 256, (match dec (b.val : Int) with
      | some (w, .e) => decide (w ∈ (["halt", "back", "rest"] : List Str))
      | some (w, .rs) => decide (w ∈ (["copy", "add", "sub", "and", "or", "xor", "test", "load", "store"] : List Str))
      | some (w, .rn) => decide (w ∈ (["set", "testn", "loadn", "storen"] : List Str))
      | some (w, .n) => decide (w ∈ (["go", "zero", "nonzero", "less", "notless", "call"] : List Str))
      | some (w, .r) => decide (w ∈ (["in", "out", "keep", "take"] : List Str))
      | none => true) = true := by decide +kernel
    have k := key ⟨b.toNat, by omega⟩
    have e2 : ((b.toNat : Nat) : Int) = b := Int.toNat_of_nonneg hb2.1
    simp only [e2, hd] at k
    cases sh with
    | e =>
      have k2 := of_decide_eq_true k
      simp only [List.mem_cons, List.not_mem_nil, or_false] at k2
      rcases k2 with rfl | rfl | rfl
      · exact ⟨.halt, rfl, True.intro⟩
      · exact ⟨.back, rfl, True.intro⟩
      · exact ⟨.rest, rfl, True.intro⟩
    | rs =>
      have k2 := of_decide_eq_true k
      simp only [List.mem_cons, List.not_mem_nil, or_false] at k2
      unfold restD
      rw [← er, ← es]
      rcases k2 with rfl | rfl | rfl | rfl | rfl | rfl | rfl | rfl | rfl
      · exact ⟨.copy _ _, rfl, hr, hs⟩
      · exact ⟨.sum true _ _, rfl, hr, hs⟩
      · exact ⟨.sum false _ _, rfl, hr, hs⟩
      · exact ⟨.bits 0 _ _, rfl, hr, hs⟩
      · exact ⟨.bits 1 _ _, rfl, hr, hs⟩
      · exact ⟨.bits 2 _ _, rfl, hr, hs⟩
      · exact ⟨.test _ _, rfl, hr, hs⟩
      · exact ⟨.load _ _, rfl, hr, hs⟩
      · exact ⟨.store _ _, rfl, hr, hs⟩
    | rn =>
      have k2 := of_decide_eq_true k
      simp only [List.mem_cons, List.not_mem_nil, or_false] at k2
      unfold restD
      rw [← er]
      rcases k2 with rfl | rfl | rfl | rfl
      · exact ⟨.set _ _, rfl, hr, hz⟩
      · exact ⟨.testn _ _, rfl, hr, hz⟩
      · exact ⟨.loadn _ _, rfl, hr, hz⟩
      · exact ⟨.storen _ _, rfl, hr, hz⟩
    | n =>
      have k2 := of_decide_eq_true k
      simp only [List.mem_cons, List.not_mem_nil, or_false] at k2
      unfold restD
      rcases k2 with rfl | rfl | rfl | rfl | rfl | rfl
      · exact ⟨.go 0 _, rfl, hz⟩
      · exact ⟨.go 1 _, rfl, hz⟩
      · exact ⟨.go 2 _, rfl, hz⟩
      · exact ⟨.go 3 _, rfl, hz⟩
      · exact ⟨.go 4 _, rfl, hz⟩
      · exact ⟨.call _, rfl, hz⟩
    | r =>
      have k2 := of_decide_eq_true k
      simp only [List.mem_cons, List.not_mem_nil, or_false] at k2
      unfold restD
      rw [← er]
      rcases k2 with rfl | rfl | rfl | rfl
      · exact ⟨.inn _, rfl, hr⟩
      · exact ⟨.out _, rfl, hr⟩
      · exact ⟨.keep _, rfl, hr⟩
      · exact ⟨.take _, rfl, hr⟩
end Rl
namespace Rl
open PySem PySem.Spec PyProof.Rows L2
/-! ## the old machine as an instance -/
/-- where its things stand: itself, its dict, its boxes, cells, kept bytes, places, inputs ahead, outs -/
structure Adr where
  o : Addr
  dx : Addr
  b : Addr
  c : Addr
  k : Addr
  p : Addr
  a : Addr
  u : Addr
def Adr.mem (A : Adr) (x : Addr) : Prop := x = A.o ∨ x = A.b ∨ x = A.c ∨ x = A.k ∨ x = A.p ∨ x = A.a ∨ x = A.u
/-- all else stays -/
def FxA (A : Adr) (H H' : Hp) : Prop := ∀ x v, H x = some v → ¬ A.mem x → H' x = some v
def endV : Option Str → V
  | some s => .str s
  | none => .non
def boxK (l : List Int) : List (Key × V) := [(.inr "a", .int (l.getD 0 0)), (.inr "b", .int (l.getD 1 0)), (.inr "c", .int (l.getD 2 0)), (.inr "d", .int (l.getD 3 0))]
def flds (A : Adr) (m : Mc) : List (Str × V) := [("boxes", .ref A.b), ("cells", .ref A.c), ("zero", .bl m.zero), ("less", .bl m.less), ("kept", .ref A.k), ("places", .ref A.p), ("ahead", .ref A.a), ("outs", .ref A.u), ("place", .int m.place), ("end", endV m.fin)]
abbrev oldF : List Str := ["boxes", "cells", "zero", "less", "kept", "places", "ahead", "outs", "place", "end"]
structure OldC (K : PySem.W.Frag) : Prop where
  cls : Cls K (He.ga K "Old")
  no : ∀ f ∈ oldF, NoAttr K (He.ga K "Old") f
structure IM (K : PySem.W.Frag) (H : Hp) (A : Adr) (m : Mc) : Prop where
  ok : m.Ok
  o : H A.o = some (.ins (He.ga K "Old") A.dx (flds A m))
  b : H A.b = some (.dK (boxK m.bx))
  c : H A.c = some (.lst (m.cells.map V.int))
  k : H A.k = some (.lst (m.kept.map V.int))
  p : H A.p = some (.lst (m.places.map V.int))
  a : H A.a = some (.lst (m.ahead.map V.int))
  u : H A.u = some (.lst (m.outs.map V.int))
  nd : [A.c, A.k, A.p, A.a, A.u].Nodup
section
variable {K : PySem.W.Frag} {H H' H'' : Hp} {A : Adr} {m m' : Mc}
theorem FxA.refl (A : Adr) (H : Hp) : FxA A H H := fun _ _ h _ => h
theorem FxA.trans (h : FxA A H H') (g : FxA A H' H'') : FxA A H H'' := fun x v e n => g x v (h x v e n) n
theorem FxA.of (h : Same H H') : FxA A H H' := fun x v e _ => h x v e
theorem FxA.upd {x : Addr} {o : HO} (h : FxA A H H') (n : A.mem x) : FxA A H (upd H' x o) := fun y v e ny => upd_mut (fun z => ny (z ▸ n)) (h y v e ny)
theorem IM.mem {x : Addr} (I : IM K H A m) (h : A.mem x) : ∃ v, H x = some v := by
  rcases h with rfl | rfl | rfl | rfl | rfl | rfl | rfl
  · exact ⟨_, I.o⟩
  · exact ⟨_, I.b⟩
  · exact ⟨_, I.c⟩
  · exact ⟨_, I.k⟩
  · exact ⟨_, I.p⟩
  · exact ⟨_, I.a⟩
  · exact ⟨_, I.u⟩
theorem IM.out {x : Addr} (I : IM K H A m) (h : H x = none) : ¬ A.mem x := fun z => by
  obtain ⟨v, e⟩ := I.mem z
  rw [h] at e
  cases e
theorem IM.keep (I : IM K H A m) (s : Same H H') : IM K H' A m := ⟨I.ok, s _ _ I.o, s _ _ I.b, s _ _ I.c, s _ _ I.k, s _ _ I.p, s _ _ I.a, s _ _ I.u, I.nd⟩
theorem IM.ne (I : IM K H A m) : A.c ≠ A.k ∧ A.c ≠ A.p ∧ A.c ≠ A.a ∧ A.c ≠ A.u ∧ A.k ≠ A.p ∧ A.k ≠ A.a ∧ A.k ≠ A.u ∧ A.p ≠ A.a ∧ A.p ≠ A.u ∧ A.a ≠ A.u := by
  have n := I.nd
  simp only [List.nodup_cons, List.mem_cons, List.not_mem_nil, or_false, not_or] at n
  obtain ⟨⟨n1, n2, n3, n4⟩, ⟨n5, n6, n7⟩, ⟨n8, n9⟩, n10, _⟩ := n
  exact ⟨n1, n2, n3, n4, n5, n6, n7, n8, n9, n10⟩
theorem ne_kind {x y : Addr} {v w : HO} (h : H x = some v) (g : H y = some w) (n : v ≠ w) : x ≠ y := fun z => by
  rw [z, g] at h
  exact n (Option.some.inj h).symm
/-- marks, place, end: what stands in the instance itself -/
theorem IM.self (I : IM K H A m) (ok : m'.Ok) (e1 : m'.bx = m.bx) (e2 : m'.cells = m.cells) (e3 : m'.kept = m.kept) (e4 : m'.places = m.places) (e5 : m'.ahead = m.ahead) (e6 : m'.outs = m.outs) : IM K (upd H A.o (.ins (He.ga K "Old") A.dx (flds A m'))) A m' := by
  refine ⟨ok, upd_same, ?_, ?_, ?_, ?_, ?_, ?_, I.nd⟩
  · rw [e1]; exact upd_mut (ne_kind I.b I.o fun z => nomatch z) I.b
  · rw [e2]; exact upd_mut (ne_kind I.c I.o fun z => nomatch z) I.c
  · rw [e3]; exact upd_mut (ne_kind I.k I.o fun z => nomatch z) I.k
  · rw [e4]; exact upd_mut (ne_kind I.p I.o fun z => nomatch z) I.p
  · rw [e5]; exact upd_mut (ne_kind I.a I.o fun z => nomatch z) I.a
  · rw [e6]; exact upd_mut (ne_kind I.u I.o fun z => nomatch z) I.u
theorem IM.putB (I : IM K H A m) {bx : List Int} (ok : ({ m with bx := bx } : Mc).Ok) : IM K (upd H A.b (.dK (boxK bx))) A { m with bx := bx } :=
  ⟨ok, upd_mut (ne_kind I.o I.b fun z => nomatch z) I.o, upd_same, upd_mut (ne_kind I.c I.b fun z => nomatch z) I.c, upd_mut (ne_kind I.k I.b fun z => nomatch z) I.k, upd_mut (ne_kind I.p I.b fun z => nomatch z) I.p, upd_mut (ne_kind I.a I.b fun z => nomatch z) I.a, upd_mut (ne_kind I.u I.b fun z => nomatch z) I.u, I.nd⟩
theorem IM.putC (I : IM K H A m) {xs : List Int} (ok : ({ m with cells := xs } : Mc).Ok) : IM K (upd H A.c (.lst (xs.map V.int))) A { m with cells := xs } := by
  obtain ⟨n1, n2, n3, n4, n5, n6, n7, n8, n9, n10⟩ := I.ne
  exact ⟨ok, upd_mut (ne_kind I.o I.c fun z => nomatch z) I.o, upd_mut (ne_kind I.b I.c fun z => nomatch z) I.b, upd_same, upd_mut n1.symm I.k, upd_mut n2.symm I.p, upd_mut n3.symm I.a, upd_mut n4.symm I.u, I.nd⟩
theorem IM.putK (I : IM K H A m) {xs : List Int} (ok : ({ m with kept := xs } : Mc).Ok) : IM K (upd H A.k (.lst (xs.map V.int))) A { m with kept := xs } := by
  obtain ⟨n1, n2, n3, n4, n5, n6, n7, n8, n9, n10⟩ := I.ne
  exact ⟨ok, upd_mut (ne_kind I.o I.k fun z => nomatch z) I.o, upd_mut (ne_kind I.b I.k fun z => nomatch z) I.b, upd_mut n1 I.c, upd_same, upd_mut n5.symm I.p, upd_mut n6.symm I.a, upd_mut n7.symm I.u, I.nd⟩
theorem IM.putP (I : IM K H A m) {xs : List Int} (ok : ({ m with places := xs } : Mc).Ok) : IM K (upd H A.p (.lst (xs.map V.int))) A { m with places := xs } := by
  obtain ⟨n1, n2, n3, n4, n5, n6, n7, n8, n9, n10⟩ := I.ne
  exact ⟨ok, upd_mut (ne_kind I.o I.p fun z => nomatch z) I.o, upd_mut (ne_kind I.b I.p fun z => nomatch z) I.b, upd_mut n2 I.c, upd_mut n5 I.k, upd_same, upd_mut n8.symm I.a, upd_mut n9.symm I.u, I.nd⟩
theorem IM.putA (I : IM K H A m) {xs : List Int} (ok : ({ m with ahead := xs } : Mc).Ok) : IM K (upd H A.a (.lst (xs.map V.int))) A { m with ahead := xs } := by
  obtain ⟨n1, n2, n3, n4, n5, n6, n7, n8, n9, n10⟩ := I.ne
  exact ⟨ok, upd_mut (ne_kind I.o I.a fun z => nomatch z) I.o, upd_mut (ne_kind I.b I.a fun z => nomatch z) I.b, upd_mut n3 I.c, upd_mut n6 I.k, upd_mut n8 I.p, upd_same, upd_mut n10.symm I.u, I.nd⟩
theorem IM.putU (I : IM K H A m) {xs : List Int} (ok : ({ m with outs := xs } : Mc).Ok) : IM K (upd H A.u (.lst (xs.map V.int))) A { m with outs := xs } := by
  obtain ⟨n1, n2, n3, n4, n5, n6, n7, n8, n9, n10⟩ := I.ne
  exact ⟨ok, upd_mut (ne_kind I.o I.u fun z => nomatch z) I.o, upd_mut (ne_kind I.b I.u fun z => nomatch z) I.b, upd_mut n4 I.c, upd_mut n7 I.k, upd_mut n9 I.p, upd_mut n10 I.a, upd_same, I.nd⟩
theorem Adr.mo : A.mem A.o := .inl rfl
theorem Adr.mb : A.mem A.b := .inr (.inl rfl)
theorem Adr.mc : A.mem A.c := .inr (.inr (.inl rfl))
theorem Adr.mk' : A.mem A.k := .inr (.inr (.inr (.inl rfl)))
theorem Adr.mp : A.mem A.p := .inr (.inr (.inr (.inr (.inl rfl))))
theorem Adr.ma : A.mem A.a := .inr (.inr (.inr (.inr (.inr (.inl rfl)))))
theorem Adr.mu : A.mem A.u := .inr (.inr (.inr (.inr (.inr (.inr rfl)))))
end
theorem boxK_get {r : Nat} (l : List Int) (h : r < 4) : valV (boxK l) (.inr (bxN r)) = some (.int (l.getD r 0)) := by
  match r, h with
  | 0, _ => rfl
  | 1, _ => rfl
  | 2, _ => rfl
  | 3, _ => rfl
theorem boxK_put {r : Nat} {l : List Int} (v : Int) (h : r < 4) (hl : l.length = 4) : putK (boxK l) (.inr (bxN r)) (.int v) = boxK (l.set r v) := by
  match l, hl with
  | [x0, x1, x2, x3], _ =>
    match r, h with
    | 0, _ => rfl
    | 1, _ => rfl
    | 2, _ => rfl
    | 3, _ => rfl
theorem Mc.Ok.put {m : Mc} (h : m.Ok) {r : Nat} {v : Int} (h0 : 0 ≤ v) (h1 : v < 256) : (m.put r v).Ok := ⟨by rw [← h.bl]; exact List.length_set, fun n hn => (List.mem_or_eq_of_mem_set hn).elim (h.bb n) fun z => by rw [z]; exact ⟨h0, h1⟩, h.cl, h.cb, h.kl, h.kb, h.pl, h.ab⟩
theorem Mc.Ok.mark {m : Mc} (h : m.Ok) (z l : Bool) : (m.mark z l).Ok := ⟨h.bl, h.bb, h.cl, h.cb, h.kl, h.kb, h.pl, h.ab⟩
theorem Mc.Ok.box {m : Mc} (h : m.Ok) {r : Nat} (hr : r < 4) : 0 ≤ m.box r ∧ m.box r < 256 := by
  unfold Mc.box
  have e : r < m.bx.length := by rw [h.bl]; exact hr
  rw [List.getD_eq_getElem?_getD, List.getElem?_eq_getElem e]
  exact h.bb _ (List.getElem_mem e)
theorem Mc.Ok.fin {m : Mc} (h : m.Ok) (e : Option Str) : ({ m with fin := e } : Mc).Ok := ⟨h.bl, h.bb, h.cl, h.cb, h.kl, h.kb, h.pl, h.ab⟩
theorem Mc.Ok.at {m : Mc} (h : m.Ok) (e : Int) : ({ m with place := e } : Mc).Ok := ⟨h.bl, h.bb, h.cl, h.cb, h.kl, h.kb, h.pl, h.ab⟩
/-- a doer's promise: what the row says is done -/
def spDo (nm : Str) (K : PySem.W.Frag) (_ : World) : Sp := fun vs H Q _ => ∃ (A : Adr) (m : Mc) (op : Op) (row : V), vs = [.ref A.o, row] ∧ IM K H A m ∧ Dp K H row (.tuple op.data) ∧ op.doer = nm ∧ op.Ok ∧ (m.outs.length < sizeLine ∧ m.ahead.length < 2 ^ 62) ∧ ∀ H', IM K H' A (m.act op) → FxA A H H' → Q .non H'
theorem len_do {nm : Str} {K : PySem.W.Frag} {w : World} {vs : List V} {H : Hp} {Q : VK} {E : XK} (h : spDo nm K w vs H Q E) : vs.length = 2 := by
  obtain ⟨_, _, _, _, rfl, _⟩ := h
  rfl
namespace R
section
variable {K : PySem.W.Frag} {H : Hp} {A : Adr} {m : Mc} {Q : VK} {f : Str} {v : V}
theorem fldI {F' : V → Prop} (F : OldC K) (I : IM K H A m) (hl : (flds A m).lookup f = some v) (hf : f ∈ oldF) (q : F' v) : ∃ a C dx fs v, V.ref A.o = .ref a ∧ H a = some (.ins C dx fs) ∧ Cls K C ∧ NoAttr K C f ∧ fs.lookup f = some v ∧ F' v :=
  ⟨A.o, _, _, _, v, rfl, I.o, F.cls, F.no f hf, hl, q⟩
theorem sfldI {F' : Hp → Prop} {m' : Mc} (F : OldC K) (I : IM K H A m) (hf : f ∈ oldF) (hp : putF f v (flds A m) = flds A m') (q : F' (upd H A.o (.ins (He.ga K "Old") A.dx (flds A m')))) : ∃ a C dx fs, V.ref A.o = .ref a ∧ H a = some (.ins C dx fs) ∧ Cls K C ∧ NoAttr K C f ∧ fs.length < 1000 ∧ F' (upd H a (.ins C dx (putF f v fs))) :=
  ⟨A.o, _, _, _, rfl, I.o, F.cls, F.no f hf, (by decide : 10 < 1000), by rw [hp]; exact q⟩
theorem boxGet {r : Nat} {F' : V → Prop} (I : IM K H A m) (hr : r < 4) (q : F' (.int (m.box r))) : ∃ a v, V.ref A.b = .ref a ∧ DGet H a (.str (bxN r)) (some v) ∧ F' v :=
  ⟨A.b, _, rfl, .inl ⟨_, .inr (bxN r), .inl I.b, rfl, (boxK_get m.bx hr).symm⟩, q⟩
theorem boxPut {r : Nat} {n : Int} {F' : Hp → Prop} (I : IM K H A m) (hr : r < 4) (q : F' (upd H A.b (.dK (boxK (m.bx.set r n))))) : ∃ a H4, V.ref A.b = .ref a ∧ DPut H a (.str (bxN r)) (.int n) H4 ∧ F' H4 :=
  ⟨A.b, _, rfl, .inl ⟨_, .inr (bxN r), I.b, rfl, (by decide : 4 < sizeLine), rfl⟩, by rw [boxK_put n hr I.ok.bl]; exact q⟩
end
end R
end Rl
namespace Rl
open PySem PySem.Spec PyProof.Rows L2
/-! ## runs of the old machine -/
open Classical in
/-- the row at an address, as an operation -/
noncomputable def opAt (ns : List Int) (a : Int) : Option (Op × Int) := match rowAt ns a with
  | some (l, n) => if h : ∃ op : Op, l = op.data ∧ op.Ok then some (h.choose, n) else none
  | none => none
theorem opAt_some {ns : List Int} {a n : Int} {l : List PyData} (hb : By ns) (h : rowAt ns a = some (l, n)) : ∃ op, opAt ns a = some (op, n) ∧ l = op.data ∧ op.Ok := by
  have e := row_op hb h
  refine ⟨e.choose, ?_, e.choose_spec.1, e.choose_spec.2⟩
  unfold opAt
  rw [h]
  exact dif_pos e
theorem opAt_none {ns : List Int} {a : Int} (h : rowAt ns a = none) : opAt ns a = none := by
  unfold opAt
  rw [h]
/-- a turn -/
noncomputable def stepM (ns : List Int) (steps : Int) (s : Mc × List Int) : Mc × List Int :=
  if ((s.2 ++ [s.1.place]).length : Int) > steps then ({ s.1 with fin := some "late" }, s.2 ++ [s.1.place])
  else match opAt ns s.1.place with
    | none => ({ s.1 with fin := some "broken" }, s.2 ++ [s.1.place])
    | some (op, n) => (({ s.1 with place := s.1.place + n } : Mc).act op, s.2 ++ [s.1.place])
noncomputable def runN (ns : List Int) (steps : Int) : Nat → Mc × List Int → Mc × List Int
  | 0, s => s
  | k + 1, s => if s.1.fin.isSome then s else runN ns steps k (stepM ns steps s)
noncomputable def runOf (ns is : List Int) (steps : Int) : Mc × List Int := runN ns steps (steps.toNat + 2) (Mc.new is, [])
def sp_Old_marks (K : PySem.W.Frag) (_ : World) : Sp := fun vs H Q _ => ∃ (A : Adr) (m : Mc) (z l : Bool), vs = [.ref A.o, .bl z, .bl l] ∧ IM K H A m ∧ ∀ H', IM K H' A (m.mark z l) → FxA A H H' → Q .non H'
def sp_Old_init (K : PySem.W.Frag) (_ : World) : Sp := fun vs H Q _ => ∃ (o dx : Addr) (c : V) (is : List Int), vs = [.ref o, c] ∧ H o = some (.ins (He.ga K "Old") dx []) ∧ Code K H c is ∧ By is ∧
  ∀ (A : Adr) (H' : Hp), A.o = o → IM K H' A (Mc.new is) → (∀ x v, H x = some v → x ≠ o → H' x = some v) → (∀ x, A.mem x → x ≠ o → H x = none) → Q .non H'
def sp_done_alone := spDo "done_alone"
def sp_done_set := spDo "done_set"
def sp_done_sum := spDo "done_sum"
def sp_done_bits := spDo "done_bits"
def sp_done_test := spDo "done_test"
def sp_done_load := spDo "done_load"
def sp_done_store := spDo "done_store"
def sp_done_go := spDo "done_go"
def sp_done_call := spDo "done_call"
def sp_done_in := spDo "done_in"
def sp_done_out := spDo "done_out"
def sp_done_keep := spDo "done_keep"
def sp_done_take := spDo "done_take"
def doers : List Str := ["done_alone", "done_set", "done_sum", "done_bits", "done_test", "done_load", "done_store", "done_go", "done_call", "done_in", "done_out", "done_keep", "done_take"]
def DD (K : PySem.W.Frag) (w : World) : Str → Option Sp := fun nm => if nm ∈ doers then some (spDo nm K w) else none
abbrev doersT : List (Str × Str) := [("halt", "done_alone"), ("back", "done_alone"), ("rest", "done_alone"), ("set", "done_set"), ("copy", "done_set"), ("add", "done_sum"), ("sub", "done_sum"), ("and", "done_bits"), ("or", "done_bits"), ("xor", "done_bits"), ("test", "done_test"), ("testn", "done_test"), ("load", "done_load"), ("loadn", "done_load"), ("store", "done_store"), ("storen", "done_store"), ("go", "done_go"), ("zero", "done_go"), ("nonzero", "done_go"), ("less", "done_go"), ("notless", "done_go"), ("call", "done_call"), ("in", "done_in"), ("out", "done_out"), ("keep", "done_keep"), ("take", "done_take")]
def doersK (K : PySem.W.Frag) : List (Key × V) := doersT.map fun p => (Sum.inr p.1, .ref (He.ga K p.2))
structure OldF (K : PySem.W.Frag) (w : World) : Prop where
  mach : MachC K w
  old : OldC K
  doers : KD K w (He.ga K "DOERS") (doersK K)
/-- a run is asked: a code, inputs, steps -/
structure RunA (K : PySem.W.Frag) (H : Hp) (c d : V) (ns is : List Int) (steps : Int) : Prop where
  c : Code K H c ns
  cb : By ns
  d : Code K H d is
  db : By is
  cl : ns.length ≤ 1000
  dl : is.length ≤ 1000
  s0 : 0 ≤ steps
  s1 : steps ≤ 100000
def sp_whole_run (K : PySem.W.Frag) (_ : World) : Sp := fun vs H Q _ => ∃ (c d : V) (ns is : List Int) (steps : Int), vs = [c, d, .int steps] ∧ RunA K H c d ns is steps ∧
  ∀ (p e : Addr) (A : Adr) (H' : Hp), Same H H' → H' p = some (.tup [.ref A.o, .ref e]) → IM K H' A (runOf ns is steps).1 → H' e = some (.lst ((runOf ns is steps).2.map V.int)) → H p = none → H e = none → (∀ x, A.mem x → H x = none) → Q (.ref p) H'
def sp_run (K : PySem.W.Frag) (_ : World) : Sp := fun vs H Q _ => ∃ (c d : V) (ns is : List Int) (steps : Int), vs = [c, d, .int steps] ∧ RunA K H c d ns is steps ∧
  ∀ (p u : Addr) (H' : Hp), Same H H' → H' p = some (.tup [endV (runOf ns is steps).1.fin, .ref u]) → H' u = some (.lst ((runOf ns is steps).1.outs.map V.int)) → H p = none → H u = none → Q (.ref p) H'
def sp_traced (K : PySem.W.Frag) (_ : World) : Sp := fun vs H Q _ => ∃ (c d : V) (ns is : List Int) (steps : Int), vs = [c, d, .int steps] ∧ RunA K H c d ns is steps ∧
  ∀ (e : Addr) (H' : Hp), Same H H' → H' e = some (.lst ((runOf ns is steps).2.map V.int)) → H e = none → Q (.ref e) H'
end Rl
namespace Rl
open PySem PySem.Spec PyProof.Rows L2
/-- short_row: slots 0 first, 1 kind, 2 box, 3 last -/
def t_short_row (K : PySem.W.Frag) (w : World) : TS :=
  (tSeq (tPar3 1 2 3 (tCons (tOp (rShrA) (tVar 0) (tC (.int 4))) (tCons (tOp (rIx K) (tC (.str "abcd")) (tOp (rAndA) (tOp (rShrA) (tVar 0) (tC (.int 2))) (tC (.int 3)))) (tCons (tOp (rAndA) (tVar 0) (tC (.int 3))) tNil)))) (tSeq (tIfS (tTest (tOp (rLtA) (tVar 0) (tCB (rLenA K) (tCons (tC (.ref (He.ga K "ALONE"))) tNil)))) (tRet (tTup (tCons (tOp (rIx K) (tC (.ref (He.ga K "ALONE"))) (tVar 0)) tNil))) tNext) (tSeq (tIfS (tTest (tOp (rEqA K) (tVar 1) (tC (.int 15)))) (tRet (tTup (tCons (tOp (rIx K) (tC (.ref (He.ga K "SINGLE"))) (tVar 3)) (tCons (tVar 2) tNil)))) tNext) (tSeq (tIfS (tTest (tOp (rInKD K w) (tVar 1) (tC (.ref (He.ga K "WORDS_OF_PAIRS"))))) (tRet (tTup (tCons (tOp (rIxKD K w) (tC (.ref (He.ga K "WORDS_OF_PAIRS"))) (tVar 1)) (tCons (tVar 2) (tCons (tOp (rIx K) (tC (.str "abcd")) (tVar 3)) tNil))))) tNext) (tRet (tC .non))))))
abbrev N_short_row : List Str := ["first", "kind", "box", "last"]

/-- long_row: slots 0 first, 1 n, 2 kind, 3 box, 4 last -/
def t_long_row (K : PySem.W.Frag) (w : World) : TS :=
  (tSeq (tPar3 2 3 4 (tCons (tOp (rShrA) (tVar 0) (tC (.int 4))) (tCons (tOp (rIx K) (tC (.str "abcd")) (tOp (rAndA) (tOp (rShrA) (tVar 0) (tC (.int 2))) (tC (.int 3)))) (tCons (tOp (rAndA) (tVar 0) (tC (.int 15))) tNil)))) (tSeq (tIfS (tAnd (tTest (tOp (rEqA K) (tVar 2) (tC (.int 14)))) (tTest (tOp (rLtA) (tVar 4) (tCB (rLenA K) (tCons (tC (.ref (He.ga K "TARGETS"))) tNil))))) (tRet (tTup (tCons (tOp (rIx K) (tC (.ref (He.ga K "TARGETS"))) (tVar 4)) (tCons (tVar 1) tNil)))) tNext) (tSeq (tIfS (tAnd (tTest (tOp (rInKD K w) (tVar 2) (tC (.ref (He.ga K "WORDS_OF_NUMBERED"))))) (tTest (tOp (rEqA K) (tOp (rAndA) (tVar 4) (tC (.int 3))) (tC (.int 0))))) (tRet (tTup (tCons (tOp (rIxKD K w) (tC (.ref (He.ga K "WORDS_OF_NUMBERED"))) (tVar 2)) (tCons (tVar 3) (tCons (tVar 1) tNil))))) tNext) (tRet (tC .non)))))
abbrev N_long_row : List Str := ["first", "n", "kind", "box", "last"]

/-- row_at: slots 0 code, 1 address, 2 row -/
def t_row_at (K : PySem.W.Frag) (w : World) : TS :=
  (tSeq (tIfS (tNot (tTest (tChain (rLeA) (rLtA) (tC (.int 0)) (tVar 1) (tCB (rLenA K) (tCons (tVar 0) tNil))))) (tRet (tC .non)) tNext) (tSeq (tAsg (tCall (sp_short_row K w) [] E0 (tCons (tOp (rIx K) (tVar 0) (tVar 1)) tNil)) (gName 2)) (tSeq (tIfS (tTest (tOp (rNotN) (tVar 2) (tC .non))) (tRet (tTup (tCons (tVar 2) (tCons (tC (.int 1)) tNil)))) tNext) (tSeq (tAsg (tIf (tTest (tOp (rLtA) (tOp (rAddA K) (tVar 1) (tC (.int 1))) (tCB (rLenA K) (tCons (tVar 0) tNil)))) (tCall (sp_long_row K w) [] E0 (tCons (tOp (rIx K) (tVar 0) (tVar 1)) (tCons (tOp (rIx K) (tVar 0) (tOp (rAddA K) (tVar 1) (tC (.int 1)))) tNil))) (tC .non)) (gName 2)) (tRet (tIf (tTest (tOp (rNotN) (tVar 2) (tC .non))) (tTup (tCons (tVar 2) (tCons (tC (.int 2)) tNil))) (tC .non)))))))
abbrev N_row_at : List Str := ["code", "address", "row"]

/-- Old.__init__: slots 0 self, 1 inputs, 2 box -/
def t_Old_init (K : PySem.W.Frag) (w : World) : TS :=
  (tSeq (sFld K (tVar 0) (tDc (iStr (tC (.str "abcd"))) (gName 2) tYes (tVar 2) (tC (.int 0)) [2]) "boxes") (tSeq (sFld K (tVar 0) (tOp (rMulA) (tLst (tCons (tC (.int 0)) tNil)) (tC (.int 64))) "cells") (tSeq (sFld K (tVar 0) (tC (.bl false)) "zero") (tSeq (sFld K (tVar 0) (tC (.bl false)) "less") (tSeq (sFld K (tVar 0) (tLst tNil) "kept") (tSeq (sFld K (tVar 0) (tLst tNil) "places") (tSeq (sFld K (tVar 0) (tCB (rListA K) (tCons (tVar 1) tNil)) "ahead") (tSeq (sFld K (tVar 0) (tLst tNil) "outs") (tSeq (sFld K (tVar 0) (tC (.int 0)) "place") (sFld K (tVar 0) (tC .non) "end"))))))))))
abbrev N_Old_init : List Str := ["self", "inputs", "box"]

/-- Old.marks: slots 0 self, 1 zero, 2 less -/
def t_Old_marks (K : PySem.W.Frag) (w : World) : TS :=
  (tSeq (sFld K (tVar 0) (tVar 1) "zero") (sFld K (tVar 0) (tVar 2) "less"))
abbrev N_Old_marks : List Str := ["self", "zero", "less"]

/-- done_alone: slots 0 old, 1 row -/
def t_done_alone (K : PySem.W.Frag) (w : World) : TS :=
  (tIfS (tTest (tOp (rEqA K) (tOp (rIx K) (tVar 1) (tC (.int 0))) (tC (.str "halt")))) (sFld K (tVar 0) (tC (.str "halt")) "end") (tIfS (tAnd (tTest (tOp (rEqA K) (tOp (rIx K) (tVar 1) (tC (.int 0))) (tC (.str "back")))) (tTest (tOp (rEqA K) (tFld K (tVar 0) "places") (tLst tNil)))) (sFld K (tVar 0) (tC (.str "bare")) "end") (tIfS (tTest (tOp (rEqA K) (tOp (rIx K) (tVar 1) (tC (.int 0))) (tC (.str "back")))) (sFld K (tVar 0) (tBM0 K "list" rPop (tFld K (tVar 0) "places")) "place") tNext)))
abbrev N_done_alone : List Str := ["old", "row"]

/-- done_set: slots 0 old, 1 row, 2 word, 3 box, 4 other -/
def t_done_set (K : PySem.W.Frag) (w : World) : TS :=
  (tSeq (tAsg (tVar 1) (gTup K 3 (gCons (gName 2) (gCons (gName 3) (gCons (gName 4) gNil))))) (sDPut (tFld K (tVar 0) "boxes") (tVar 3) (tIf (tTest (tOp (rEqA K) (tVar 2) (tC (.str "set")))) (tVar 4) (tDGet (tFld K (tVar 0) "boxes") (tVar 4)))))
abbrev N_done_set : List Str := ["old", "row", "word", "box", "other"]

/-- done_sum: slots 0 old, 1 row, 2 word, 3 box, 4 other, 5 total -/
def t_done_sum (K : PySem.W.Frag) (w : World) : TS :=
  (tSeq (tAsg (tVar 1) (gTup K 3 (gCons (gName 2) (gCons (gName 3) (gCons (gName 4) gNil))))) (tSeq (tAsg (tIf (tTest (tOp (rEqA K) (tVar 2) (tC (.str "add")))) (tOp (rAddA K) (tDGet (tFld K (tVar 0) "boxes") (tVar 3)) (tDGet (tFld K (tVar 0) "boxes") (tVar 4))) (tOp (rSubA) (tDGet (tFld K (tVar 0) "boxes") (tVar 3)) (tDGet (tFld K (tVar 0) "boxes") (tVar 4)))) (gName 5)) (tSeq (sDPut (tFld K (tVar 0) "boxes") (tVar 3) (tOp (rModA) (tVar 5) (tC (.int 256)))) (tDrop (tMeth (He.ga K "Old") "marks" (sp_Old_marks K w) [] E0 (tVar 0) (tCons (tOp (rEqA K) (tOp (rModA) (tVar 5) (tC (.int 256))) (tC (.int 0))) (tCons (tNotV (tChain (rLeA) (rLtA) (tC (.int 0)) (tVar 5) (tC (.int 256)))) tNil)))))))
abbrev N_done_sum : List Str := ["old", "row", "word", "box", "other", "total"]

/-- done_bits: slots 0 old, 1 row, 2 word, 3 box, 4 other, 5 one, 6 two -/
def t_done_bits (K : PySem.W.Frag) (w : World) : TS :=
  (tSeq (tAsg (tVar 1) (gTup K 3 (gCons (gName 2) (gCons (gName 3) (gCons (gName 4) gNil))))) (tSeq (tPar 5 6 (tCons (tDGet (tFld K (tVar 0) "boxes") (tVar 3)) (tCons (tDGet (tFld K (tVar 0) "boxes") (tVar 4)) tNil))) (tSeq (sDPut (tFld K (tVar 0) "boxes") (tVar 3) (tDGet (tDisp [((tC (.str "and")), (tOp (rAndA) (tVar 5) (tVar 6))), ((tC (.str "or")), (tOp (rOrA) (tVar 5) (tVar 6))), ((tC (.str "xor")), (tOp (rXorA) (tVar 5) (tVar 6)))]) (tVar 2))) (tDrop (tMeth (He.ga K "Old") "marks" (sp_Old_marks K w) [] E0 (tVar 0) (tCons (tOp (rEqA K) (tDGet (tFld K (tVar 0) "boxes") (tVar 3)) (tC (.int 0))) (tCons (tC (.bl false)) tNil)))))))
abbrev N_done_bits : List Str := ["old", "row", "word", "box", "other", "one", "two"]

/-- done_test: slots 0 old, 1 row, 2 word, 3 box, 4 other, 5 worth -/
def t_done_test (K : PySem.W.Frag) (w : World) : TS :=
  (tSeq (tAsg (tVar 1) (gTup K 3 (gCons (gName 2) (gCons (gName 3) (gCons (gName 4) gNil))))) (tSeq (tAsg (tIf (tTest (tOp (rEqA K) (tVar 2) (tC (.str "test")))) (tDGet (tFld K (tVar 0) "boxes") (tVar 4)) (tVar 4)) (gName 5)) (tDrop (tMeth (He.ga K "Old") "marks" (sp_Old_marks K w) [] E0 (tVar 0) (tCons (tOp (rEqA K) (tDGet (tFld K (tVar 0) "boxes") (tVar 3)) (tVar 5)) (tCons (tOp (rLtA) (tDGet (tFld K (tVar 0) "boxes") (tVar 3)) (tVar 5)) tNil))))))
abbrev N_done_test : List Str := ["old", "row", "word", "box", "other", "worth"]

/-- done_load: slots 0 old, 1 row, 2 word, 3 box, 4 other -/
def t_done_load (K : PySem.W.Frag) (w : World) : TS :=
  (tSeq (tAsg (tVar 1) (gTup K 3 (gCons (gName 2) (gCons (gName 3) (gCons (gName 4) gNil))))) (sDPut (tFld K (tVar 0) "boxes") (tVar 3) (tOp (rIx K) (tFld K (tVar 0) "cells") (tOp (rModA) (tIf (tTest (tOp (rEqA K) (tVar 2) (tC (.str "load")))) (tDGet (tFld K (tVar 0) "boxes") (tVar 4)) (tVar 4)) (tC (.int 64))))))
abbrev N_done_load : List Str := ["old", "row", "word", "box", "other"]

/-- done_store: slots 0 old, 1 row, 2 word, 3 box, 4 other -/
def t_done_store (K : PySem.W.Frag) (w : World) : TS :=
  (tSeq (tAsg (tVar 1) (gTup K 3 (gCons (gName 2) (gCons (gName 3) (gCons (gName 4) gNil))))) (tIfS (tTest (tOp (rEqA K) (tVar 2) (tC (.str "store")))) (tAsg (tDGet (tFld K (tVar 0) "boxes") (tVar 4)) (gSub (tFld K (tVar 0) "cells") (tOp (rModA) (tDGet (tFld K (tVar 0) "boxes") (tVar 3)) (tC (.int 64))) rSetL)) (tAsg (tDGet (tFld K (tVar 0) "boxes") (tVar 3)) (gSub (tFld K (tVar 0) "cells") (tOp (rModA) (tVar 4) (tC (.int 64))) rSetL))))
abbrev N_done_store : List Str := ["old", "row", "word", "box", "other"]

/-- done_go: slots 0 old, 1 row, 2 word, 3 target, 4 goes -/
def t_done_go (K : PySem.W.Frag) (w : World) : TS :=
  (tSeq (tAsg (tVar 1) (gTup K 2 (gCons (gName 2) (gCons (gName 3) gNil)))) (tSeq (tAsg (tDisp [((tC (.str "go")), (tC (.bl true))), ((tC (.str "zero")), (tFld K (tVar 0) "zero")), ((tC (.str "nonzero")), (tNotV (tFld K (tVar 0) "zero"))), ((tC (.str "less")), (tFld K (tVar 0) "less")), ((tC (.str "notless")), (tNotV (tFld K (tVar 0) "less")))]) (gName 4)) (tIfS (tB (tDGet (tVar 4) (tVar 2))) (sFld K (tVar 0) (tVar 3) "place") tNext)))
abbrev N_done_go : List Str := ["old", "row", "word", "target", "goes"]

/-- done_call: slots 0 old, 1 row -/
def t_done_call (K : PySem.W.Frag) (w : World) : TS :=
  (tIfS (tTest (tOp (rEqA K) (tCB (rLenA K) (tCons (tFld K (tVar 0) "places") tNil)) (tC (.int 16)))) (sFld K (tVar 0) (tC (.str "deep")) "end") (tSeq (tDrop (tBM K "list" rAppend (tFld K (tVar 0) "places") (tCons (tFld K (tVar 0) "place") tNil))) (sFld K (tVar 0) (tOp (rIx K) (tVar 1) (tC (.int 1))) "place")))
abbrev N_done_call : List Str := ["old", "row"]

/-- done_in: slots 0 old, 1 row -/
def t_done_in (K : PySem.W.Frag) (w : World) : TS :=
  (sDPut (tFld K (tVar 0) "boxes") (tOp (rIx K) (tVar 1) (tC (.int 1))) (tIf (tTest (tOp (rNeA K) (tFld K (tVar 0) "ahead") (tLst tNil))) (tBM K "list" rPopAt (tFld K (tVar 0) "ahead") (tCons (tC (.int 0)) tNil)) (tC (.int 0))))
abbrev N_done_in : List Str := ["old", "row"]

/-- done_out: slots 0 old, 1 row -/
def t_done_out (K : PySem.W.Frag) (w : World) : TS :=
  (tDrop (tBM K "list" rAppend (tFld K (tVar 0) "outs") (tCons (tDGet (tFld K (tVar 0) "boxes") (tOp (rIx K) (tVar 1) (tC (.int 1)))) tNil)))
abbrev N_done_out : List Str := ["old", "row"]

/-- done_keep: slots 0 old, 1 row -/
def t_done_keep (K : PySem.W.Frag) (w : World) : TS :=
  (tIfS (tTest (tOp (rEqA K) (tCB (rLenA K) (tCons (tFld K (tVar 0) "kept") tNil)) (tC (.int 16)))) (sFld K (tVar 0) (tC (.str "deep")) "end") (tDrop (tBM K "list" rAppend (tFld K (tVar 0) "kept") (tCons (tDGet (tFld K (tVar 0) "boxes") (tOp (rIx K) (tVar 1) (tC (.int 1)))) tNil))))
abbrev N_done_keep : List Str := ["old", "row"]

/-- done_take: slots 0 old, 1 row -/
def t_done_take (K : PySem.W.Frag) (w : World) : TS :=
  (tIfS (tTest (tOp (rEqA K) (tFld K (tVar 0) "kept") (tLst tNil))) (sFld K (tVar 0) (tC (.str "bare")) "end") (sDPut (tFld K (tVar 0) "boxes") (tOp (rIx K) (tVar 1) (tC (.int 1))) (tBM0 K "list" rPop (tFld K (tVar 0) "kept"))))
abbrev N_done_take : List Str := ["old", "row"]

/-- whole_run: slots 0 code, 1 inputs, 2 steps, 3 old, 4 came, 5 found, 6 row, 7 many, 8 doer -/
def t_whole_run (K : PySem.W.Frag) (w : World) : TS :=
  (tSeq (tAsg (tMake (He.ga K "Old") (sp_Old_init K w) [] E0 (tCons (tVar 1) tNil)) (gName 3)) (tSeq (tAsg (tLst tNil) (gName 4)) (tSeq (tWhile (tTest (tOp (rIsN) (tFld K (tVar 3) "end") (tC .non))) (tSeq (tDrop (tBM K "list" rAppend (tVar 4) (tCons (tFld K (tVar 3) "place") tNil))) (tSeq (tAsg (tCall (sp_row_at K w) [] E0 (tCons (tVar 0) (tCons (tFld K (tVar 3) "place") tNil))) (gName 5)) (tIfS (tTest (tOp (rGtA) (tCB (rLenA K) (tCons (tVar 4) tNil)) (tVar 2))) (sFld K (tVar 3) (tC (.str "late")) "end") (tIfS (tTest (tOp (rIsN) (tVar 5) (tC .non))) (sFld K (tVar 3) (tC (.str "broken")) "end") (tSeq (tAsg (tVar 5) (gTup K 2 (gCons (gName 6) (gCons (gName 7) gNil)))) (tSeq (sFldAug K (tVar 3) (tVar 7) rAdd "place") (tSeq (tAsg (tOp (rIxKD K w) (tC (.ref (He.ga K "DOERS"))) (tOp (rIx K) (tVar 6) (tC (.int 0)))) (gName 8)) (tDrop (tCallD K (DD K w) 8 (tCons (tVar 3) (tCons (tVar 6) tNil)))))))))))) (tRet (tTup (tCons (tVar 3) (tCons (tVar 4) tNil)))))))
abbrev N_whole_run : List Str := ["code", "inputs", "steps", "old", "came", "found", "row", "many", "doer"]

/-- run: slots 0 code, 1 inputs, 2 steps, 3 old, 4 came -/
def t_run (K : PySem.W.Frag) (w : World) : TS :=
  (tSeq (tAsg (tCall (sp_whole_run K w) [] E0 (tCons (tVar 0) (tCons (tVar 1) (tCons (tVar 2) tNil)))) (gTup K 2 (gCons (gName 3) (gCons (gName 4) gNil)))) (tRet (tTup (tCons (tFld K (tVar 3) "end") (tCons (tFld K (tVar 3) "outs") tNil)))))
abbrev N_run : List Str := ["code", "inputs", "steps", "old", "came"]

/-- traced: slots 0 code, 1 inputs, 2 steps, 3 old, 4 came -/
def t_traced (K : PySem.W.Frag) (w : World) : TS :=
  (tSeq (tAsg (tCall (sp_whole_run K w) [] E0 (tCons (tVar 0) (tCons (tVar 1) (tCons (tVar 2) tNil)))) (gTup K 2 (gCons (gName 3) (gCons (gName 4) gNil)))) (tRet (tVar 4)))
abbrev N_traced : List Str := ["code", "inputs", "steps", "old", "came"]

end Rl
namespace Rl
open PySem PySem.Spec PyProof.Rows L2
/-! ## defs with defaults, called by keywords; methods; written dicts with text keys -/
/-- a def called with n values in their places and keywords named ks -/
structure ClN (P : Program) (w : World) (K : PySem.W.Frag) (mg : Str → Option Value) (base : Heap) (k : Nat) (x : Str) (n : Nat) (ks : List Str) (gV : List V → List V → List V) (sp : Sp) : Prop where
  ex : ∃ (f : Addr) (fd : FuncData) (ps : List Str) (g : List Value → List Value → List Value), FnOk P w K mg base CX0 k f fd ps sp ∧ mg x = some (.ref f) ∧ PySem.W.keepIn K (.ref f) = true ∧ KBn K fd ps n ks g gV
/-- the keywords' values behind the others -/
def gVc (vs zs : List V) : List V := vs ++ zs
section
variable {X : Cx} {k j n : Nat} {x : Str} {sp : Sp} {p pos : Pos} {e : Expr} {es : List Expr} {kws : List Keyword} {ks : List Str} {t tk : TA} {gV : List V → List V → List V}
theorem pe_cln {m : Nat} (c : ClN X.prog X.w X.K X.mg X.base k x n ks gV sp) (hr : Room j X.A) (hk : k ≤ j) (hg : Gl X x) (ha : PA X (e :: es) t) (hkw : PK X kws tk) (hm : ks.length = m := by rfl)
    (hall : (backToKw pos (keywordEach kws X.env)).all (·.1.isSome) = true := by rfl) (hks : (backToKw pos (keywordEach kws X.env)).filterMap (·.1) = ks := by rfl)
    (hdb : (x == ("__debug__" : Str)) = false := by decide) (he : starEach (e :: es) X.env = (false, eval e X.env) :: starEach es X.env := by rfl)
    (hpl : ((backTo pos (starEach (e :: es) X.env)).any (·.1) || (backToKw pos (keywordEach kws X.env)).any (·.1.isNone)) = false := by rfl) :
    PE X (.Call (.Name x p) (e :: es) kws pos) (tCallN n m sp gV E0 t tk) := by
  subst hm
  obtain ⟨f, fd, ps, g, F, hm, kp, b⟩ := c.ex
  exact pe_callN F (hr.mono hk) hg hm kp b pass0 ha hkw hall hks hdb he hpl
end
section
variable {P : Program} {w : World} {K : PySem.W.Frag} {mg : Str → Option Value} {base : Heap}
theorem Cl.mono {k j : Nat} {x : Str} {sp : Sp} (c : Cl P w K mg base k x sp) (h : k ≤ j) : Cl P w K mg base j x sp := by
  obtain ⟨f, fd, ps, F, r⟩ := c.ex
  exact ⟨f, fd, ps, F.mono h, r⟩
/-- a def's promise, its defaults and names any -/
theorem fo_of {x q : Str} {st : Stmt} {f : Addr} {fd : FuncData} {N ps : List Str} {k : Nat} {sp : Sp} {dvs : List V} {kws : List (Str × V)} (D : FunD K x q (defArgs st) (defBody st) (defScope st) dvs kws f fd) (S : FnScope N ps (defScope st)) (len : ∀ vs H Q E, sp vs H Q E → vs.length = ps.length)
    (hbody : ∀ (cdv : Value) (A : Around) (outer : List Env) (s : Shared) (H : Hp) (vs : List V) (Q : VK) (E : XK), Room k (A.deeper (envOfC q (defScope st) s.heap.objs.size f cdv)) → sp vs H Q E →
      ∃ t, PSs (cxOf CX0 P w K mg base N q (defScope st) f cdv A outer s H E) (defBody st) t ∧ t { nx := fun _ H' => Q .non H', rt := Q } (start N vs) H) : FnOk P w K mg base CX0 (k + 1) f fd ps sp :=
  FunD.ok D S len hbody
/-- keywords for all that is keyword-only, all others in their places -/
theorem kbc {x q : Str} {st : Stmt} {f : Addr} {fd : FuncData} {ps : List Str} {n : Nat} {ks : List Str} {dvs : List V} {kws : List (Str × V)} (D : FunD K x q (defArgs st) (defBody st) (defScope st) dvs kws f fd) (hd : dvs ≠ []) (hk : kws ≠ [])
    (h : ∀ (T D : Addr) (doc pm : Value) (an : Option Addr) (cdv ct : Value) (us its ws : List Value), us.length = n → its.length = dvs.length → ws.length = ks.length →
      ∃ k, bindArgs (PySem.W.fnOf x q (defArgs st) (defBody st) (defScope st) (.ref T) (.ref D) doc pm an cdv ct) ⟨us, ks.zip ws⟩ = seqItems? (.ref T) >>= k ∧ k (some its.toArray) = pure (ps.zip (us ++ ws))) : ∃ g, KBn K fd ps n ks g gVc := by
  obtain ⟨its, mv, b⟩ := D.kbinds n ks [] (fun us _ _ ws => us ++ ws) hd hk (fun _ z => nomatch z) (fun a _ _ b => a.append b) fun T D doc pm an cdv ct us its mv ws h1 h2 _ h4 => by
    obtain ⟨k, e1, e2⟩ := h T D doc pm an cdv ct us its ws h1 h2 h4
    exact ⟨k, e1, e2⟩
  exact ⟨_, b⟩
end
namespace R
theorem callN {σ : L2.St} {H : Hp} {Q : VK} {n m : Nat} {sp : Sp} {gV : List V → List V → List V} {E : XK} {t tk : TA} (q : t σ H fun vs H1 => tk σ H1 fun zs H2 => vs.length = n ∧ zs.length = m ∧ sp (gV vs zs) H2 Q E) : tCallN n m sp gV E t tk σ H Q := q
end R
/-- a written dict with text keys: a look that the head can take -/
def kdS (K : PySem.W.Frag) (a : Addr) (kvs : List (Str × He.Dv)) : Bool := match K.lookup a with
  | some ⟨.type c, none, .dict es _, sl⟩ => decide (c = "dict") && (sl.isEmpty && (!(a == sysModules) && kdAll K es.toList kvs))
  | _ => false
where
  kdAll (K : PySem.W.Frag) : List DictEntry → List (Str × He.Dv) → Bool
    | [], [] => true
    | e :: es, (k, d) :: r => (match e.key with
      | .str j _ => decide (j = k)
      | _ => false) && (He.relB (d.v K) e.val && kdAll K es r)
    | _, _ => false
theorem kdS_find {K : PySem.W.Frag} {w : World} (P : Program) : ∀ {es : List DictEntry} {kvs : List (Str × He.Dv)}, kdS.kdAll K es kvs = true → PySem.W.KeysLit w.params es →
    (∀ e ∈ es, ∃ k, (mixKind P w).is k e.key = true ∧ e.hash = (mixKind P w).hash k) ∧
    ∀ k, RelO (valV (kvs.map fun p => ((Sum.inr p.1 : Key), p.2.v K)) k) ((es.find? fun e => (mixKind P w).is k e.key).map (·.val))
  | [], [], _, _ => ⟨fun e he => (by cases he), fun k => True.intro⟩
  | e :: es, (j, d) :: r, h, ⟨⟨x, u, lk, lh⟩, ls⟩ => by
    obtain ⟨h1, h2⟩ := He.ba (show ((match e.key with
      | .str i _ => decide (i = j)
      | _ => false) && (He.relB (d.v K) e.val && kdS.kdAll K es r)) = true from h)
    obtain ⟨h5, h6⟩ := He.ba h2
    obtain ⟨i1, i2⟩ := kdS_find (w := w) P h6 ls
    rw [lk] at h1
    have ej : x = j := of_decide_eq_true h1
    subst ej
    have e1 : (mixKind P w).is (Sum.inr x : Key) e.key = true := by
      rw [lk]
      exact keyIs_str x u
    refine ⟨fun e' he => ?_, fun k => ?_⟩
    · rcases List.mem_cons.mp he with q | q
      · rw [q]
        exact ⟨Sum.inr x, e1, lh⟩
      · exact i1 e' q
    · rw [List.map_cons]
      by_cases q : (Sum.inr x : Key) = k
      · have q2 : (mixKind P w).is k e.key = true := by rw [← q]; exact e1
        rw [List.find?_cons_of_pos (p := fun (e : DictEntry) => (mixKind P w).is k e.key) q2, valV_pos (p := ((Sum.inr x : Key), d.v K)) q]
        exact He.relB_ok h5
      · have q2 : ¬ (mixKind P w).is k e.key = true := fun z => q ((mixKind P w).inj _ _ _ e1 z)
        rw [List.find?_cons_of_neg (p := fun (e : DictEntry) => (mixKind P w).is k e.key) q2, valV_neg (p := ((Sum.inr x : Key), d.v K)) q]
        exact i2 k
  | [], _ :: _, h, _ => by cases h
  | _ :: _, [], h, _ => by cases h
theorem kdS_ok {K : PySem.W.Frag} {w : World} {a : Addr} {kvs : List (Str × He.Dv)} (h : kdS K a kvs = true) (D : ∃ es n, KDict K w a es n) : KD K w a (kvs.map fun p => (Sum.inr p.1, p.2.v K)) := by
  obtain ⟨es, n, D⟩ := D
  obtain ⟨q, lit, sys⟩ := D
  unfold kdS at h
  rw [q] at h
  obtain ⟨h1, h2⟩ := He.ba h
  obtain ⟨h3, h4⟩ := He.ba h2
  obtain ⟨h5, h6⟩ := He.ba h4
  refine ⟨sys, fun P hp X => ?_⟩
  obtain ⟨i1, i2⟩ := kdS_find (w := w) P h6 lit
  refine ⟨fun k => findBy (mixKind P w).is es k, ⟨_, es, n, X _ _ q, ⟨rfl, rfl, rfl⟩, rfl, fun e he => i1 e (Array.mem_toList_iff.mpr he), fun k => rfl⟩, fun k => ?_⟩
  have z := i2 k
  obtain ⟨l⟩ := es
  show RelO _ ((Array.find? (fun e => (mixKind P w).is k e.key) l.toArray).map (·.val))
  rw [List.find?_toArray]
  exact z
end Rl
namespace Rl
open PySem PySem.Spec PyProof.Rows L2
/-! ## how many values each def of the machine takes -/
section
variable {K : PySem.W.Frag} {w : World} {vs : List V} {H : Hp} {Q : VK} {E : XK}
theorem len_done_alone (h : sp_done_alone K w vs H Q E) : vs.length = 2 := len_do h
theorem len_done_set (h : sp_done_set K w vs H Q E) : vs.length = 2 := len_do h
theorem len_done_sum (h : sp_done_sum K w vs H Q E) : vs.length = 2 := len_do h
theorem len_done_bits (h : sp_done_bits K w vs H Q E) : vs.length = 2 := len_do h
theorem len_done_test (h : sp_done_test K w vs H Q E) : vs.length = 2 := len_do h
theorem len_done_load (h : sp_done_load K w vs H Q E) : vs.length = 2 := len_do h
theorem len_done_store (h : sp_done_store K w vs H Q E) : vs.length = 2 := len_do h
theorem len_done_go (h : sp_done_go K w vs H Q E) : vs.length = 2 := len_do h
theorem len_done_call (h : sp_done_call K w vs H Q E) : vs.length = 2 := len_do h
theorem len_done_in (h : sp_done_in K w vs H Q E) : vs.length = 2 := len_do h
theorem len_done_out (h : sp_done_out K w vs H Q E) : vs.length = 2 := len_do h
theorem len_done_keep (h : sp_done_keep K w vs H Q E) : vs.length = 2 := len_do h
theorem len_done_take (h : sp_done_take K w vs H Q E) : vs.length = 2 := len_do h
theorem len_Old_marks (h : sp_Old_marks K w vs H Q E) : vs.length = 3 := by
  obtain ⟨_, _, _, _, rfl, _⟩ := h
  rfl
theorem len_Old_init (h : sp_Old_init K w vs H Q E) : vs.length = 2 := by
  obtain ⟨_, _, _, _, rfl, _⟩ := h
  rfl
theorem len_whole_run (h : sp_whole_run K w vs H Q E) : vs.length = 3 := by
  obtain ⟨_, _, _, _, _, rfl, _⟩ := h
  rfl
theorem len_run (h : sp_run K w vs H Q E) : vs.length = 3 := by
  obtain ⟨_, _, _, _, _, rfl, _⟩ := h
  rfl
theorem len_traced (h : sp_traced K w vs H Q E) : vs.length = 3 := by
  obtain ⟨_, _, _, _, _, rfl, _⟩ := h
  rfl
def sp_law_inputs (_ : PySem.W.Frag) (_ : World) : Sp := fun vs H Q _ => ∃ (r : Addr) (S : Addr → Prop), vs = [.ref r] ∧ Reel H r S ∧
  ∀ p H' ds, H p = none → p ≠ r → Fx r H H' → Reel H' r (S1 p S) → H' p = some (.lst (ds.map V.int)) → By ds → ds.length ≤ 8 → Q (.ref p) H'
theorem len_law_inputs (h : sp_law_inputs K w vs H Q E) : vs.length = 1 := by
  obtain ⟨_, _, rfl, _⟩ := h
  rfl
end
end Rl
namespace Rl
open PySem PySem.Spec PyProof.Rows L2
/-! ## dict(a list of pairs) -/
def rDictP (K : PySem.W.Frag) : List V → Hp → VK → Prop := fun xs H Q => ∃ (a : Addr) (ps : List Addr) (kvs : List (Key × V)), xs = [.ref a] ∧ SqL K H a (ps.map V.ref) ∧ Paired (fun p kv => SqT K H p [kV kv.1, kv.2]) ps kvs ∧ ∀ p, H p = none → Q (.ref p) (upd H p (.dK (mergeK [] kvs)))
theorem call_dictPA {X : Cx} (hcalm : X.calm = true) : CallR X (.type "dict") (rDictP X.K) := call_dictP hcalm
end Rl
namespace Rl
open PySem PySem.Spec PyProof.Rows L2 NdefX LamX
/-- behind_and_target: slots 0 code, 1 address, 2 found, 3 row, 4 many, 5 behind -/
def t_behind_and_target (K : PySem.W.Frag) (w : World) : TS :=
  (tSeq (tAsg (tCall (sp_row_at K w) [] E0 (tCons (tVar 0) (tCons (tVar 1) tNil))) (gName 2)) (tSeq (tIfS (tTest (tOp (rIsN) (tVar 2) (tC .non))) (tRet (tTup (tCons (tC .non) (tCons (tC .non) tNil)))) tNext) (tSeq (tAsg (tVar 2) (gTup K 2 (gCons (gName 3) (gCons (gName 4) gNil)))) (tSeq (tAsg (tIf (tTest (tOp ((rIn K false)) (tOp (rIx K) (tVar 3) (tC (.int 0))) (tC (.ref (He.ga K "ENDS"))))) (tC .non) (tOp (rAddA K) (tVar 1) (tVar 4))) (gName 5)) (tRet (tTup (tCons (tVar 5) (tCons (tIf (tTest (tOp ((rIn K false)) (tOp (rIx K) (tVar 3) (tC (.int 0))) (tC (.ref (He.ga K "TARGETS"))))) (tOp (rIx K) (tVar 3) (tC (.int 1))) (tC .non)) tNil))))))))
abbrev N_behind_and_target : List Str := ["code", "address", "found", "row", "many", "behind"]

/-- is_call: slots 0 code, 1 address, 2 found -/
def t_is_call (K : PySem.W.Frag) (w : World) : TS :=
  (tSeq (tAsg (tCall (sp_row_at K w) [] E0 (tCons (tVar 0) (tCons (tVar 1) tNil))) (gName 2)) (tRet (tAndV (tOp (rNotN) (tVar 2) (tC .non)) (tOp (rEqA K) (tOp (rIx K) (tOp (rIx K) (tVar 2) (tC (.int 0))) (tC (.int 0))) (tC (.str "call"))))))
abbrev N_is_call : List Str := ["code", "address", "found"]

/-- goes_on: slots 0 code, 1 address, 2 behind, 3 target, 4 place -/
def t_goes_on (K : PySem.W.Frag) (w : World) : TS :=
  (tSeq (tAsg (tCall (sp_behind_and_target K w) [] E0 (tCons (tVar 0) (tCons (tVar 1) tNil))) (gTup K 2 (gCons (gName 2) (gCons (gName 3) gNil)))) (tSeq (tIfS (tB (tCall (sp_is_call K w) [] E0 (tCons (tVar 0) (tCons (tVar 1) tNil)))) (tAsg (tC .non) (gName 3)) tNext) (tRet (tCB (rSortedSet w) (tCons (tScI w (iSeq K (tTup (tCons (tVar 2) (tCons (tVar 3) tNil)))) (gName 4) (tTest (tOp (rNotN) (tVar 4) (tC .non))) (tVar 4) [4]) tNil)))))
abbrev N_goes_on : List Str := ["code", "address", "behind", "target", "place"]

/-- found_places.onward: slots 0 address, 1 code, 2 place -/
def t_found_places_onward (K : PySem.W.Frag) (w : World) : TS :=
  (tRet (tLc (iSeq K (tCall (sp_behind_and_target K w) [] E0 (tCons (tVar 1) (tCons (tVar 0) tNil)))) (gName 2) (tTest (tOp (rNotN) (tVar 2) (tC .non))) (tVar 2) [2]))
abbrev N_found_places_onward : List Str := ["address", "code", "place"]

/-- parts_of.onward: slots 0 address, 1 code -/
def t_parts_of_onward (K : PySem.W.Frag) (w : World) : TS :=
  (tRet (tCall (sp_goes_on K w) [] E0 (tCons (tVar 1) (tCons (tVar 0) tNil))))
abbrev N_parts_of_onward : List Str := ["address", "code"]

/-- all_from: slots 0 first, 1 onward, 2 found, 3 waiting, 4 place -/
def t_all_from (K : PySem.W.Frag) (w : World) : TS :=
  (tSeq (tAsg (tDisp [((tVar 0), (tC (.bl true)))]) (gName 2)) (tSeq (tAsg (tLst (tCons (tVar 0) tNil)) (gName 3)) (tSeq (tWhile (tTest (tOp (rNeA K) (tVar 3) (tLst tNil))) (tFor (iSeq K (tCallH 1 "code" (OnP K) (tCons (tBM0 K "list" rPop (tVar 3)) tNil))) (gName 4) (tIfS (tB (tDNotIn (tVar 4) (tVar 2))) (tSeq (sDPut (tVar 2) (tVar 4) (tC (.bl true))) (tDrop (tBM K "list" rAppend (tVar 3) (tCons (tVar 4) tNil)))) tNext))) (tRet (tCB (rSortedD) (tCons (tVar 2) tNil))))))
abbrev N_all_from : List Str := ["first", "onward", "found", "waiting", "place"]

/-- found_places: slots 0 code, 1 onward -/
def t_found_places (K : PySem.W.Frag) (w : World) (cc : Addr) : TS :=
  (tSeq (tNdef (NT K) 1 (NF.of on_found_places "onward" on_q_found_places [("code", cc)])) (tRet (tCallC K cc 0 (sp_all_from K w) (tCons (tC (.int 0)) (tCons (tVar 1) tNil)))))
abbrev N_found_places : List Str := ["code", "onward"]

/-- found_rows: slots 0 code, 1 found, 2 address, 3 row -/
def t_found_rows (K : PySem.W.Frag) (w : World) : TS :=
  (tSeq (tAsg (tLc (iSeq K (tCall (sp_found_places K w) [] E0 (tCons (tVar 0) tNil))) (gName 2) tYes (tTup (tCons (tVar 2) (tCons (tCall (sp_row_at K w) [] E0 (tCons (tVar 0) (tCons (tVar 2) tNil))) tNil))) [2]) (gName 1)) (tRet (tLc (iSeq K (tVar 1)) (gTup K 2 (gCons (gName 2) (gCons (gName 3) gNil))) tYes (tTup (tCons (tVar 2) (tCons (tIf (tTest (tOp (rIsN) (tVar 3) (tC .non))) (tC .non) (tOp (rIx K) (tVar 3) (tC (.int 0)))) tNil))) [2, 3])))
abbrev N_found_rows : List Str := ["code", "found", "address", "row"]

/-- lost_bytes: slots 0 code, 1 kept, 2 address, 3 found, 4 k -/
def t_lost_bytes (K : PySem.W.Frag) (w : World) : TS :=
  (tSeq (tAsg tDNewK (gName 1)) (tSeq (tFor (iSeq K (tCall (sp_found_places K w) [] E0 (tCons (tVar 0) tNil))) (gName 2) (tSeq (tAsg (tCall (sp_row_at K w) [] E0 (tCons (tVar 0) (tCons (tVar 2) tNil))) (gName 3)) (tIfS (tTest (tOp (rNotN) (tVar 3) (tC .non))) (tDrop (tBM K "dict" rUpdate (tVar 1) (tCons (tDc (iRng1 (tCons (tOp (rIx K) (tVar 3) (tC (.int 1))) tNil)) (gName 4) tYes (tOp (rAddA K) (tVar 2) (tVar 4)) (tC (.bl true)) [4]) tNil))) tNext))) (tRet (tLc (iRng1 (tCons (tCB (rLenA K) (tCons (tVar 0) tNil)) tNil)) (gName 2) (tB (tDNotIn (tVar 2) (tVar 1))) (tVar 2) [2]))))
abbrev N_lost_bytes : List Str := ["code", "kept", "address", "found", "k"]

/-- parts_of: slots 0 code, 1 entries, 2 address, 3 behind, 4 target, 5 onward, 6 entry -/
def t_parts_of (K : PySem.W.Frag) (w : World) (cc ca : Addr) : TS :=
  (tSeq (tAsg (tDisp [((tC (.int 0)), (tC (.bl true)))]) (gName 1)) (tSeq (tFor (iSeq K (tCall (sp_found_places K w) [] E0 (tCons (tVar 0) tNil))) (gName 2) (tIfS (tB (tCall (sp_is_call K w) [] E0 (tCons (tVar 0) (tCons (tVar 2) tNil)))) (tSeq (tAsg (tCall (sp_behind_and_target K w) [] E0 (tCons (tVar 0) (tCons (tVar 2) tNil))) (gTup K 2 (gCons (gName 3) (gCons (gName 4) gNil)))) (sDPut (tVar 1) (tVar 4) (tC (.bl true)))) tNext)) (tSeq (tNdef (NT K) 5 (NF.of on_parts_of "onward" on_q_parts_of [("code", cc)])) (tRet (tLcS 0 ca (iSeq K (tCB (rSortedD) (tCons (tVar 1) tNil))) (gName 6) tYes (tTup (tCons (tVar 6) (tCons (tCallB K cc ca (sp_all_from K w) (tCons (tVar 6) (tCons (tVar 5) tNil))) tNil))) [6])))))
abbrev N_parts_of : List Str := ["code", "entries", "address", "behind", "target", "onward", "entry"]

/-- _law_reel: slots 0 _law_script, 1 _law_stir, 2 _law_cell, 3 _law_great -/
def t_law_reel (K : PySem.W.Frag) (w : World) : TS :=
  (tSeq (tAsg (tOp (rPowA) (tC (.int 3)) (tC (.int 60))) (gName 1)) (tSeq (tFor (iSeq K (tSl (rSlA K) (tVar 0) tNoPart (tPart (tC (.int 63))))) (gName 2) (tAsg (tOp (rModA) (tOp (rAddA K) (tOp (rAddA K) (tOp (rMulA) (tVar 1) (tVar 1)) (tOp (rModA) (tVar 2) (tC (.int 1000000000000000003)))) (tC (.int 11))) (tOp (rSubA) (tOp (rMulA) (tOp (rPowA) (tC (.int 2)) (tC (.int 64))) (tOp (rPowA) (tC (.int 2)) (tC (.int 63)))) (tC (.int 1)))) (gName 1))) (tSeq (tAsg (tLc (iSeq K (tSl (rSlA K) (tVar 0) tNoPart (tPart (tC (.int 63))))) (gName 2) (tTest (tOp (rGeA) (tVar 2) (tOp (rPowA) (tC (.int 10)) (tC (.int 18))))) (tOp (rSubA) (tVar 2) (tOp (rPowA) (tC (.int 10)) (tC (.int 18)))) [2]) (gName 3)) (tRet (tLst (tCons (tVar 3) (tCons (tOp (rAddA K) (tLc (iSeq K (tSl (rSlA K) (tVar 0) tNoPart (tPart (tC (.int 63))))) (gName 2) tYes (tOp (rModA) (tVar 2) (tC (.int 1000003))) [2]) (tLst (tCons (tC (.int 41)) tNil))) (tCons (tC (.int 0)) (tCons (tVar 1) tNil)))))))))
abbrev N_law_reel : List Str := ["_law_script", "_law_stir", "_law_cell", "_law_great"]

/-- _law_draw: slots 0 _law_reel_here, 1 _law_many, 2 _law_rest, 3 _law_told, 4 _law_stir -/
def t_law_draw (K : PySem.W.Frag) (w : World) : TS :=
  (tSeq (tIfS (tTest (tOp (rNeA K) (tOp (rIx K) (tVar 0) (tC (.int 0))) (tLst tNil))) (tSeq (tAsg (tOp (rIx K) (tOp (rIx K) (tVar 0) (tC (.int 0))) (tC (.int 0))) (gName 2)) (tSeq (tAsg (tOp (rAddA K) (tOp (rMulA) (tLst (tCons (tOp (rDivA) (tVar 2) (tVar 1)) tNil)) (tCB (rInt1) (tCons (tOp (rGeA) (tVar 2) (tVar 1)) tNil))) (tSl (rSlA K) (tOp (rIx K) (tVar 0) (tC (.int 0))) (tPart (tC (.int 1))) tNoPart)) (gSub (tVar 0) (tC (.int 0)) rSetL)) (tRet (tOp (rModA) (tVar 2) (tVar 1))))) tNext) (tSeq (tAsg (tOp (rAddA K) (tOp (rIx K) (tVar 0) (tC (.int 2))) (tC (.int 1))) (gSub (tVar 0) (tC (.int 2)) rSetL)) (tSeq (tAsg (tOp (rIx K) (tOp (rIx K) (tVar 0) (tC (.int 1))) (tOp (rModA) (tOp (rIx K) (tVar 0) (tC (.int 2))) (tCB (rLenA K) (tCons (tOp (rIx K) (tVar 0) (tC (.int 1))) tNil)))) (gName 3)) (tSeq (tAsg (tOp (rAddA K) (tOp (rAddA K) (tOp (rMulA) (tOp (rIx K) (tVar 0) (tC (.int 3))) (tOp (rIx K) (tVar 0) (tC (.int 3)))) (tOp (rMulA) (tOp (rAddA K) (tVar 3) (tC (.int 7))) (tC (.int 69621)))) (tOp (rMulA) (tOp (rIx K) (tVar 0) (tC (.int 2))) (tC (.int 1000003)))) (gName 4)) (tSeq (tAsg (tOp (rModA) (tVar 4) (tOp (rSubA) (tOp (rMulA) (tOp (rPowA) (tC (.int 2)) (tC (.int 64))) (tOp (rPowA) (tC (.int 2)) (tC (.int 63)))) (tC (.int 1)))) (gSub (tVar 0) (tC (.int 3)) rSetL)) (tRet (tOp (rModA) (tOp (rDivA) (tOp (rIx K) (tVar 0) (tC (.int 3))) (tOp (rPowA) (tC (.int 2)) (tC (.int 40)))) (tVar 1))))))))
abbrev N_law_draw : List Str := ["_law_reel_here", "_law_many", "_law_rest", "_law_told", "_law_stir"]

/-- _law_any_row: slots 0 _law_reel_here, 1 _law_kind, 2 _law_reckons, 3 _law_moves, 4 _law_goes, 5 _law_calls, 6 _law_first, 7 _law_box -/
def t_law_any_row (K : PySem.W.Frag) (w : World) : TS :=
  (tSeq (tAsg (tLst (tCons (tC (.int 16)) (tCons (tC (.int 32)) (tCons (tC (.int 48)) (tCons (tC (.int 64)) (tCons (tC (.int 80)) (tCons (tC (.int 96)) (tCons (tC (.int 112)) (tCons (tC (.int 128)) (tCons (tC (.int 144)) tNil)))))))))) (gName 2)) (tSeq (tAsg (tLst (tCons (tC (.int 16)) (tCons (tC (.int 160)) (tCons (tC (.int 176)) (tCons (tC (.int 192)) (tCons (tC (.int 208)) (tCons (tC (.int 244)) (tCons (tC (.int 241)) (tCons (tC (.int 240)) tNil))))))))) (gName 3)) (tSeq (tAsg (tLst (tCons (tC (.int 224)) (tCons (tC (.int 225)) (tCons (tC (.int 226)) (tCons (tC (.int 227)) (tCons (tC (.int 228)) tNil)))))) (gName 4)) (tSeq (tAsg (tLst (tCons (tC (.int 229)) (tCons (tC (.int 1)) (tCons (tC (.int 242)) (tCons (tC (.int 243)) (tCons (tC (.int 16)) (tCons (tC (.int 241)) (tCons (tC (.int 2)) tNil)))))))) (gName 5)) (tSeq (tAsg (tOp (rIx K) (tOp (rIx K) (tLst (tCons (tVar 2) (tCons (tVar 3) (tCons (tVar 4) (tCons (tVar 5) tNil))))) (tVar 1)) (tCall (sp_law_draw K w) [] E0 (tCons (tVar 0) (tCons (tOp (rIx K) (tLst (tCons (tC (.int 9)) (tCons (tC (.int 8)) (tCons (tC (.int 5)) (tCons (tC (.int 7)) tNil))))) (tVar 1)) tNil)))) (gName 6)) (tSeq (tAsg (tOp (rMulA) (tC (.int 4)) (tCall (sp_law_draw K w) [] E0 (tCons (tVar 0) (tCons (tC (.int 4)) tNil)))) (gName 7)) (tSeq (tIfS (tTest (tOp ((rIn K false)) (tVar 6) (tLst (tCons (tC (.int 1)) (tCons (tC (.int 2)) (tCons (tC (.int 224)) (tCons (tC (.int 225)) (tCons (tC (.int 226)) (tCons (tC (.int 227)) (tCons (tC (.int 228)) (tCons (tC (.int 229)) tNil))))))))))) (tRet (tIf (tTest (tOp (rLtA) (tVar 6) (tC (.int 3)))) (tLst (tCons (tVar 6) tNil)) (tLst (tCons (tVar 6) (tCons (tC (.int 0)) tNil))))) tNext) (tSeq (tIfS (tTest (tOp ((rIn K false)) (tVar 6) (tLst (tCons (tC (.int 16)) (tCons (tC (.int 144)) (tCons (tC (.int 192)) (tCons (tC (.int 208)) tNil))))))) (tRet (tLst (tCons (tOp (rAddA K) (tVar 6) (tVar 7)) (tCons (tOp (rIx K) (tLst (tCons (tCall (sp_law_draw K w) [] E0 (tCons (tVar 0) (tCons (tC (.int 4)) tNil))) (tCons (tCall (sp_law_draw K w) [] E0 (tCons (tVar 0) (tCons (tC (.int 256)) tNil))) tNil))) (tCall (sp_law_draw K w) [] E0 (tCons (tVar 0) (tCons (tC (.int 2)) tNil)))) tNil)))) tNext) (tSeq (tIfS (tTest (tOp (rGeA) (tVar 6) (tC (.int 240)))) (tRet (tLst (tCons (tOp (rAddA K) (tOp (rAddA K) (tC (.int 240)) (tVar 7)) (tOp (rModA) (tVar 6) (tC (.int 4)))) tNil))) tNext) (tRet (tLst (tCons (tOp (rAddA K) (tOp (rAddA K) (tVar 6) (tVar 7)) (tCall (sp_law_draw K w) [] E0 (tCons (tVar 0) (tCons (tC (.int 4)) tNil)))) tNil))))))))))))
abbrev N_law_any_row : List Str := ["_law_reel_here", "_law_kind", "_law_reckons", "_law_moves", "_law_goes", "_law_calls", "_law_first", "_law_box"]

/-- _law_code: slots 0 _law_reel_here, 1 _law_rows, 2 _law_most, 3 _law_k, 4 _law_starts, 5 _law_row, 6 _law_code_here, 7 _law_target -/
def t_law_code (K : PySem.W.Frag) (w : World) : TS :=
  (tSeq (tAsg (tLst tNil) (gName 1)) (tSeq (tAsg (tOp (rIx K) (tLst (tCons (tC (.int 8)) (tCons (tC (.int 30)) (tCons (tC (.int 8)) (tCons (tC (.int 30)) (tCons (tC (.int 30)) (tCons (tC (.int 95)) tNil))))))) (tCall (sp_law_draw K w) [] E0 (tCons (tVar 0) (tCons (tC (.int 6)) tNil)))) (gName 2)) (tSeq (tFor (iRng1 (tCons (tOp (rAddA K) (tC (.int 1)) (tCall (sp_law_draw K w) [] E0 (tCons (tVar 0) (tCons (tVar 2) tNil)))) tNil)) (gName 3) (tDrop (tBM K "list" rAppend (tVar 1) (tCons (tCall (sp_law_any_row K w) [] E0 (tCons (tVar 0) (tCons (tOp (rIx K) (tLst (tCons (tC (.int 0)) (tCons (tC (.int 0)) (tCons (tC (.int 1)) (tCons (tC (.int 1)) (tCons (tC (.int 2)) (tCons (tC (.int 3)) tNil))))))) (tCall (sp_law_draw K w) [] E0 (tCons (tVar 0) (tCons (tC (.int 6)) tNil)))) tNil))) tNil)))) (tSeq (tAsg (tOp (rAddA K) (tVar 1) (tOp (rMulA) (tLst (tCons (tLst (tCons (tC (.int 0)) tNil)) tNil)) (tCB (rInt1) (tCons (tOp (rGtA) (tCall (sp_law_draw K w) [] E0 (tCons (tVar 0) (tCons (tC (.int 3)) tNil))) (tC (.int 0))) tNil)))) (gName 1)) (tSeq (tAsg (tLst (tCons (tC (.int 0)) tNil)) (gName 4)) (tSeq (tFor (iSeq K (tVar 1)) (gName 5) (tDrop (tBM K "list" rAppend (tVar 4) (tCons (tOp (rAddA K) (tOp (rIx K) (tVar 4) (tUn (rU fun i => .int (-i)) (tC (.int 1)))) (tCB (rLenA K) (tCons (tVar 5) tNil))) tNil)))) (tSeq (tAsg (tLst tNil) (gName 6)) (tSeq (tFor (iSeq K (tVar 1)) (gName 5) (tSeq (tAsg (tOp (rAddA K) (tVar 6) (tVar 5)) (gName 6)) (tIfS (tTest (tOp (rEqA K) (tOp (rDivA) (tOp (rIx K) (tVar 5) (tC (.int 0))) (tC (.int 16))) (tC (.int 14)))) (tSeq (tAsg (tOp (rIx K) (tVar 4) (tCall (sp_law_draw K w) [] E0 (tCons (tVar 0) (tCons (tCB (rLenA K) (tCons (tVar 4) tNil)) tNil)))) (gName 7)) (tSeq (tIfS (tTest (tOp (rEqA K) (tCall (sp_law_draw K w) [] E0 (tCons (tVar 0) (tCons (tC (.int 12)) tNil))) (tC (.int 0)))) (tAsg (tOp (rIx K) (tLst (tCons (tOp (rAddA K) (tVar 7) (tC (.int 1))) (tCons (tCall (sp_law_draw K w) [] E0 (tCons (tVar 0) (tCons (tC (.int 256)) tNil))) (tCons (tOp (rIx K) (tVar 4) (tUn (rU fun i => .int (-i)) (tC (.int 1)))) tNil)))) (tCall (sp_law_draw K w) [] E0 (tCons (tVar 0) (tCons (tC (.int 3)) tNil)))) (gName 7)) tNext) (tAsg (tVar 7) (gSub (tVar 6) (tUn (rU fun i => .int (-i)) (tC (.int 1))) rSetL)))) tNext))) (tSeq (tIfS (tTest (tOp (rEqA K) (tCall (sp_law_draw K w) [] E0 (tCons (tVar 0) (tCons (tC (.int 6)) tNil))) (tC (.int 0)))) (tAsg (tCall (sp_law_draw K w) [] E0 (tCons (tVar 0) (tCons (tC (.int 256)) tNil))) (gSub (tVar 6) (tCall (sp_law_draw K w) [] E0 (tCons (tVar 0) (tCons (tCB (rLenA K) (tCons (tVar 6) tNil)) tNil))) rSetL)) tNext) (tRet (tVar 6)))))))))))
abbrev N_law_code : List Str := ["_law_reel_here", "_law_rows", "_law_most", "_law_k", "_law_starts", "_law_row", "_law_code_here", "_law_target"]

/-- _law_inputs: slots 0 _law_reel_here, 1 _law_k -/
def t_law_inputs (K : PySem.W.Frag) (w : World) : TS :=
  (tRet (tLc (iRng1 (tCons (tCall (sp_law_draw K w) [] E0 (tCons (tVar 0) (tCons (tC (.int 9)) tNil))) tNil)) (gName 1) tYes (tOp (rIx K) (tLst (tCons (tCall (sp_law_draw K w) [] E0 (tCons (tVar 0) (tCons (tC (.int 4)) tNil))) (tCons (tCall (sp_law_draw K w) [] E0 (tCons (tVar 0) (tCons (tC (.int 256)) tNil))) tNil))) (tCall (sp_law_draw K w) [] E0 (tCons (tVar 0) (tCons (tC (.int 2)) tNil)))) [1]))
abbrev N_law_inputs : List Str := ["_law_reel_here", "_law_k"]

/-- _law_blocks: slots 0 _law_reel_here, 1 _law_many, 2 _law_order, 3 _law_way, 4 _law_k, 5 _law_blocks_here, 6 _law_goes, 7 _law_ahead, 8 _law_first, 9 _law_size, 10 _law_block, 11 _law_starts, 12 _law_at, 13 _law_code_here -/
def t_law_blocks (K : PySem.W.Frag) (w : World) : TS :=
  (tSeq (tAsg (tOp (rAddA K) (tC (.int 2)) (tCall (sp_law_draw K w) [] E0 (tCons (tVar 0) (tCons (tC (.int 47)) tNil)))) (gName 1)) (tSeq (tAsg (tLstRg (tRg1 (tVar 1))) (gName 2)) (tSeq (tAsg (tCall (sp_law_draw K w) [] E0 (tCons (tVar 0) (tCons (tC (.int 3)) tNil))) (gName 3)) (tSeq (tIfS (tTest (tOp (rEqA K) (tVar 3) (tC (.int 1)))) (tAsg (tRevL K (tVar 2)) (gName 2)) tNext) (tSeq (tIfS (tTest (tOp (rEqA K) (tVar 3) (tC (.int 2)))) (tAsg (tLc (iRng1 (tCons (tVar 1) tNil)) (gName 4) tYes (tBM K "list" rPopAt (tVar 2) (tCons (tCall (sp_law_draw K w) [] E0 (tCons (tVar 0) (tCons (tCB (rLenA K) (tCons (tVar 2) tNil)) tNil))) tNil)) [4]) (gName 2)) tNext) (tSeq (tAsg (tLst tNil) (gName 5)) (tSeq (tAsg (tLst tNil) (gName 6)) (tSeq (tFor (iRng1 (tCons (tOp (rSubA) (tVar 1) (tC (.int 1))) tNil)) (gName 4) (tSeq (tAsg (tOp (rMulA) (tLst (tCons (tC (.int 241)) tNil)) (tCall (sp_law_draw K w) [] E0 (tCons (tVar 0) (tCons (tC (.int 2)) tNil)))) (gName 7)) (tSeq (tAsg (tOp (rIx K) (tLst (tCons (tC (.int 224)) (tCons (tC (.int 224)) (tCons (tC (.int 225)) (tCons (tC (.int 229)) tNil))))) (tCall (sp_law_draw K w) [] E0 (tCons (tVar 0) (tCons (tC (.int 4)) tNil)))) (gName 8)) (tSeq (tDrop (tBM K "list" rAppend (tVar 5) (tCons (tOp (rAddA K) (tOp (rAddA K) (tVar 7) (tLst (tCons (tVar 8) (tCons (tC (.int 0)) tNil)))) (tOp (rMulA) (tLst (tCons (tC (.int 0)) tNil)) (tCB (rInt1) (tCons (tOp (rNeA K) (tVar 8) (tC (.int 224))) tNil)))) tNil))) (tDrop (tBM K "list" rAppend (tVar 6) (tCons (tOp (rAddA K) (tCB (rLenA K) (tCons (tVar 7) tNil)) (tC (.int 1))) tNil))))))) (tSeq (tAsg (tOp (rAddA K) (tC (.int 3)) (tCB (rSum K) (tCons (tLc (iSeq K (tVar 5)) (gName 10) tYes (tCB (rLenA K) (tCons (tVar 10) tNil)) [10]) tNil))) (gName 9)) (tSeq (tDrop (tBM K "list" rAppend (tVar 5) (tCons (tOp (rAddA K) (tOp (rMulA) (tLst (tCons (tOp (rIx K) (tLst (tCons (tC (.int 2)) (tCons (tC (.int 241)) tNil))) (tCall (sp_law_draw K w) [] E0 (tCons (tVar 0) (tCons (tC (.int 2)) tNil)))) tNil)) (tCall (sp_law_draw K w) [] E0 (tCons (tVar 0) (tCons (tOp (rSubA) (tC (.int 201)) (tVar 9)) tNil)))) (tLst (tCons (tC (.int 0)) tNil))) tNil))) (tSeq (tAsg (tOp (rMulA) (tLst (tCons (tC (.int 2)) tNil)) (tVar 1)) (gName 11)) (tSeq (tAsg (tC (.int 2)) (gName 12)) (tSeq (tFor (iSeq K (tVar 2)) (gName 4) (tSeq (tAsg (tVar 12) (gSub (tVar 11) (tVar 4) rSetL)) (tAsg (tOp (rAddA K) (tVar 12) (tCB (rLenA K) (tCons (tOp (rIx K) (tVar 5) (tVar 4)) tNil))) (gName 12)))) (tSeq (tFor (iRng1 (tCons (tOp (rSubA) (tVar 1) (tC (.int 1))) tNil)) (gName 4) (tAsg (tOp (rIx K) (tVar 11) (tOp (rAddA K) (tVar 4) (tC (.int 1)))) (gSub (tOp (rIx K) (tVar 5) (tVar 4)) (tOp (rIx K) (tVar 6) (tVar 4)) rSetL))) (tSeq (tAsg (tLst (tCons (tC (.int 224)) (tCons (tOp (rIx K) (tVar 11) (tC (.int 0))) tNil))) (gName 13)) (tSeq (tFor (iSeq K (tVar 2)) (gName 4) (tAsg (tOp (rAddA K) (tVar 13) (tOp (rIx K) (tVar 5) (tVar 4))) (gName 13))) (tRet (tVar 13))))))))))))))))))
abbrev N_law_blocks : List Str := ["_law_reel_here", "_law_many", "_law_order", "_law_way", "_law_k", "_law_blocks_here", "_law_goes", "_law_ahead", "_law_first", "_law_size", "_law_block", "_law_starts", "_law_at", "_law_code_here"]

end Rl
/-! short words: rd goes through a reading as far as it can; hx, sq find what stands in a heap -/
local macro_rules | `(tactic| lcg_sub) => `(tactic| first
  | with_reducible assumption
  | with_reducible exact L2.upd_same
  | ((with_reducible apply Rl.upd_get); (focus (with_reducible assumption)); lcg_sub)
  | ((with_reducible apply Rl.upd_mut); (focus (with_reducible assumption)); lcg_sub)
  | ((with_reducible apply Rl.Fx.at); (focus (with_reducible assumption)); (focus (with_reducible assumption)); lcg_sub))
local macro_rules | `(tactic| lcg_off) => `(tactic| first
  | with_reducible assumption
  | with_reducible exact Rl.same_upd (by with_reducible assumption)
  | with_reducible exact Rl.Same.but (Rl.same_upd (by with_reducible assumption))
  | with_reducible exact Rl.Same.but (by with_reducible assumption))
local macro_rules | `(tactic| k_subL) => `(tactic| first
  | with_reducible assumption
  | with_reducible exact L2.Same.refl _
  | ((with_reducible apply Rl.sm_bmut); k_subL)
  | ((with_reducible apply Rl.sm_new); (focus (with_reducible assumption)); k_subL)
  | ((with_reducible apply Rl.sm_bnew); (focus (with_reducible assumption)); k_subL)
  | ((with_reducible apply Rl.sm_by); (focus (with_reducible assumption)); k_subL)
  | ((with_reducible apply Rl.sm_bby); (focus (with_reducible assumption)); k_subL)
  | ((with_reducible apply Rl.Same.mut); (focus (with_reducible assumption)); k_subL)
  | ((with_reducible apply Rl.Fx.same); (focus (with_reducible assumption)); (focus (with_reducible assumption)); k_subL))
local macro_rules | `(tactic| lcg_src) => `(tactic| first
  | with_reducible assumption
  | ((with_reducible apply L2.SqL.of); lcg_sub; done)
  | ((with_reducible apply L2.SqT.of); lcg_sub; done)
  | ((with_reducible apply Rl.SqL.mono); (focus (lcg_off)); lcg_src)
  | ((with_reducible apply Rl.SqT.mono); (focus (lcg_off)); lcg_src)
  | ((with_reducible apply Rl.Dp.mono); (focus (lcg_off)); lcg_src)
  | ((with_reducible apply Rl.Code.mono); (focus (lcg_off)); lcg_src))
local macro_rules | `(tactic| k_caughtN0) => `(tactic| first
  | assumption
  | (refine Nat.le_trans (m := 1000) (by simp only [List.length_cons, List.length_nil]; omega) (by decide))
  | omega)
local macro_rules | `(tactic| k_caughtB) => `(tactic| first
  | assumption
  | decide
  | omega)
local macro_rules | `(tactic| k_clsL) => `(tactic| first
  | exact Rl.R.cmul1 (by omega) (by omega)
  | exact Rl.R.cmul2 (by omega) (by omega)
  | exact Rl.R.cmul2 (by decide) (by decide)
  | exact Rl.R.cmul1 (by decide) (by decide))
local macro_rules | `(tactic| k_offL) => `(tactic| first
  | exact Rl.R.cdivL (by decide)
  | exact Rl.R.cdiv (by first | assumption | omega) (by first | assumption | omega))
local macro_rules | `(tactic| k_caught0) => `(tactic| repeat (first
  | with_reducible refine Rl.R.var ?_
  | with_reducible refine Rl.R.c ?_
  | with_reducible refine Rl.R.op ?_
  | with_reducible refine Rl.R.cons ?_
  | with_reducible refine Rl.R.nil ?_
  | with_reducible refine Rl.R.asg ?_
  | with_reducible refine Rl.R.gName ?_
  | with_reducible refine Rl.R.seq ?_
  | with_reducible refine Rl.R.cb ?_
  | with_reducible refine Rl.R.test ?_
  | with_reducible refine Rl.R.bl ?_
  | with_reducible refine Rl.R.eqIx ?_
  | with_reducible refine Rl.R.eqI ?_
  | with_reducible refine Rl.R.addI ?_
  | with_reducible refine Rl.R.ifS ?_
  | with_reducible refine Rl.R.next ?_
  | with_reducible refine Rl.R.tB' ?_
  | with_reducible refine Rl.R.ret ?_
  | with_reducible refine Rl.R.iT ?_
  | with_reducible refine Rl.R.iF ?_
  | with_reducible refine Rl.R.iFO ?_
  | with_reducible refine Rl.R.iTO ?_
  | with_reducible refine Rl.R.iTA ?_
  | with_reducible refine Rl.R.iFA ?_
  | ((with_reducible refine Rl.R.iDT ?_ ?_); (focus (exact rfl)))
  | with_reducible refine Rl.R.call ?_
  | with_reducible refine Rl.R.bm ?_
  | with_reducible refine Rl.R.rev ?_
  | ((with_reducible apply Rl.R.tyL); (focus (lcg_sub; done)))
  | with_reducible refine Rl.R.lstRg ?_
  | with_reducible refine Rl.R.rg1 ?_
  | with_reducible refine Rl.R.rg2 ?_
  | with_reducible refine Rl.R.exII ?_
  | with_reducible refine Rl.R.strIter ?_
  | with_reducible refine Rl.R.pairsC ?_
  | with_reducible refine Rl.R.pairsN ?_
  | with_reducible refine Rl.R.dget ?_
  | with_reducible refine Rl.R.inS ?_
  | with_reducible refine Rl.R.app ?_
  | with_reducible refine Rl.R.tup ?_
  | with_reducible refine Rl.R.lst ?_
  | with_reducible refine Rl.R.subI ?_
  | with_reducible refine Rl.R.ltI ?_
  | with_reducible refine Rl.R.leI ?_
  | with_reducible refine Rl.R.gtI ?_
  | with_reducible refine Rl.R.geI ?_
  | with_reducible refine Rl.R.eqSx ?_
  | with_reducible refine Rl.R.eqBx ?_
  | with_reducible refine Rl.R.neBx ?_
  | with_reducible refine Rl.R.neIx ?_
  | with_reducible refine Rl.R.neSx ?_
  | with_reducible refine Rl.R.isNb ?_
  | with_reducible refine Rl.R.isNs ?_
  | with_reducible refine Rl.R.notNb ?_
  | with_reducible refine Rl.R.notNs ?_
  | with_reducible refine Rl.R.eqS ?_
  | with_reducible refine Rl.R.notNr ?_
  | with_reducible refine Rl.R.notNn ?_
  | with_reducible refine Rl.R.notNi ?_
  | with_reducible refine Rl.R.isNr ?_
  | with_reducible refine Rl.R.isNn ?_
  | with_reducible refine Rl.R.isNi ?_
  | with_reducible refine Rl.R.intI ?_
  | with_reducible refine Rl.R.intB ?_
  | with_reducible refine Rl.R.neI ?_
  | with_reducible refine Rl.R.neS ?_
  | with_reducible refine Rl.R.eqB ?_
  | with_reducible refine Rl.R.neB ?_
  | with_reducible refine Rl.R.and3 ?_
  | with_reducible refine Rl.R.shr4 ?_
  | with_reducible refine Rl.R.shr2 ?_
  | with_reducible refine Rl.R.orI ?_
  | with_reducible refine Rl.R.xorI ?_
  | with_reducible refine Rl.R.ifE ?_
  | with_reducible refine Rl.R.par ?_
  | with_reducible refine Rl.R.par3 ?_
  | with_reducible refine Rl.R.ex2 ?_
  | with_reducible refine Rl.R.ex3 ?_
  | with_reducible refine Rl.R.not' ?_
  | with_reducible refine Rl.R.iNot ?_
  | with_reducible refine Rl.R.sl ?_
  | with_reducible refine Rl.R.noPart ?_
  | with_reducible refine Rl.R.part ?_
  | with_reducible refine Rl.R.exI ?_
  | with_reducible refine Rl.R.abs' ?_
  | with_reducible refine Rl.R.min2 ?_
  | with_reducible refine Rl.R.max2 ?_
  | with_reducible refine Rl.R.drop ?_
  | with_reducible refine Rl.R.retN ?_
  | with_reducible refine Rl.R.gSub ?_
  | with_reducible refine Rl.R.for' ?_
  | with_reducible refine Rl.R.seqIter ?_
  | with_reducible refine Rl.R.rng1 ?_
  | with_reducible refine Rl.R.rng2 ?_
  | with_reducible refine Rl.R.aug ?_
  | with_reducible refine Rl.R.ipA ?_
  | with_reducible refine Rl.R.un ?_
  | with_reducible refine Rl.R.neg ?_
  | with_reducible refine Rl.R.tru ?_
  | with_reducible refine Rl.R.yes ?_
  | with_reducible refine Rl.R.andV ?_
  | with_reducible refine Rl.R.orV ?_
  | with_reducible refine Rl.R.notV ?_
  | with_reducible refine Rl.R.isN ?_
  | with_reducible refine Rl.R.notN ?_
  | ((with_reducible refine Rl.R.and15 ?_ ?_); (focus (k_caughtB)))
  | with_reducible refine Rl.R.andI ?_
  | ((with_reducible refine Rl.R.modI ?_ ?_); (focus (k_caughtB)))
  | ((with_reducible refine Rl.R.shrI ?_ ?_); (focus (k_caughtB)))
  | ((with_reducible apply Rl.R.inKDi); (focus assumption))
  | ((with_reducible apply Rl.R.inKDs); (focus assumption))
  | ((with_reducible apply Rl.R.isiD); (focus (lcg_src; done)); (focus (first | exact (rfl : _ = some false) | exact (rfl : _ = some true))))
  | ((with_reducible apply Rl.R.lenLI); (focus (lcg_src; done)))
  | ((with_reducible apply Rl.R.lenTI); (focus (lcg_src; done)))
  | ((with_reducible apply Rl.R.lenL); (focus (lcg_src; done)))
  | ((with_reducible apply Rl.R.lenT); (focus (lcg_src; done)))
  | ((with_reducible apply Rl.R.lenC); (focus (lcg_src; done)))
  | ((with_reducible apply Rl.R.setL); (focus (lcg_sub; done)); (focus (exact rfl)))
  | ((with_reducible apply Rl.R.ixT0); (focus (lcg_src; done)))
  | ((with_reducible apply Rl.R.ixT1); (focus (lcg_src; done)))
  | ((with_reducible apply Rl.R.ixL0); (focus (lcg_src; done)))
  | ((with_reducible apply Rl.R.ixL1); (focus (lcg_src; done)))
  | ((with_reducible apply Rl.R.ixL); (focus (lcg_src; done)); (focus (exact rfl)))
  | ((with_reducible apply Rl.R.ixT); (focus (lcg_src; done)); (focus (exact rfl)))
  | ((with_reducible refine Rl.R.powI ?_ ?_); (focus (exact Rl.R.cpow (by decide))))
  | ((with_reducible refine Rl.R.mulI ?_ ?_); (focus (k_clsL; done)))
  | ((with_reducible refine Rl.R.divI ?_ ?_); (focus (k_offL; done)))
  | ((with_reducible apply Rl.R.andB); (focus (intro QB h; k_caught0; exact h)); (focus (intro hb QB h; k_caught0; exact h)))
  | ((with_reducible apply Rl.R.orB); (focus (intro QB h; k_caught0; exact h)); (focus (intro hb QB h; k_caught0; exact h)))
  | ((with_reducible apply Rl.R.chainB); (focus (intro Q h; k_caught0; exact h)); (focus (intro Q h; k_caught0; exact h)); (focus (intro Q h; k_caught0; exact h)); (focus (intro hb Q h; k_caught0; exact h)); (focus (intro hb Q h; k_caught0; exact h)))))
namespace Rl
open PySem PySem.Spec PyProof.Rows L2
section
variable {K : PySem.W.Frag} {w : World}
theorem len_short_row {vs : List V} {H : Hp} {Q : VK} {E : XK} (h : sp_short_row K w vs H Q E) : vs.length = 1 := by
  obtain ⟨b, rfl, _⟩ := h
  rfl
theorem atI_alone {i : Int} (h0 : 0 ≤ i) (h3 : i < 3) : atI ([.str "halt", .str "back", .str "rest"] : List V) i = some (.str (alone i)) := by
  obtain rfl | rfl | rfl : i = 0 ∨ i = 1 ∨ i = 2 := by omega
  all_goals rfl
theorem atI_single {i : Int} (h0 : 0 ≤ i) (h3 : i < 4) : atI ([.str "in", .str "out", .str "keep", .str "take"] : List V) i = some (.str (single i)) := by
  obtain rfl | rfl | rfl | rfl : i = 0 ∨ i = 1 ∨ i = 2 ∨ i = 3 := by omega
  all_goals rfl
theorem atI_target {i : Int} (h0 : 0 ≤ i) (h3 : i < 6) : atI ([.str "go", .str "zero", .str "nonzero", .str "less", .str "notless", .str "call"] : List V) i = some (.str (target i)) := by
  obtain rfl | rfl | rfl | rfl | rfl | rfl : i = 0 ∨ i = 1 ∨ i = 2 ∨ i = 3 ∨ i = 4 ∨ i = 5 := by omega
  all_goals rfl
theorem dec_alone {b : Int} (h : b < 3) : dec b = some (alone b, .e) := by
  unfold dec
  exact if_pos h
theorem dec_single {b : Int} (h : ¬ b < 3) (h2 : b / 16 = 15) : dec b = some (single (b % 4), .r) := by
  unfold dec
  rw [if_neg h, if_pos h2]
theorem dec_pair {b : Int} {z : Str} (h : ¬ b < 3) (h2 : ¬ b / 16 = 15) (h3 : pairT.lookup (b / 16) = some z) : dec b = some (z, .rs) := by
  unfold dec
  rw [if_neg h, if_neg h2, h3]
theorem dec_rest {b : Int} (h : ¬ b < 3) (h2 : ¬ b / 16 = 15) (h3 : pairT.lookup (b / 16) = none) : dec b = if b / 16 = 14 ∧ b % 16 < 6 then some (target (b % 16), .n) else match numT.lookup (b / 16) with
        | some w => if b % 4 = 0 then some (w, .rn) else none
        | none => none := by
  unfold dec
  rw [if_neg h, if_neg h2, h3]
  all_goals rfl
theorem pure_short_row (F : MachC K w) {vs : List V} {H : Hp} {Q : VK} {E : XK} (h : sp_short_row K w vs H Q E) : t_short_row K w { nx := fun _ H' => Q .non H', rt := Q } (start N_short_row vs) H := by
  obtain ⟨b, rfl, h0, h1, q⟩ := h
  unfold t_short_row
  k_caught0
  refine R.ixS (by decide) (atI_abcd (by omega) (by omega)) ?_
  have hA := F.alone H
  k_caught0
  refine R.iD (fun hb => ?_) (fun hb => ?_)
  · have hb3 : b < 3 := hb
    k_caught0
    refine R.ixT hA (atI_alone h0 hb3) ?_
    k_caught0
    refine ⟨by k_caughtN0, fun p hp => q _ _ (same_upd hp) ?_⟩
    have e : optD (if isLong b = true then none else rowD b 0) = .tuple [.str (alone b)] := by
      unfold isLong rowD
      rw [dec_alone hb3]
      rfl
    rw [e]
    exact .tup (SqT.of upd_same) (.cons (.str _) .nil)
  · have hb3 : ¬ b < 3 := hb
    k_caught0
    refine R.iD (fun hk => ?_) (fun hk => ?_)
    · k_caught0
      refine R.ixT (F.single H) (atI_single (by omega) (by omega)) ?_
      k_caught0
      refine ⟨by k_caughtN0, fun p hp => q _ _ (same_upd hp) ?_⟩
      have e : optD (if isLong b = true then none else rowD b 0) = .tuple [.str (single (b % 4)), .str (boxR b)] := by
        unfold isLong rowD
        rw [dec_single hb3 hk]
        rfl
      rw [e]
      exact .tup (SqT.of upd_same) (.cons (.str _) (.cons (.str _) .nil))
    · k_caught0
      have hP := F.pairs
      k_caught0
      rw [R.valV_ints (f := V.str)]
      cases hp : pairT.lookup (b / 16) with
      | some z =>
        k_caught0
        refine R.iT ?_
        k_caught0
        refine R.ixKDi F.pairs (by rw [R.valV_ints (f := V.str), hp]; rfl) ?_
        k_caught0
        refine R.ixS (by decide) (atI_abcd (by omega) (by omega)) ?_
        k_caught0
        refine ⟨by k_caughtN0, fun p hp' => q _ _ (same_upd hp') ?_⟩
        have e : optD (if isLong b = true then none else rowD b 0) = .tuple [.str z, .str (boxR b), .str (boxS b)] := by
          unfold isLong rowD
          rw [dec_pair hb3 hk hp]
          rfl
        rw [e]
        exact .tup (SqT.of upd_same) (.cons (.str _) (.cons (.str _) (.cons (.str _) .nil)))
      | none =>
        refine R.iF ?_
        k_caught0
        refine q _ _ (Same.refl _) ?_
        have hd := dec_rest hb3 hk hp
        have e : optD (if isLong b = true then none else rowD b 0) = .none := by
          by_cases h14 : b / 16 = 14 ∧ b % 16 < 6
          · rw [if_pos h14] at hd
            unfold isLong rowD
            rw [hd]
            rfl
          · rw [if_neg h14] at hd
            cases hn : numT.lookup (b / 16) with
            | none =>
              rw [hn] at hd
              unfold isLong rowD
              rw [hd]
              rfl
            | some z =>
              rw [hn] at hd
              by_cases h4 : b % 4 = 0
              · have hd2 : dec b = some (z, .rn) := by
                  rw [hd]
                  exact if_pos h4
                unfold isLong rowD
                rw [hd2]
                rfl
              · have hd2 : dec b = none := by
                  rw [hd]
                  exact if_neg h4
                unfold isLong rowD
                rw [hd2]
                rfl
        rw [e]
        exact .non
theorem len_long_row {vs : List V} {H : Hp} {Q : VK} {E : XK} (h : sp_long_row K w vs H Q E) : vs.length = 2 := by
  obtain ⟨b, n, rfl, _⟩ := h
  rfl
theorem dec_n {b : Int} (h0 : 0 ≤ b) (h : b / 16 = 14) (h2 : b % 16 < 6) : dec b = some (target (b % 16), .n) := by
  rw [dec_rest (by omega) (by omega) (by rw [h]; rfl), if_pos ⟨h, h2⟩]
theorem num_pair {k : Int} {z : Str} (h : numT.lookup k = some z) : pairT.lookup k = none ∧ k ≠ 15 ∧ k ≠ 14 ∧ 1 ≤ k := by
  unfold numT at h
  simp only [List.lookup_cons] at h
  split at h
  · rename_i q
    rw [beq_iff_eq.mp q]
    exact ⟨rfl, by decide, by decide, by decide⟩
  · split at h
    · rename_i q
      rw [beq_iff_eq.mp q]
      exact ⟨rfl, by decide, by decide, by decide⟩
    · split at h
      · rename_i q
        rw [beq_iff_eq.mp q]
        exact ⟨rfl, by decide, by decide, by decide⟩
      · split at h
        · rename_i q
          rw [beq_iff_eq.mp q]
          exact ⟨rfl, by decide, by decide, by decide⟩
        · cases h
theorem dec_rn {b : Int} {z : Str} (h : numT.lookup (b / 16) = some z) (h2 : b % 4 = 0) : dec b = some (z, .rn) := by
  obtain ⟨p1, p2, p3, p4⟩ := num_pair h
  rw [dec_rest (by omega) p2 p1, if_neg (fun q => p3 q.1), h]
  exact if_pos h2
/-- what is no long row -/
theorem not_long {b n : Int} (h1 : ¬ (b / 16 = 14 ∧ b % 16 < 6)) (h2 : ∀ z, numT.lookup (b / 16) = some z → ¬ b % 4 = 0) : optD (if isLong b = true then rowD b n else none) = .none := by
  have e : isLong b = false := by
    unfold isLong
    by_cases a : b < 3
    · rw [dec_alone a]
    · by_cases c : b / 16 = 15
      · rw [dec_single a c]
      · cases hp : pairT.lookup (b / 16) with
        | some z => rw [dec_pair a c hp]
        | none =>
          rw [dec_rest a c hp, if_neg h1]
          cases hn : numT.lookup (b / 16) with
          | none => rfl
          | some z =>
            dsimp only
            rw [if_neg (h2 z hn)]
  rw [e]
  rfl
theorem pure_long_row (F : MachC K w) {vs : List V} {H : Hp} {Q : VK} {E : XK} (h : sp_long_row K w vs H Q E) : t_long_row K w { nx := fun _ H' => Q .non H', rt := Q } (start N_long_row vs) H := by
  obtain ⟨b, n, rfl, h0, h1, q⟩ := h
  unfold t_long_row
  k_caught0
  refine R.ixS (by decide) (atI_abcd (by omega) (by omega)) ?_
  have hA := F.targets H
  k_caught0
  refine R.iAnd (fun h14 hl => ?_) (fun hno => ?_)
  · have hl6 : b % 16 < 6 := hl
    k_caught0
    refine R.ixT hA (atI_target (by omega) hl6) ?_
    k_caught0
    refine ⟨by k_caughtN0, fun p hp => q _ _ (same_upd hp) ?_⟩
    have e : optD (if isLong b = true then rowD b n else none) = .tuple [.str (target (b % 16)), .int n] := by
      unfold isLong rowD
      rw [dec_n h0 h14 hl6]
      rfl
    rw [e]
    exact .tup (SqT.of upd_same) (.cons (.str _) (.cons (.int _) .nil))
  · have hno' : ¬ (b / 16 = 14 ∧ b % 16 < 6) := hno
    have hN := F.nums
    k_caught0
    rw [R.valV_ints (f := V.str)]
    cases hn : numT.lookup (b / 16) with
    | some z =>
      refine R.iB (fun h4 => ?_) (fun h4 => ?_)
      · have h4' : b % 16 % 4 = 0 := of_decide_eq_true h4
        k_caught0
        refine R.ixKDi hN (by rw [R.valV_ints (f := V.str), hn]; rfl) ?_
        k_caught0
        refine ⟨by k_caughtN0, fun p hp => q _ _ (same_upd hp) ?_⟩
        have e : optD (if isLong b = true then rowD b n else none) = .tuple [.str z, .str (boxR b), .int n] := by
          unfold isLong rowD
          rw [dec_rn hn (by omega)]
          rfl
        rw [e]
        exact .tup (SqT.of upd_same) (.cons (.str _) (.cons (.str _) (.cons (.int _) .nil)))
      · have h4' : ¬ b % 16 % 4 = 0 := of_decide_eq_false h4
        k_caught0
        refine q _ _ (Same.refl _) ?_
        rw [not_long hno' fun _ _ => by omega]
        exact .non
    | none =>
      refine R.iF ?_
      k_caught0
      refine q _ _ (Same.refl _) ?_
      rw [not_long hno' fun z hz => by rw [hn] at hz; cases hz]
      exact .non
theorem len_row_at {vs : List V} {H : Hp} {Q : VK} {E : XK} (h : sp_row_at K w vs H Q E) : vs.length = 2 := by
  obtain ⟨c, ns, a, rfl, _⟩ := h
  rfl
theorem pure_row_at (F : MachC K w) {vs : List V} {H : Hp} {Q : VK} {E : XK} (h : sp_row_at K w vs H Q E) : t_row_at K w { nx := fun _ H' => Q .non H', rt := Q } (start N_row_at vs) H := by
  obtain ⟨c, ns, a, rfl, hc, hb, q⟩ := h
  unfold t_row_at
  k_caught0
  refine R.iAnd (fun h0 h1 => ?_) (fun hno => ?_)
  · have hat : rowAt ns a = (if isLong (ns.getD a.toNat 0) = true then (if a + 1 < ns.length then (rowD (ns.getD a.toNat 0) (ns.getD (a.toNat + 1) 0)).map fun l => (l, 2) else none)
      else (rowD (ns.getD a.toNat 0) 0).map fun l => (l, 1)) := by
      unfold rowAt
      exact if_pos ⟨h0, h1⟩
    k_caught0
    refine R.ixC hc h0 h1 ?_
    intro m hm hmem
    have hgd : ns.getD a.toNat 0 = m := by
      rw [List.getD_eq_getElem?_getD, hm]
      rfl
    rw [hgd] at hat
    k_caught0
    refine ⟨m, rfl, (hb m hmem).1, (hb m hmem).2, fun v H1 e1 hd1 => ?_⟩
    cases hs : (if isLong m = true then none else rowD m 0) with
    | some l =>
      rw [hs] at hd1
      have hL : isLong m = false := by
        cases q : isLong m with
        | false => rfl
        | true =>
          rw [q, if_pos rfl] at hs
          cases hs
      rw [hL, if_neg Bool.false_ne_true] at hs hat
      rw [hs] at hat
      obtain ⟨p1, xs, rfl, hx, ha⟩ := dp_tup hd1
      k_caught0
      refine ⟨by k_caughtN0, fun p hp => q _ _ (e1.trans (same_upd hp)) ?_⟩
      rw [hat]
      exact .tup (SqT.of upd_same) (.cons (Dp.mono (same_upd hp) hd1) (.cons (.int _) .nil))
    | none =>
      rw [hs] at hd1
      cases dp_none hd1
      k_caught0
      refine R.iD (fun h2 => ?_) (fun h2 => ?_)
      · k_caught0
        refine R.ixC (Code.mono e1 hc) h0 h1 ?_
        intro m' hm' _
        have em : m' = m := Option.some.inj (hm'.symm.trans hm)
        subst em
        k_caught0
        refine R.ixC (Code.mono e1 hc) (by omega) h2 ?_
        intro n hn hnm
        k_caught0
        refine ⟨m', n, rfl, (hb m' hmem).1, (hb m' hmem).2, fun v H2 e2 hd2 => ?_⟩
        have hgn : ns.getD (a.toNat + 1) 0 = n := by
          have ei : (a + 1).toNat = a.toNat + 1 := by omega
          rw [List.getD_eq_getElem?_getD, ← ei, hn]
          rfl
        rw [hgn, if_pos h2] at hat
        cases hl : isLong m' with
        | true =>
          rw [hl, if_pos rfl] at hd2 hat
          cases hr : rowD m' n with
          | none =>
            rw [hr] at hd2 hat
            cases dp_none hd2
            k_caught0
            refine q _ _ (e1.trans e2) ?_
            rw [hat]
            exact .non
          | some l =>
            rw [hr] at hd2 hat
            obtain ⟨p1, xs, rfl, hx, ha⟩ := dp_tup hd2
            k_caught0
            refine ⟨by k_caughtN0, fun p hp => q _ _ ((e1.trans e2).trans (same_upd hp)) ?_⟩
            rw [hat]
            exact .tup (SqT.of upd_same) (.cons (Dp.mono (same_upd hp) hd2) (.cons (.int _) .nil))
        | false =>
          rw [hl, if_neg Bool.false_ne_true] at hd2 hat hs
          cases dp_none hd2
          k_caught0
          refine q _ _ (e1.trans e2) ?_
          rw [hat, hs]
          exact .non
      · k_caught0
        refine q _ _ e1 ?_
        have e : rowAt ns a = none := by
          rw [hat]
          cases hl : isLong m with
          | true => rw [if_pos rfl, if_neg h2]
          | false =>
            rw [hl, if_neg Bool.false_ne_true] at hs
            rw [if_neg Bool.false_ne_true, hs]
            rfl
        rw [e]
        exact .non
  · k_caught0
    refine q _ _ (Same.refl _) ?_
    unfold rowAt
    rw [if_neg hno]
    exact .non
end
end Rl
namespace Rl
open PySem PySem.Spec PyProof.Rows L2
section
variable {K : PySem.W.Frag} {w : World}
theorem pure_law_draw {F : Prop} (_ : F) {vs : List V} {H : Hp} {Q : VK} {E : XK} (h : sp_law_draw K w vs H Q E) : t_law_draw K w { nx := fun _ H' => Q .non H', rt := Q } (start N_law_draw vs) H := by
  obtain ⟨r, m, S, rfl, hR, hm0, hm1, q⟩ := h
  obtain ⟨g, c, k, st, gs, cs, hr, hg, hc, ngr, ncr, hne, hgl, hs0, hs1, hSg, hSc, hSr, hS⟩ := id hR
  unfold t_law_draw
  k_caught0
  refine ⟨by k_caughtN0, fun p hp => ?_⟩
  have hg1 : SqL K (upd H p (.lst [])) g (gs.map V.int) := SqL.of (upd_get hp hg)
  refine R.neD (SqL.ints hg1) (.lst (SqL.of upd_same) .nil) (shaped_ints gs) (shaped_ints []) ?_
  k_caught0
  rw [eqv_ints_nil]
  have hr1 : (upd H p (.lst [])) r = some (.lst [.ref g, .ref c, .int k, .int st]) := upd_get hp hr
  refine R.iB (fun he => ?_) (fun he => ?_)
  · k_caught0
    have hc1 : SqL K (upd (upd H p (.lst [])) r (.lst ([.ref g, .ref c, .int k, .int st].set 2 (.int (k + 1))))) c (cs.map V.int) :=
      SqL.of (upd_mut ncr (upd_get hp hc))
    have hlen : 0 < (cs.length : Int) := by
      cases cs with
      | nil => exact absurd rfl hne
      | cons x xs => rw [List.length_cons]; omega
    k_caught0
    refine R.ixLI hc1 (Int.emod_nonneg _ (by omega)) (Int.emod_lt_of_pos _ hlen) ?_
    intro t ht htm
    k_caught0
    refine R.mulI (.inr (wide_mul (a := 127) (b := 127) (by omega) (by omega) (by decide) (by decide) (by decide))) ?_
    k_caught0
    refine q _ _ ?_ ?_ (Int.emod_nonneg _ (by omega)) (Int.emod_lt_of_pos _ hm0)
    · k_subL
    · refine ⟨g, c, _, _, gs, cs, upd_same, by lcg_sub, by lcg_sub, ngr, ncr, hne, hgl, Int.emod_nonneg _ (by decide), ?_, hSg, hSc, hSr, ?_⟩
      · exact Int.lt_of_lt_of_le (Int.emod_lt_of_pos _ (by decide)) (by decide)
      · intro a ha
        have na : a ≠ r := fun z => hSr (z ▸ ha)
        obtain ⟨o, ho⟩ := hS a ha
        exact ⟨o, by lcg_sub⟩
  · obtain ⟨g0, gr, rfl⟩ : ∃ g0 gr, gs = g0 :: gr := by
      cases gs with
      | nil => cases he
      | cons x xs => exact ⟨x, xs, rfl⟩
    k_caught0
    refine ⟨by k_caughtN0, fun l hl => ?_⟩
    k_caught0
    refine R.repIfI upd_same ?_
    intro l2 hl2
    k_caught0
    refine R.slFromI (SqL.mono (by k_subL) hg1) (by decide) ?_
    intro l3 hl3
    k_caught0
    refine R.catI (by lcg_sub) (by lcg_sub) ?_ ?_
    · refine Nat.le_trans (m := 1002) ?_ (by decide)
      rw [List.length_drop]
      have h1 : (if decide (m ≤ g0) = true then [g0 / m] else []).length ≤ 1 := by
        split
        · exact Nat.le_refl _
        · exact Nat.zero_le _
      omega
    intro l4 hl4
    k_caught0
    have n4 : l4 ≠ r := (ne_of_none (by lcg_sub : _ = some (.lst [.ref g, .ref c, .int k, .int st])) hl4).symm
    refine q _ _ ?_ ?_ (Int.emod_nonneg _ (by omega)) (Int.emod_lt_of_pos _ hm0)
    · k_subL
    · refine ⟨l4, c, _, _, _, cs, upd_same, upd_mut n4 upd_same, by lcg_sub, n4, ncr, hne, ?_, hs0, hs1, ?_, hSc, hSr, ?_⟩
      · rw [List.length_append, List.length_drop]
        have h1 : (if decide (m ≤ g0) = true then [g0 / m] else []).length ≤ 1 := by
          split
          · exact Nat.le_refl _
          · exact Nat.zero_le _
        have h2 : (g0 :: gr).length - Int.toNat 1 = gr.length := rfl
        rw [h2]
        rw [List.length_cons] at hgl
        omega
      · intro z
        obtain ⟨o, ho⟩ := hS _ z
        refine ne_of_none (o := o) ?_ hl4 rfl
        lcg_sub
      · intro a ha
        have na : a ≠ r := fun z => hSr (z ▸ ha)
        obtain ⟨o, ho⟩ := hS a ha
        exact ⟨o, by lcg_sub⟩
theorem pure_law_reel {F : Prop} (_ : F) {vs : List V} {H : Hp} {Q : VK} {E : XK} (h : sp_law_reel K w vs H Q E) : t_law_reel K w { nx := fun _ H' => Q .non H', rt := Q } (start N_law_reel vs) H := by
  obtain ⟨a, ns, rfl, hS, hl, q⟩ := h
  unfold t_law_reel
  k_caught0
  refine R.slToI hS (by decide) ?_
  intro l1 hl1
  k_caught0
  have hS1 : SqL K (upd H l1 (.lst ((ns.take 63).map V.int))) a (ns.map V.int) := SqL.mono (same_upd hl1) hS
  refine R.forL (xs := (ns.take 63).map V.int) (fun i σ H' => ∃ st v, σ = [some (.ref a), some (.int st), v, none] ∧ H' = upd H l1 (.lst ((ns.take 63).map V.int)) ∧ 0 ≤ st ∧ st < 2 ^ 127) (SqL.of upd_same) ⟨3 ^ 60, none, rfl, rfl, by decide, by decide⟩ (fun i σ H' hi hp => ?_) ?_ ?_
  · obtain ⟨st, v, rfl, rfl, _⟩ := hp
    exact SqL.of upd_same
  · rintro i x σ H' hx hi ⟨st, v, rfl, rfl, hs0, hs1⟩
    obtain ⟨n, rfl⟩ : ∃ n, x = .int n := by
      rw [List.getElem?_map] at hx
      cases e : (ns.take 63)[i]? with
      | none =>
        rw [e] at hx
        cases hx
      | some n =>
        rw [e] at hx
        exact ⟨n, (Option.some.inj hx).symm⟩
    k_caught0
    refine R.mulI (.inr (wide_mul (a := 127) (b := 127) (by omega) (by omega) (by decide) (by decide) (by decide))) ?_
    k_caught0
    refine ⟨_, _, rfl, rfl, Int.emod_nonneg _ (by decide), ?_⟩
    exact Int.lt_of_lt_of_le (Int.emod_lt_of_pos _ (by decide)) (by decide)
  · rintro σ H' ⟨st, v, rfl, rfl, hs0, hs1⟩
    k_caught0
    refine R.lc ?_
    k_caught0
    refine R.slToI (SqL.mono (by k_subL) hS) (by decide) ?_
    intro l2 hl2
    k_caught0
    refine R.lcFMI (ns := ns.take 63) (fun n => decide (10 ^ Int.toNat 18 ≤ n)) (fun n => n - 10 ^ Int.toNat 18) (SqL.of upd_same) ?_ (fun _ => rfl) ?_ ?_ ?_
    · exact Nat.lt_of_le_of_lt (List.length_take_le _ _) (by decide)
    · intro x H' _ _ QB qb
      k_caught0
      exact qb
    · intro x H' _ _ _ Q' q'
      k_caught0
      exact q'
    intro D H1 hD e1 hDl
    k_caught0
    refine R.lc ?_
    k_caught0
    refine R.slToI (SqL.mono (by k_subL) hS) (by decide) ?_
    intro l3 hl3
    k_caught0
    refine R.lcFMI (ns := ns.take 63) (fun n => true) (fun n => n % 1000003) (SqL.of upd_same) ?_ (fun _ => rfl) ?_ ?_ ?_
    · exact Nat.lt_of_le_of_lt (List.length_take_le _ _) (by decide)
    · intro x H' _ _ QB qb
      k_caught0
      exact qb
    · intro x H' _ _ _ Q' q'
      k_caught0
      exact q'
    intro D2 H2 hD2 e2 hD2l
    k_caught0
    refine ⟨by k_caughtN0, fun l4 hl4 => ?_⟩
    refine R.catI (xs := (((ns.take 63).filter fun n => true).map fun n => n % 1000003)) (ys := [41]) (upd_get hl4 hD2l) upd_same ?_ ?_
    · refine Nat.le_trans (m := 64) ?_ (by decide)
      rw [List.length_map]
      have := List.length_filter_le (fun n => true) (ns.take 63)
      have := List.length_take_le 63 ns
      show _ + 1 ≤ 64
      omega
    intro l5 hl5
    k_caught0
    refine ⟨by k_caughtN0, fun r hr => ?_⟩
    have hDr : upd (upd H2 l4 (.lst [.int 41])) l5 (.lst ((((ns.take 63).filter fun n => true).map fun n => n % 1000003) ++ [41] |>.map V.int)) D = some (.lst ((((ns.take 63).filter fun n => decide (10 ^ Int.toNat 18 ≤ n)).map fun n => n - 10 ^ Int.toNat 18).map V.int)) := by
      have e3 : Same H1 H2 := by k_subL
      exact upd_get hl5 (upd_get hl4 (e3 _ _ hDl))
    have nD : D ≠ r := ne_of_none hDr hr
    have n5 : l5 ≠ r := ne_of_none upd_same hr
    refine q _ _ (by k_subL) ?_ ⟨D, l5, 0, st, _, _, upd_same, upd_get hr hDr, upd_get hr upd_same, nD, n5, ?_, ?_, hs0, hs1, id, id, id, fun _ z => z.elim⟩
    · have e4 : Same H (upd (upd H2 l4 (.lst [.int 41])) l5 (.lst ((((ns.take 63).filter fun n => true).map fun n => n % 1000003) ++ [41] |>.map V.int))) := by k_subL
      exact e4.free hr
    · exact List.append_ne_nil_of_right_ne_nil _ (List.cons_ne_nil _ _)
    · rw [List.length_map]
      have := List.length_filter_le (fun n => decide (10 ^ Int.toNat 18 ≤ n)) (ns.take 63)
      have := List.length_take_le 63 ns
      omega
end
end Rl
namespace Rl
open PySem PySem.Spec PyProof.Rows L2
/-! ## what each def of the machine does -/
section
variable {K : PySem.W.Frag} {w : World} {H : Hp} {A : Adr} {m : Mc}
theorem doer_not {op : Op} {a b : Str} (h : op.doer = a) (e : op.doer = b) (n : a ≠ b) : False := n (h.symm.trans e)
theorem put_end (A : Adr) (m : Mc) (s : Str) : putF "end" (.str s) (flds A m) = flds A { m with fin := some s } := by kernel_rfl
theorem put_place (A : Adr) (m : Mc) (i : Int) : putF "place" (.int i) (flds A m) = flds A { m with place := i } := by kernel_rfl
theorem put_zero (A : Adr) (m : Mc) (z : Bool) : putF "zero" (.bl z) (flds A m) = flds A { m with zero := z } := by kernel_rfl
theorem put_less (A : Adr) (m : Mc) (z : Bool) : putF "less" (.bl z) (flds A m) = flds A { m with less := z } := by kernel_rfl
theorem get_boxes (A : Adr) (m : Mc) : (flds A m).lookup ("boxes" : Str) = some (.ref A.b) := by kernel_rfl
theorem get_cells (A : Adr) (m : Mc) : (flds A m).lookup ("cells" : Str) = some (.ref A.c) := by kernel_rfl
theorem get_zero (A : Adr) (m : Mc) : (flds A m).lookup ("zero" : Str) = some (.bl m.zero) := by kernel_rfl
theorem get_less (A : Adr) (m : Mc) : (flds A m).lookup ("less" : Str) = some (.bl m.less) := by kernel_rfl
theorem get_kept (A : Adr) (m : Mc) : (flds A m).lookup ("kept" : Str) = some (.ref A.k) := by kernel_rfl
theorem get_places (A : Adr) (m : Mc) : (flds A m).lookup ("places" : Str) = some (.ref A.p) := by kernel_rfl
theorem get_ahead (A : Adr) (m : Mc) : (flds A m).lookup ("ahead" : Str) = some (.ref A.a) := by kernel_rfl
theorem get_outs (A : Adr) (m : Mc) : (flds A m).lookup ("outs" : Str) = some (.ref A.u) := by kernel_rfl
theorem get_place (A : Adr) (m : Mc) : (flds A m).lookup ("place" : Str) = some (.int m.place) := by kernel_rfl
theorem get_end (A : Adr) (m : Mc) : (flds A m).lookup ("end" : Str) = some (endV m.fin) := by kernel_rfl
theorem pure_Old_marks (F : OldC K) {vs : List V} {H : Hp} {Q : VK} {E : XK} (h : sp_Old_marks K w vs H Q E) : t_Old_marks K w { nx := fun _ H' => Q .non H', rt := Q } (start N_Old_marks vs) H := by
  obtain ⟨A, m, z, l, rfl, I, q⟩ := h
  unfold t_Old_marks
  k_caught0
  refine R.sfld ?_
  k_caught0
  refine R.sfldI F I (by decide) (put_zero A m z) ?_
  have I2 : IM K (upd H A.o (.ins (He.ga K "Old") A.dx (flds A { m with zero := z }))) A { m with zero := z } := I.self (I.ok.mark z m.less) rfl rfl rfl rfl rfl rfl
  refine R.sfld ?_
  k_caught0
  refine R.sfldI F I2 (by decide) (put_less A _ l) ?_
  exact q _ (I2.self (I.ok.mark z l) rfl rfl rfl rfl rfl rfl) (((FxA.refl A H).upd Adr.mo).upd Adr.mo)
theorem one_row {row : V} {wd : Str} (h : Dp K H row (.tuple [.str wd])) : ∃ p, row = .ref p ∧ SqT K H p [.str wd] := by
  obtain ⟨p, xs, rfl, hp, ha⟩ := dp_tup h
  cases ha with
  | cons a t =>
    cases t
    rw [dp_str a] at hp
    exact ⟨p, rfl, hp⟩
theorem two_rowI {row : V} {wd : Str} {n : Int} (h : Dp K H row (.tuple [.str wd, .int n])) : ∃ p, row = .ref p ∧ SqT K H p [.str wd, .int n] := by
  obtain ⟨p, xs, rfl, hp, ha⟩ := dp_tup h
  cases ha with
  | cons a t =>
    cases t with
    | cons b t =>
      cases t
      rw [dp_str a, dp_int b] at hp
      exact ⟨p, rfl, hp⟩
theorem two_rowS {row : V} {wd x : Str} (h : Dp K H row (.tuple [.str wd, .str x])) : ∃ p, row = .ref p ∧ SqT K H p [.str wd, .str x] := by
  obtain ⟨p, xs, rfl, hp, ha⟩ := dp_tup h
  cases ha with
  | cons a t =>
    cases t with
    | cons b t =>
      cases t
      rw [dp_str a, dp_str b] at hp
      exact ⟨p, rfl, hp⟩
theorem three_rowS {row : V} {wd x y : Str} (h : Dp K H row (.tuple [.str wd, .str x, .str y])) : ∃ p, row = .ref p ∧ SqT K H p [.str wd, .str x, .str y] := by
  obtain ⟨p, xs, rfl, hp, ha⟩ := dp_tup h
  cases ha with
  | cons a t =>
    cases t with
    | cons b t =>
      cases t with
      | cons c t =>
        cases t
        rw [dp_str a, dp_str b, dp_str c] at hp
        exact ⟨p, rfl, hp⟩
theorem three_rowI {row : V} {wd x : Str} {n : Int} (h : Dp K H row (.tuple [.str wd, .str x, .int n])) : ∃ p, row = .ref p ∧ SqT K H p [.str wd, .str x, .int n] := by
  obtain ⟨p, xs, rfl, hp, ha⟩ := dp_tup h
  cases ha with
  | cons a t =>
    cases t with
    | cons b t =>
      cases t with
      | cons c t =>
        cases t
        rw [dp_str a, dp_str b, dp_int c] at hp
        exact ⟨p, rfl, hp⟩
theorem last_of {ns : List Int} (h : ns ≠ []) : ns[ns.length - 1]? = some (ns.getD (ns.length - 1) 0) := by
  have l : ns.length - 1 < ns.length := by
    cases ns with
    | nil => exact absurd rfl h
    | cons _ _ => exact Nat.sub_lt (Nat.succ_pos _) Nat.one_pos
  rw [List.getD_eq_getElem?_getD, List.getElem?_eq_getElem l]
  rfl
/-- xs == [] -/
theorem eq_nil {p le : Addr} {ns : List Int} {Q : VK} (h : H p = some (.lst (ns.map V.int))) (he : H le = some (.lst [])) (q : Q (.bl ns.isEmpty) H) : rEqA K (.ref p) (.ref le) H Q := by
  refine R.eqD (SqL.ints (SqL.of h)) (.lst (SqL.of he) .nil) (shaped_ints ns) (shaped_ints []) ?_
  rw [eqv_ints_nil]
  exact q
theorem pure_done_alone (F : OldC K) {vs : List V} {H : Hp} {Q : VK} {E : XK} (h : sp_done_alone K w vs H Q E) : t_done_alone K w { nx := fun _ H' => Q .non H', rt := Q } (start N_done_alone vs) H := by
  obtain ⟨A, m, op, row, rfl, I, hrow, hd, hop, hu, q⟩ := h
  unfold t_done_alone
  cases op with
  | halt =>
    obtain ⟨p, rfl, hp⟩ := one_row hrow
    k_caught0
    refine R.sfld ?_
    k_caught0
    refine R.sfldI F I (by decide) (put_end A m "halt") ?_
    exact q _ (I.self (I.ok.fin _) rfl rfl rfl rfl rfl rfl) ((FxA.refl A H).upd Adr.mo)
  | back =>
    obtain ⟨p, rfl, hp⟩ := one_row hrow
    k_caught0
    refine R.iDF (by decide) ?_
    k_caught0
    refine R.and' ?_
    k_caught0
    refine R.fld ?_
    k_caught0
    refine R.fldI F I (get_places A m) (by decide) ?_
    k_caught0
    refine ⟨by k_caughtN0, fun le hle => ?_⟩
    have s1 : Same H (upd H le (.lst [])) := same_upd hle
    have I1 := I.keep s1
    have gle : (upd H le (.lst [])) le = some (.lst []) := upd_same
    generalize upd H le (.lst []) = H1 at s1 I1 gle ⊢
    refine eq_nil I1.p gle ?_
    k_caught0
    refine R.iB (fun hn => ?_) (fun hn => ?_)
    · have e : m.places = [] := List.isEmpty_iff.mp hn
      k_caught0
      refine R.sfld ?_
      k_caught0
      refine R.sfldI F I1 (by decide) (put_end A m "bare") ?_
      have z : m.act .back = { m with fin := some "bare" } := if_pos e
      exact q _ (by rw [z]; exact I1.self (I.ok.fin _) rfl rfl rfl rfl rfl rfl) ((FxA.of s1).upd Adr.mo)
    · have e : m.places ≠ [] := fun z => by
        rw [z] at hn
        cases hn
      k_caught0
      refine R.sfld ?_
      refine R.bm0 ?_
      refine R.fld ?_
      k_caught0
      refine R.fldI F I1 (get_places A m) (by decide) ?_
      refine R.tyL I1.p ?_
      refine R.pop I1.p (last_of e) ?_
      k_caught0
      have ok2 : ({ m with places := m.places.dropLast } : Mc).Ok := ⟨I.ok.bl, I.ok.bb, I.ok.cl, I.ok.cb, I.ok.kl, I.ok.kb, by show m.places.dropLast.length ≤ 16; rw [List.length_dropLast]; have := I.ok.pl; omega, I.ok.ab⟩
      have I2 := I1.putP ok2
      refine R.sfldI F I2 (by decide) (put_place A _ _) ?_
      have z : m.act .back = { m with place := m.places.getD (m.places.length - 1) 0, places := m.places.dropLast } := if_neg e
      exact q _ (by rw [z]; exact I2.self (ok2.at _) rfl rfl rfl rfl rfl rfl) (((FxA.of s1).upd Adr.mp).upd Adr.mo)
  | rest =>
    obtain ⟨p, rfl, hp⟩ := one_row hrow
    k_caught0
    refine R.iDF (by decide) ?_
    k_caught0
    refine R.and' ?_
    k_caught0
    refine R.iDF (by decide) ?_
    k_caught0
    refine R.iDF (by decide) ?_
    k_caught0
    exact q H I (FxA.refl A H)
  | _ =>
    simp only [Op.doer] at hd
    exact absurd hd (by decide)
theorem get_marks (A : Adr) (m : Mc) : (flds A m).lookup ("marks" : Str) = none := by kernel_rfl
theorem R.g3 {σ : L2.St} {H : Hp} {i j l : Nat} {p : Addr} {x y z : V} {QS : L2.St → Hp → Prop} (h : SqT K H p [x, y, z]) (q : QS (((σ.set i (some x)).set j (some y)).set l (some z)) H) : L2.gTup K 3 (L2.gCons (L2.gName i) (L2.gCons (L2.gName j) (L2.gCons (L2.gName l) L2.gNil))) (.ref p) σ H QS :=
  R.gTup h rfl (R.gCons (R.gName (R.gCons (R.gName (R.gCons (R.gName (R.gNil q)))))))
section
variable {σ : L2.St} {Q : VK} {tk : TE} {r : Nat} {n : Int}
/-- old.boxes[..], read -/
theorem R.bxG (F : OldC K) (I : IM K H A m) (h0 : σ[0]? = some (some (.ref A.o))) (hr : r < 4) (hk : ∀ QE : VK, QE (.str (bxN r)) H → tk σ H QE) (q : Q (.int (m.box r)) H) : tDGet (tFld K (tVar 0) "boxes") tk σ H Q :=
  R.dget (R.fld (R.var (R.fldI F I (get_boxes A m) (by decide) (hk _ (R.boxGet I hr q))) h0))
/-- old.boxes[..] = n, the value known -/
theorem R.bxP {F' : Hp → Prop} (F : OldC K) (I : IM K H A m) (h0 : σ[0]? = some (some (.ref A.o))) (hr : r < 4) (hk : ∀ QE : VK, QE (.str (bxN r)) H → tk σ H QE) (q : F' (upd H A.b (.dK (boxK (m.bx.set r n))))) :
    tFld K (tVar 0) "boxes" σ H fun x H2 => tk σ H2 fun y H3 => ∃ a H4, x = .ref a ∧ DPut H3 a y (.int n) H4 ∧ F' H4 :=
  R.fld (R.var (R.fldI F I (get_boxes A m) (by decide) (hk _ (R.boxPut I hr q))) h0)
/-- old.f, read -/
theorem R.oldG {f : Str} {v : V} (F : OldC K) (I : IM K H A m) (h0 : σ[0]? = some (some (.ref A.o))) (hl : (flds A m).lookup f = some v) (hf : f ∈ oldF) (q : Q v H) : tFld K (tVar 0) f σ H Q := R.fld (R.var (R.fldI F I hl hf q) h0)
/-- old.marks(..) -/
theorem R.marks {t : TA} (I : IM K H A m) (h0 : σ[0]? = some (some (.ref A.o))) (q : t σ H fun vs H2 => sp_Old_marks K w (.ref A.o :: (vs ++ [])) H2 Q E0) : tMeth (He.ga K "Old") "marks" (sp_Old_marks K w) [] E0 (tVar 0) t σ H Q :=
  R.meth (R.var ⟨A.o, A.dx, flds A m, rfl, I.o, get_marks A m, q⟩ h0)
end
theorem pure_done_set (F : OldC K) {vs : List V} {H : Hp} {Q : VK} {E : XK} (h : sp_done_set K w vs H Q E) : t_done_set K w { nx := fun _ H' => Q .non H', rt := Q } (start N_done_set vs) H := by
  obtain ⟨A, m, op, row, rfl, I, hrow, hd, hop, hu, q⟩ := h
  unfold t_done_set
  cases op with
  | set r n =>
    obtain ⟨p, rfl, hp⟩ := three_rowI hrow
    k_caught0
    refine R.g3 hp ?_
    refine R.dput ?_
    refine R.ifE ?_
    k_caught0
    refine R.bxP F I rfl hop.1 (fun QE z => by k_caught0; exact z) ?_
    exact q _ (I.putB (I.ok.put hop.2.1 hop.2.2)) ((FxA.refl A H).upd Adr.mb)
  | copy r s =>
    obtain ⟨p, rfl, hp⟩ := three_rowS hrow
    k_caught0
    refine R.g3 hp ?_
    refine R.dput ?_
    refine R.ifE ?_
    k_caught0
    refine R.iDF (by decide) ?_
    refine R.bxG F I rfl hop.2 (fun QE z => by k_caught0; exact z) ?_
    refine R.bxP F I rfl hop.1 (fun QE z => by k_caught0; exact z) ?_
    exact q _ (I.putB (I.ok.put (I.ok.box hop.2).1 (I.ok.box hop.2).2)) ((FxA.refl A H).upd Adr.mb)
  | _ =>
    simp only [Op.doer] at hd
    exact absurd hd (by decide)
theorem pure_done_sum (F : OldC K) {vs : List V} {H : Hp} {Q : VK} {E : XK} (h : sp_done_sum K w vs H Q E) : t_done_sum K w { nx := fun _ H' => Q .non H', rt := Q } (start N_done_sum vs) H := by
  obtain ⟨A, m, op, row, rfl, I, hrow, hd, hop, hu, q⟩ := h
  unfold t_done_sum
  cases op with
  | sum a r s =>
    obtain ⟨p, rfl, hp⟩ := three_rowS hrow
    have fin : ∀ total : Int, total = (if a then m.box r + m.box s else m.box r - m.box s) → ∀ σ, σ = [some (.ref A.o), some (.ref p), some (.str (if a then "add" else "sub")), some (.str (bxN r)), some (.str (bxN s)), some (.int total)] →
        tSeq (sDPut (tFld K (tVar 0) "boxes") (tVar 3) (tOp (rModA) (tVar 5) (tC (.int 256)))) (tDrop (tMeth (He.ga K "Old") "marks" (sp_Old_marks K w) [] E0 (tVar 0) (tCons (tOp (rEqA K) (tOp (rModA) (tVar 5) (tC (.int 256))) (tC (.int 0))) (tCons (tNotV (tChain (rLeA) (rLtA) (tC (.int 0)) (tVar 5) (tC (.int 256)))) tNil)))) { nx := fun _ H' => Q .non H', rt := Q } σ H := by
      rintro total ht σ rfl
      refine R.seq (R.dput ?_)
      k_caught0
      refine R.bxP F I rfl hop.1 (fun QE z => by k_caught0; exact z) ?_
      have ok1 : (m.put r (total % 256)).Ok := I.ok.put (by omega) (by omega)
      have I1 := I.putB ok1
      refine R.drop (R.marks I1 rfl ?_)
      k_caught0
      refine ⟨A, _, _, _, rfl, I1, fun H2 I2 f2 => q H2 ?_ (((FxA.refl A H).upd Adr.mb).trans f2)⟩
      have e : m.act (.sum a r s) = (m.put r (total % 256)).mark (decide (total % 256 = 0)) (!(decide (0 ≤ total) && decide (total < 256))) := by
        rw [ht, ← Bool.decide_and]
        rfl
      rw [e]
      exact I2
    k_caught0
    refine R.g3 hp ?_
    refine R.seq (R.asg (R.ifE ?_))
    cases a with
    | true =>
      k_caught0
      refine R.bxG F I rfl hop.1 (fun QE z => by k_caught0; exact z) ?_
      refine R.bxG F I rfl hop.2 (fun QE z => by k_caught0; exact z) ?_
      k_caught0
      exact fin _ rfl _ rfl
    | false =>
      k_caught0
      refine R.iDF (by decide) ?_
      k_caught0
      refine R.bxG F I rfl hop.1 (fun QE z => by k_caught0; exact z) ?_
      refine R.bxG F I rfl hop.2 (fun QE z => by k_caught0; exact z) ?_
      k_caught0
      exact fin _ rfl _ rfl
  | _ =>
    simp only [Op.doer] at hd
    exact absurd hd (by decide)
theorem or_lt : ∀ x : Fin 256, ∀ y : Fin 256, x.val + y.val - (x.val &&& y.val) < 256 := by decide +kernel
theorem bits_lt (k : Fin 3) {x y : Int} (hx : 0 ≤ x ∧ x < 256) (hy : 0 ≤ y ∧ y < 256) : 0 ≤ bitsF k x y ∧ bitsF k x y < 256 := by
  have e := bitAnd_pp hx.1 hy.1
  have l : x.toNat + y.toNat - (x.toNat &&& y.toNat) < 256 := or_lt ⟨x.toNat, by omega⟩ ⟨y.toNat, by omega⟩
  have l1 : x.toNat &&& y.toNat ≤ x.toNat := Nat.and_le_left
  have l2 : x.toNat &&& y.toNat ≤ y.toNat := Nat.and_le_right
  match k with
  | 0 =>
    show 0 ≤ Builtin.bitAnd x y ∧ Builtin.bitAnd x y < 256
    rw [e]
    omega
  | 1 =>
    show 0 ≤ Builtin.bitOr x y ∧ Builtin.bitOr x y < 256
    rw [bitOr_and, e]
    omega
  | 2 =>
    show 0 ≤ Builtin.bitXor x y ∧ Builtin.bitXor x y < 256
    rw [bitXor_and, e]
    omega
theorem box_put {m : Mc} {r : Nat} {v : Int} (hl : m.bx.length = 4) (hr : r < 4) : (m.put r v).box r = v := by
  unfold Mc.put Mc.box
  rw [List.getD_eq_getElem?_getD, List.getElem?_set_self (by omega)]
  rfl
def bitsK (a b : Int) : List (Key × V) := [(.inr "and", .int (Builtin.bitAnd a b)), (.inr "or", .int (Builtin.bitOr a b)), (.inr "xor", .int (Builtin.bitXor a b))]
theorem merge3 (x y z : V) : mergeK [] [((.inr "and" : Key), x), (.inr "or", y), (.inr "xor", z)] = [((.inr "and" : Key), x), (.inr "or", y), (.inr "xor", z)] := by kernel_rfl
theorem bitsK_merge (a b : Int) : mergeK [] (bitsK a b) = bitsK a b := merge3 _ _ _
theorem get3a (x y z : V) : valV [((.inr "and" : Key), x), (.inr "or", y), (.inr "xor", z)] (.inr "and") = some x := by kernel_rfl
theorem get3b (x y z : V) : valV [((.inr "and" : Key), x), (.inr "or", y), (.inr "xor", z)] (.inr "or") = some y := by kernel_rfl
theorem get3c (x y z : V) : valV [((.inr "and" : Key), x), (.inr "or", y), (.inr "xor", z)] (.inr "xor") = some z := by kernel_rfl
theorem bitsK_get (k : Fin 3) (a b : Int) : valV (bitsK a b) (.inr (bitsW k)) = some (.int (bitsF k a b)) := by
  match k with
  | 0 => exact get3a _ _ _
  | 1 => exact get3b _ _ _
  | 2 => exact get3c _ _ _
theorem bitsK_kV (a b : Int) : (bitsK a b).map (fun kv => (kV kv.1, kv.2)) = [(.str "and", .int (Builtin.bitAnd a b)), (.str "or", .int (Builtin.bitOr a b)), (.str "xor", .int (Builtin.bitXor a b))] := rfl
theorem pure_done_bits (F : OldC K) {vs : List V} {H : Hp} {Q : VK} {E : XK} (h : sp_done_bits K w vs H Q E) : t_done_bits K w { nx := fun _ H' => Q .non H', rt := Q } (start N_done_bits vs) H := by
  obtain ⟨A, m, op, row, rfl, I, hrow, hd, hop, hu, q⟩ := h
  unfold t_done_bits
  cases op with
  | bits k r s =>
    obtain ⟨p, rfl, hp⟩ := three_rowS hrow
    k_caught0
    refine R.g3 hp ?_
    refine R.seq (R.par (R.cons ?_))
    refine R.bxG F I rfl hop.1 (fun QE z => by k_caught0; exact z) ?_
    refine R.cons ?_
    refine R.bxG F I rfl hop.2 (fun QE z => by k_caught0; exact z) ?_
    refine R.nil (R.ex2 ?_)
    refine R.seq (R.dput (R.dget (R.disp ?_)))
    intro pd hpd
    have lt := bits_lt k (I.ok.box hop.1) (I.ok.box hop.2)
    have ok2 : (m.put r (bitsF k (m.box r) (m.box s))).Ok := I.ok.put lt.1 lt.2
    have eb := box_put (v := bitsF k (m.box r) (m.box s)) I.ok.bl hop.1
    have q2 : ∀ H', IM K H' A ((m.put r (bitsF k (m.box r) (m.box s))).mark (decide (bitsF k (m.box r) (m.box s) = 0)) false) → FxA A H H' → Q .non H' := q
    have hk := bitsK_kV (m.box r) (m.box s)
    have hv := bitsK_get k (m.box r) (m.box s)
    have hm := bitsK_merge (m.box r) (m.box s)
    generalize hn : bitsF k (m.box r) (m.box s) = n at lt ok2 eb q2 hv
    k_caught0
    generalize hx : m.box r = x at hk hv hm ⊢
    generalize hy : m.box s = y at hk hv hm ⊢
    generalize bitsK x y = kvs at hk hv hm
    refine ⟨upd_same, kvs, hk.symm, ?_, ?_⟩
    · have := congrArg List.length hk
      rw [List.length_map] at this
      rw [this]
      exact (by decide : 3 ≤ 15)
    rw [hm]
    have s1 : Same H (upd (upd H pd (.dK [])) pd (.dK kvs)) := fun b v z => by
      rw [upd_ne (ne_of_none z hpd), upd_ne (ne_of_none z hpd)]
      exact z
    have gd : (upd (upd H pd (.dK [])) pd (.dK kvs)) pd = some (.dK kvs) := upd_same
    generalize upd (upd H pd (.dK [])) pd (.dK kvs) = H1 at s1 gd ⊢
    have I1 := I.keep s1
    refine R.var ?_
    refine ⟨pd, _, rfl, .inl ⟨_, .inr (bitsW k), .inl gd, rfl, hv.symm⟩, ?_⟩
    refine R.bxP F I1 rfl hop.1 (fun QE z => by k_caught0; exact z) ?_
    have I2 := I1.putB ok2
    refine R.drop (R.marks I2 rfl ?_)
    refine R.cons (R.op (R.bxG F I2 rfl hop.1 (fun QE z => by k_caught0; exact z) ?_))
    rw [show ({ m with bx := m.bx.set r n } : Mc).box r = n from eb]
    k_caught0
    exact ⟨A, _, _, _, rfl, I2, fun H2 I3 f2 => q2 H2 I3 (((FxA.of s1).upd Adr.mb).trans f2)⟩
  | _ =>
    simp only [Op.doer] at hd
    exact absurd hd (by decide)
theorem pure_done_test (F : OldC K) {vs : List V} {H : Hp} {Q : VK} {E : XK} (h : sp_done_test K w vs H Q E) : t_done_test K w { nx := fun _ H' => Q .non H', rt := Q } (start N_done_test vs) H := by
  obtain ⟨A, m, op, row, rfl, I, hrow, hd, hop, hu, q⟩ := h
  unfold t_done_test
  cases op with
  | test r s =>
    obtain ⟨p, rfl, hp⟩ := three_rowS hrow
    k_caught0
    refine R.g3 hp ?_
    refine R.seq (R.asg (R.ifE ?_))
    k_caught0
    refine R.bxG F I rfl hop.2 (fun QE z => by k_caught0; exact z) ?_
    k_caught0
    refine R.marks I rfl ?_
    refine R.cons (R.op (R.bxG F I rfl hop.1 (fun QE z => by k_caught0; exact z) ?_))
    k_caught0
    refine R.bxG F I rfl hop.1 (fun QE z => by k_caught0; exact z) ?_
    k_caught0
    exact ⟨A, _, _, _, rfl, I, fun H2 I3 f2 => q H2 I3 f2⟩
  | testn r n =>
    obtain ⟨p, rfl, hp⟩ := three_rowI hrow
    k_caught0
    refine R.g3 hp ?_
    refine R.seq (R.asg (R.ifE ?_))
    k_caught0
    refine R.iDF (by decide) ?_
    k_caught0
    refine R.marks I rfl ?_
    refine R.cons (R.op (R.bxG F I rfl hop.1 (fun QE z => by k_caught0; exact z) ?_))
    k_caught0
    refine R.bxG F I rfl hop.1 (fun QE z => by k_caught0; exact z) ?_
    k_caught0
    exact ⟨A, _, _, _, rfl, I, fun H2 I3 f2 => q H2 I3 f2⟩
  | _ =>
    simp only [Op.doer] at hd
    exact absurd hd (by decide)
theorem cells_at {m : Mc} (h : m.Ok) (i : Int) : m.cells[(i % 64).toNat]? = some (m.cells.getD (i % 64).toNat 0) ∧ 0 ≤ m.cells.getD (i % 64).toNat 0 ∧ m.cells.getD (i % 64).toNat 0 < 256 := by
  have l : (i % 64).toNat < m.cells.length := by rw [h.cl]; omega
  have e : m.cells[(i % 64).toNat]? = some m.cells[(i % 64).toNat] := List.getElem?_eq_getElem l
  rw [List.getD_eq_getElem?_getD, e]
  exact ⟨rfl, h.cb _ (List.getElem_mem l)⟩
theorem pure_done_load (F : OldC K) {vs : List V} {H : Hp} {Q : VK} {E : XK} (h : sp_done_load K w vs H Q E) : t_done_load K w { nx := fun _ H' => Q .non H', rt := Q } (start N_done_load vs) H := by
  obtain ⟨A, m, op, row, rfl, I, hrow, hd, hop, hu, q⟩ := h
  unfold t_done_load
  cases op with
  | load r s =>
    obtain ⟨p, rfl, hp⟩ := three_rowS hrow
    k_caught0
    refine R.g3 hp ?_
    refine R.dput (R.op (R.oldG F I rfl (get_cells A m) (by decide) ?_))
    refine R.op (R.ifE ?_)
    k_caught0
    refine R.bxG F I rfl hop.2 (fun QE z => by k_caught0; exact z) ?_
    k_caught0
    obtain ⟨e1, e2, e3⟩ := cells_at I.ok (m.box s)
    refine R.ixLI (ns := m.cells) (SqL.of I.c) (by omega) (by rw [I.ok.cl]; omega) ?_
    intro v hv _
    rw [e1] at hv
    cases hv
    refine R.bxP F I rfl hop.1 (fun QE z => by k_caught0; exact z) ?_
    exact q _ (I.putB (I.ok.put e2 e3)) ((FxA.refl A H).upd Adr.mb)
  | loadn r n =>
    obtain ⟨p, rfl, hp⟩ := three_rowI hrow
    k_caught0
    refine R.g3 hp ?_
    refine R.dput (R.op (R.oldG F I rfl (get_cells A m) (by decide) ?_))
    refine R.op (R.ifE ?_)
    k_caught0
    refine R.iDF (by decide) ?_
    k_caught0
    obtain ⟨e1, e2, e3⟩ := cells_at I.ok n
    refine R.ixLI (ns := m.cells) (SqL.of I.c) (by omega) (by rw [I.ok.cl]; omega) ?_
    intro v hv _
    rw [e1] at hv
    cases hv
    refine R.bxP F I rfl hop.1 (fun QE z => by k_caught0; exact z) ?_
    exact q _ (I.putB (I.ok.put e2 e3)) ((FxA.refl A H).upd Adr.mb)
  | _ =>
    simp only [Op.doer] at hd
    exact absurd hd (by decide)
theorem Mc.Ok.cell {m : Mc} (h : m.Ok) {i : Nat} {v : Int} (h0 : 0 ≤ v) (h1 : v < 256) : ({ m with cells := m.cells.set i v } : Mc).Ok := ⟨h.bl, h.bb, by rw [← h.cl]; exact List.length_set, h.cb.set h0 h1, h.kl, h.kb, h.pl, h.ab⟩
theorem pure_done_store (F : OldC K) {vs : List V} {H : Hp} {Q : VK} {E : XK} (h : sp_done_store K w vs H Q E) : t_done_store K w { nx := fun _ H' => Q .non H', rt := Q } (start N_done_store vs) H := by
  obtain ⟨A, m, op, row, rfl, I, hrow, hd, hop, hu, q⟩ := h
  unfold t_done_store
  cases op with
  | store r s =>
    obtain ⟨p, rfl, hp⟩ := three_rowS hrow
    k_caught0
    refine R.g3 hp ?_
    k_caught0
    refine R.bxG F I rfl hop.2 (fun QE z => by k_caught0; exact z) ?_
    refine R.gSub (R.oldG F I rfl (get_cells A m) (by decide) ?_)
    refine R.op (R.bxG F I rfl hop.1 (fun QE z => by k_caught0; exact z) ?_)
    k_caught0
    refine R.setLI I.c (by omega) (by rw [I.ok.cl]; omega) ?_
    exact q _ (I.putC (I.ok.cell (I.ok.box hop.2).1 (I.ok.box hop.2).2)) ((FxA.refl A H).upd Adr.mc)
  | storen r n =>
    obtain ⟨p, rfl, hp⟩ := three_rowI hrow
    k_caught0
    refine R.g3 hp ?_
    k_caught0
    refine R.iDF (by decide) ?_
    k_caught0
    refine R.bxG F I rfl hop.1 (fun QE z => by k_caught0; exact z) ?_
    refine R.gSub (R.oldG F I rfl (get_cells A m) (by decide) ?_)
    k_caught0
    refine R.setLI I.c (by omega) (by rw [I.ok.cl]; omega) ?_
    exact q _ (I.putC (I.ok.cell (I.ok.box hop.1).1 (I.ok.box hop.1).2)) ((FxA.refl A H).upd Adr.mc)
  | _ =>
    simp only [Op.doer] at hd
    exact absurd hd (by decide)
end
end Rl
namespace Rl
open PySem PySem.Spec PyProof.Rows L2
/-! ## a new machine -/
/-- all that was there stays, but what stands at o -/
def Kp (o : Addr) (H H' : Hp) : Prop := ∀ x v, H x = some v → x ≠ o → H' x = some v
section
variable {K : PySem.W.Frag} {w : World} {H H' H'' : Hp} {o l : Addr} {u u' : HO}
theorem Kp.refl : Kp o H H := fun _ _ h _ => h
theorem Kp.trans (h : Kp o H H') (g : Kp o H' H'') : Kp o H H'' := fun x v e n => g x v (h x v e n) n
theorem Kp.of (h : Same H H') : Kp o H H' := fun x v e _ => h x v e
theorem Kp.wr : Kp o H (upd H o u) := fun _ _ e n => upd_mut n e
theorem Kp.free (k : Kp o H H') (ho : H' o = some u) (n : H' l = none) : H l = none := by
  cases e : H l with
  | none => rfl
  | some v =>
    by_cases z : l = o
    · rw [z, ho] at n
      cases n
    · rw [k _ _ e z] at n
      cases n
theorem Kp.code {c : V} {ns : List Int} {C dx : Addr} {fs : List (Str × V)} (k : Kp o H H') (ho : H o = some (.ins C dx fs)) (h : Code K H c ns) : Code K H' c ns := by
  obtain ⟨a, e, h⟩ := h
  refine ⟨a, e, ?_⟩
  rcases h with ((g | ⟨u, g⟩) | g) | ((g | ⟨u, g⟩) | g)
  · exact .inl (.inl (.inl (k _ _ g (fun z => by rw [z, ho] at g; cases g))))
  · exact .inl (.inl (.inr ⟨u, k _ _ g (fun z => by rw [z, ho] at g; cases g)⟩))
  · exact .inl (.inr g)
  · exact .inr (.inl (.inl (k _ _ g (fun z => by rw [z, ho] at g; cases g))))
  · exact .inr (.inl (.inr ⟨u, k _ _ g (fun z => by rw [z, ho] at g; cases g)⟩))
  · exact .inr (.inr g)
theorem putF_lt {f : Str} {v : V} {n : Nat} : ∀ {fs : List (Str × V)}, fs.length < n → (putF f v fs).length < n + 1
  | [], _ => by
    show 1 < n + 1
    rename_i h
    exact Nat.succ_lt_succ h
  | (g, x) :: r, h => by
    show (if g = f then (g, v) :: r else (g, x) :: putF f v r).length < n + 1
    split
    · exact Nat.lt_succ_of_lt h
    · match n, h with
      | n + 1, h => exact Nat.succ_lt_succ (putF_lt (n := n) (Nat.lt_of_succ_lt_succ h))
theorem R.sfI {F' : Hp → Prop} {f : Str} {v : V} {dx : Addr} {fs : List (Str × V)} (F : OldC K) (ho : H o = some (.ins (He.ga K "Old") dx fs)) (hf : f ∈ oldF) (hl : fs.length < 1000) (q : F' (upd H o (.ins (He.ga K "Old") dx (putF f v fs)))) : ∃ a C dx fs, V.ref o = .ref a ∧ H a = some (.ins C dx fs) ∧ Cls K C ∧ NoAttr K C f ∧ fs.length < 1000 ∧ F' (upd H a (.ins C dx (putF f v fs))) :=
  ⟨o, _, dx, fs, rfl, ho, F.cls, F.no f hf, hl, q⟩
theorem abcd_at (i : Nat) (c : Nat) (h : ("abcd" : Str).cps[i]? = some c) (hi : i < 4) : putK ((boxK [0, 0, 0, 0]).take i) (.inr ⟨#[c]⟩) (.int 0) = (boxK [0, 0, 0, 0]).take (i + 1) := by
  match i, hi with
  | 0, _ =>
    rw [show ("abcd" : Str).cps[0]? = some 97 by kernel_rfl] at h
    cases h
    kernel_rfl
  | 1, _ =>
    rw [show ("abcd" : Str).cps[1]? = some 98 by kernel_rfl] at h
    cases h
    kernel_rfl
  | 2, _ =>
    rw [show ("abcd" : Str).cps[2]? = some 99 by kernel_rfl] at h
    cases h
    kernel_rfl
  | 3, _ =>
    rw [show ("abcd" : Str).cps[3]? = some 100 by kernel_rfl] at h
    cases h
    kernel_rfl
theorem abcd_size : ("abcd" : Str).cps.size = 4 := by kernel_rfl
theorem R.dcB {σ : L2.St} {Q : VK} {j : Nat} (hw : ∀ x, wipe ((wipe σ [j]).set j (some x)) [j] = wipe σ [j]) (hg : ∀ x, ((wipe σ [j]).set j (some x))[j]? = some (some x))
    (q : ∀ D H', H D = none → Same H H' → H' D = some (.dK (boxK [0, 0, 0, 0])) → Q (.ref D) H') : tDc (iStr (tC (.str "abcd"))) (L2.gName j) tYes (tVar j) (tC (.int 0)) [j] σ H Q := by
  refine ⟨_, rfl, fun D hD => ?_⟩
  refine ⟨fun i n H' => n = 4 - i ∧ i ≤ 4 ∧ Same H H' ∧ H' D = some (.dK ((boxK [0, 0, 0, 0]).take i)), ⟨4, rfl, Nat.zero_le _, same_upd hD, upd_same⟩, ?_⟩
  rintro i n H' ⟨rfl, hi, s, g⟩
  by_cases hlt : i < 4
  · refine .inr ⟨by show i < ("abcd" : Str).cps.size; rw [abcd_size]; exact hlt, fun H' => Same H H' ∧ H' D = some (.dK ((boxK [0, 0, 0, 0]).take (i + 1))), fun H2 z => ⟨4 - (i + 1), by omega, rfl, hlt, z⟩, fun x H2 y => ?_⟩
    obtain ⟨rfl, c, hc, rfl⟩ := y
    refine ⟨hw _, ?_⟩
    unfold tYes
    refine iteT ?_
    refine ⟨_, hg _, ?_⟩
    refine ⟨_, Sum.inr ⟨#[c]⟩, rfl, g, ?_, Same.mut hD s, ?_⟩
    · refine Nat.lt_of_le_of_lt (List.length_take_le _ _) (Nat.lt_trans hlt (by decide))
    · rw [upd_same, abcd_at i c hc hlt]
  · have e : i = 4 := by omega
    subst e
    exact .inl ⟨by show ("abcd" : Str).cps.size ≤ 4; rw [abcd_size]; exact Nat.le_refl _, q D H' hD s g⟩
theorem flds_new (A : Adr) (is : List Int) : putF "end" .non (putF "place" (.int 0) (putF "outs" (.ref A.u) (putF "ahead" (.ref A.a) (putF "places" (.ref A.p) (putF "kept" (.ref A.k) (putF "less" (.bl false) (putF "zero" (.bl false) (putF "cells" (.ref A.c) (putF "boxes" (.ref A.b) []))))))))) = flds A (Mc.new is) := by kernel_rfl
theorem cells_new : (List.replicate (64 : Int).toNat [V.int 0]).flatten = (List.replicate 64 (0 : Int)).map V.int := by kernel_rfl
theorem Mc.Ok.new {is : List Int} (h : By is) : (Mc.new is).Ok := ⟨rfl, fun n hn => by
    have : n = 0 := by
      have z : n ∈ List.replicate 4 (0 : Int) := hn
      exact (List.mem_replicate.mp z).2
    rw [this]
    decide, List.length_replicate, fun n hn => by
    rw [(List.mem_replicate.mp hn).2]
    decide, Nat.zero_le _, (fun n hn => nomatch hn), Nat.zero_le _, h⟩
theorem pure_Old_init (F : OldC K) {vs : List V} {H : Hp} {Q : VK} {E : XK} (h : sp_Old_init K w vs H Q E) : t_Old_init K w { nx := fun _ H' => Q .non H', rt := Q } (start N_Old_init vs) H := by
  obtain ⟨o, dx, c, is, rfl, ho, hc, hb, q⟩ := h
  unfold t_Old_init
  -- boxes
  refine R.seq (R.sfld (R.dcB (fun _ => rfl) (fun _ => rfl) ?_))
  intro b H1 fb s1 gb
  have k1 : Kp o H H1 := Kp.of s1
  have o1 := s1 _ _ ho
  k_caught0
  refine R.sfI F o1 (by decide) (by decide : 0 < 1000) ?_
  have nb : b ≠ o := fun z => by rw [z, ho] at fb; cases fb
  have k2 : Kp o H (upd H1 o (.ins (He.ga K "Old") dx (putF "boxes" (.ref b) []))) := k1.trans .wr
  have o2 : (upd H1 o (.ins (He.ga K "Old") dx (putF "boxes" (.ref b) []))) o = some _ := upd_same
  have b2 := upd_mut (o := .ins (He.ga K "Old") dx (putF "boxes" (.ref b) [])) nb gb
  generalize upd H1 o (.ins (He.ga K "Old") dx (putF "boxes" (.ref b) [])) = H2 at k2 o2 b2 ⊢
  -- cells
  refine R.seq (R.sfld ?_)
  k_caught0
  refine ⟨by k_caughtN0, fun l hl => ?_⟩
  refine R.rep (xs := [.int 0]) upd_same (by decide) (by decide) (by decide) ?_
  intro ce hce
  rw [cells_new]
  have fce : H2 ce = none := (same_upd hl).free hce
  have s3 : Same H2 (upd (upd H2 l (.lst [.int 0])) ce (.lst ((List.replicate 64 (0 : Int)).map V.int))) := (same_upd hl).trans (same_upd hce)
  have g3 : (upd (upd H2 l (.lst [.int 0])) ce (.lst ((List.replicate 64 (0 : Int)).map V.int))) ce = some _ := upd_same
  generalize upd (upd H2 l (.lst [.int 0])) ce (.lst ((List.replicate 64 (0 : Int)).map V.int)) = H3 at s3 g3 ⊢
  have fc := k2.free o2 fce
  have nc : ce ≠ o := fun z => by rw [z, ho] at fc; cases fc
  k_caught0
  refine R.sfI F (s3 _ _ o2) (by decide) (by decide : 1 < 1000) ?_
  generalize hf4 : putF "cells" (V.ref ce) (putF "boxes" (.ref b) []) = f4
  have l4 : f4.length < 3 := by rw [← hf4]; exact putF_lt (putF_lt Nat.zero_lt_one)
  have k4 : Kp o H2 (upd H3 o (.ins (He.ga K "Old") dx f4)) := (Kp.of s3).trans .wr
  have o4 : (upd H3 o (.ins (He.ga K "Old") dx f4)) o = some _ := upd_same
  have c4 := upd_mut (o := .ins (He.ga K "Old") dx f4) nc g3
  generalize upd H3 o (.ins (He.ga K "Old") dx f4) = H4 at k4 o4 c4 ⊢
  have b4 := k4 _ _ b2 nb
  have kk4 := k2.trans k4
  -- zero, less
  refine R.seq (R.sfld ?_)
  k_caught0
  refine R.sfI F o4 (by decide) (Nat.lt_trans l4 (by decide)) ?_
  generalize hf5 : putF "zero" (V.bl false) f4 = f5
  have l5 : f5.length < 4 := by rw [← hf5]; exact putF_lt l4
  have k5 : Kp o H4 (upd H4 o (.ins (He.ga K "Old") dx f5)) := .wr
  have o5 : (upd H4 o (.ins (He.ga K "Old") dx f5)) o = some _ := upd_same
  generalize upd H4 o (.ins (He.ga K "Old") dx f5) = H5 at k5 o5 ⊢
  refine R.seq (R.sfld ?_)
  k_caught0
  refine R.sfI F o5 (by decide) (Nat.lt_trans l5 (by decide)) ?_
  generalize hf6 : putF "less" (V.bl false) f5 = f6
  have l6 : f6.length < 5 := by rw [← hf6]; exact putF_lt l5
  have k6 : Kp o H4 (upd H5 o (.ins (He.ga K "Old") dx f6)) := k5.trans .wr
  have o6 : (upd H5 o (.ins (He.ga K "Old") dx f6)) o = some _ := upd_same
  generalize upd H5 o (.ins (He.ga K "Old") dx f6) = H6 at k6 o6 ⊢
  have b6 := k6 _ _ b4 nb
  have c6 := k6 _ _ c4 nc
  have kk6 := kk4.trans k6
  -- kept
  refine R.seq (R.sfld ?_)
  k_caught0
  refine ⟨by k_caughtN0, fun ke hke => ?_⟩
  have fk := kk6.free o6 hke
  have nk : ke ≠ o := fun z => by rw [z, ho] at fk; cases fk
  have o7 := upd_get (o := .lst []) hke o6
  k_caught0
  refine R.sfI F o7 (by decide) (Nat.lt_trans l6 (by decide)) ?_
  generalize hf8 : putF "kept" (V.ref ke) f6 = f8
  have l8 : f8.length < 6 := by rw [← hf8]; exact putF_lt l6
  have k8 : Kp o H6 (upd (upd H6 ke (.lst [])) o (.ins (He.ga K "Old") dx f8)) := (Kp.of (same_upd hke)).trans .wr
  have o8 : (upd (upd H6 ke (.lst [])) o (.ins (He.ga K "Old") dx f8)) o = some _ := upd_same
  have g8 : (upd (upd H6 ke (.lst [])) o (.ins (He.ga K "Old") dx f8)) ke = some _ := upd_mut nk upd_same
  generalize upd (upd H6 ke (.lst [])) o (.ins (He.ga K "Old") dx f8) = H8 at k8 o8 g8 ⊢
  have b8 := k8 _ _ b6 nb
  have c8 := k8 _ _ c6 nc
  have kk8 := kk6.trans k8
  have n_ck : ce ≠ ke := ne_of_none c6 hke
  -- places
  refine R.seq (R.sfld ?_)
  k_caught0
  refine ⟨by k_caughtN0, fun pe hpe => ?_⟩
  have fp := kk8.free o8 hpe
  have np : pe ≠ o := fun z => by rw [z, ho] at fp; cases fp
  have o9 := upd_get (o := .lst []) hpe o8
  k_caught0
  refine R.sfI F o9 (by decide) (Nat.lt_trans l8 (by decide)) ?_
  generalize hf10 : putF "places" (V.ref pe) f8 = f10
  have l10 : f10.length < 7 := by rw [← hf10]; exact putF_lt l8
  have k10 : Kp o H8 (upd (upd H8 pe (.lst [])) o (.ins (He.ga K "Old") dx f10)) := (Kp.of (same_upd hpe)).trans .wr
  have o10 : (upd (upd H8 pe (.lst [])) o (.ins (He.ga K "Old") dx f10)) o = some _ := upd_same
  have g10 : (upd (upd H8 pe (.lst [])) o (.ins (He.ga K "Old") dx f10)) pe = some _ := upd_mut np upd_same
  generalize upd (upd H8 pe (.lst [])) o (.ins (He.ga K "Old") dx f10) = H10 at k10 o10 g10 ⊢
  have b10 := k10 _ _ b8 nb
  have c10 := k10 _ _ c8 nc
  have e10 := k10 _ _ g8 nk
  have kk10 := kk8.trans k10
  have n_cp : ce ≠ pe := ne_of_none c8 hpe
  have n_kp : ke ≠ pe := ne_of_none g8 hpe
  -- ahead
  refine R.seq (R.sfld ?_)
  k_caught0
  refine R.listC (kk10.code ho hc) ?_
  intro ae hae
  have fa := kk10.free o10 hae
  have na : ae ≠ o := fun z => by rw [z, ho] at fa; cases fa
  have o11 := upd_get (o := .lst (is.map V.int)) hae o10
  k_caught0
  refine R.sfI F o11 (by decide) (Nat.lt_trans l10 (by decide)) ?_
  generalize hf12 : putF "ahead" (V.ref ae) f10 = f12
  have l12 : f12.length < 8 := by rw [← hf12]; exact putF_lt l10
  have k12 : Kp o H10 (upd (upd H10 ae (.lst (is.map V.int))) o (.ins (He.ga K "Old") dx f12)) := (Kp.of (same_upd hae)).trans .wr
  have o12 : (upd (upd H10 ae (.lst (is.map V.int))) o (.ins (He.ga K "Old") dx f12)) o = some _ := upd_same
  have g12 : (upd (upd H10 ae (.lst (is.map V.int))) o (.ins (He.ga K "Old") dx f12)) ae = some _ := upd_mut na upd_same
  generalize upd (upd H10 ae (.lst (is.map V.int))) o (.ins (He.ga K "Old") dx f12) = H12 at k12 o12 g12 ⊢
  have b12 := k12 _ _ b10 nb
  have c12 := k12 _ _ c10 nc
  have e12 := k12 _ _ e10 nk
  have p12 := k12 _ _ g10 np
  have kk12 := kk10.trans k12
  have n_ca : ce ≠ ae := ne_of_none c10 hae
  have n_ka : ke ≠ ae := ne_of_none e10 hae
  have n_pa : pe ≠ ae := ne_of_none g10 hae
  -- outs
  refine R.seq (R.sfld ?_)
  k_caught0
  refine ⟨by k_caughtN0, fun ue hue => ?_⟩
  have fu := kk12.free o12 hue
  have nu : ue ≠ o := fun z => by rw [z, ho] at fu; cases fu
  have o13 := upd_get (o := .lst []) hue o12
  k_caught0
  refine R.sfI F o13 (by decide) (Nat.lt_trans l12 (by decide)) ?_
  generalize hf14 : putF "outs" (V.ref ue) f12 = f14
  have l14 : f14.length < 9 := by rw [← hf14]; exact putF_lt l12
  have k14 : Kp o H12 (upd (upd H12 ue (.lst [])) o (.ins (He.ga K "Old") dx f14)) := (Kp.of (same_upd hue)).trans .wr
  have o14 : (upd (upd H12 ue (.lst [])) o (.ins (He.ga K "Old") dx f14)) o = some _ := upd_same
  have g14 : (upd (upd H12 ue (.lst [])) o (.ins (He.ga K "Old") dx f14)) ue = some _ := upd_mut nu upd_same
  generalize upd (upd H12 ue (.lst [])) o (.ins (He.ga K "Old") dx f14) = H14 at k14 o14 g14 ⊢
  have b14 := k14 _ _ b12 nb
  have c14 := k14 _ _ c12 nc
  have e14 := k14 _ _ e12 nk
  have p14 := k14 _ _ p12 np
  have a14 := k14 _ _ g12 na
  have kk14 := kk12.trans k14
  have n_cu : ce ≠ ue := ne_of_none c12 hue
  have n_ku : ke ≠ ue := ne_of_none e12 hue
  have n_pu : pe ≠ ue := ne_of_none p12 hue
  have n_au : ae ≠ ue := ne_of_none g12 hue
  -- place, end
  refine R.seq (R.sfld ?_)
  k_caught0
  refine R.sfI F o14 (by decide) (Nat.lt_trans l14 (by decide)) ?_
  generalize hf15 : putF "place" (V.int 0) f14 = f15
  have l15 : f15.length < 10 := by rw [← hf15]; exact putF_lt l14
  have k15 : Kp o H14 (upd H14 o (.ins (He.ga K "Old") dx f15)) := .wr
  have o15 : (upd H14 o (.ins (He.ga K "Old") dx f15)) o = some _ := upd_same
  generalize upd H14 o (.ins (He.ga K "Old") dx f15) = H15 at k15 o15 ⊢
  refine R.sfld ?_
  k_caught0
  refine R.sfI F o15 (by decide) (Nat.lt_trans l15 (by decide)) ?_
  rw [show putF "end" V.non f15 = flds ⟨o, dx, b, ce, ke, pe, ae, ue⟩ (Mc.new is) by rw [← hf15, ← hf14, ← hf12, ← hf10, ← hf8, ← hf6, ← hf5, ← hf4]; exact flds_new ⟨o, dx, b, ce, ke, pe, ae, ue⟩ is]
  have k16 : Kp o H14 (upd H15 o (.ins (He.ga K "Old") dx (flds ⟨o, dx, b, ce, ke, pe, ae, ue⟩ (Mc.new is)))) := k15.trans .wr
  refine q ⟨o, dx, b, ce, ke, pe, ae, ue⟩ _ rfl ⟨.new hb, upd_same, k16 _ _ b14 nb, k16 _ _ c14 nc, k16 _ _ e14 nk, k16 _ _ p14 np, k16 _ _ a14 na, k16 _ _ g14 nu, ?_⟩ (kk14.trans k16) ?_
  · simp only [List.nodup_cons, List.mem_cons, List.not_mem_nil, or_false, not_or]
    exact ⟨⟨n_ck, n_cp, n_ca, n_cu⟩, ⟨n_kp, n_ka, n_ku⟩, ⟨n_pa, n_pu⟩, n_au, id, List.nodup_nil⟩
  · rintro x hx nx
    rcases hx with rfl | rfl | rfl | rfl | rfl | rfl | rfl
    · exact absurd rfl nx
    · exact fb
    · exact fc
    · exact fk
    · exact fp
    · exact fa
    · exact fu
end
end Rl
namespace Rl
open PySem PySem.Spec PyProof.Rows L2
/-! ## what the other defs of the machine do -/
section
variable {K : PySem.W.Frag} {w : World} {H : Hp} {A : Adr} {m : Mc}
theorem SqT.mutL {a p : Addr} {xs ys : List V} {o : HO} (ha : H a = some (.lst ys)) (h : SqT K H p xs) : SqT K (upd H a o) p xs := by
  rcases h with (g | ⟨u, g⟩) | g
  · refine .inl (.inl (upd_mut (fun z => ?_) g))
    rw [z, ha] at g
    cases g
  · refine .inl (.inr ⟨u, upd_mut (fun z => ?_) g⟩)
    rw [z, ha] at g
    cases g
  · exact .inr g
theorem SqT.mutD {a p : Addr} {xs : List V} {ys : List (Key × V)} {o : HO} (ha : H a = some (.dK ys)) (h : SqT K H p xs) : SqT K (upd H a o) p xs := by
  rcases h with (g | ⟨u, g⟩) | g
  · refine .inl (.inl (upd_mut (fun z => ?_) g))
    rw [z, ha] at g
    cases g
  · refine .inl (.inr ⟨u, upd_mut (fun z => ?_) g⟩)
    rw [z, ha] at g
    cases g
  · exact .inr g
def goK (m : Mc) : List (Key × V) := [(.inr "go", .bl true), (.inr "zero", .bl m.zero), (.inr "nonzero", .bl (!m.zero)), (.inr "less", .bl m.less), (.inr "notless", .bl (!m.less))]
theorem merge5 (a b c d e : V) : mergeK [] [((.inr "go" : Key), a), (.inr "zero", b), (.inr "nonzero", c), (.inr "less", d), (.inr "notless", e)] = [((.inr "go" : Key), a), (.inr "zero", b), (.inr "nonzero", c), (.inr "less", d), (.inr "notless", e)] := by kernel_rfl
theorem get5 (k : Fin 5) (a b c d e : V) : valV [((.inr "go" : Key), a), (.inr "zero", b), (.inr "nonzero", c), (.inr "less", d), (.inr "notless", e)] (.inr (goW k)) = some (match k with | 0 => a | 1 => b | 2 => c | 3 => d | 4 => e) := by
  match k with
  | 0 => kernel_rfl
  | 1 => kernel_rfl
  | 2 => kernel_rfl
  | 3 => kernel_rfl
  | 4 => kernel_rfl
theorem goK_get (k : Fin 5) (m : Mc) : valV (goK m) (.inr (goW k)) = some (.bl (goB m k)) := by
  refine (get5 k _ _ _ _ _).trans (congrArg some ?_)
  match k with
  | 0 => rfl
  | 1 => rfl
  | 2 => rfl
  | 3 => rfl
  | 4 => rfl
theorem pure_done_go (F : OldC K) {vs : List V} {H : Hp} {Q : VK} {E : XK} (h : sp_done_go K w vs H Q E) : t_done_go K w { nx := fun _ H' => Q .non H', rt := Q } (start N_done_go vs) H := by
  obtain ⟨A, m, op, row, rfl, I, hrow, hd, hop, hu, q⟩ := h
  unfold t_done_go
  cases op with
  | go k t =>
    obtain ⟨p, rfl, hp⟩ := two_rowI hrow
    k_caught0
    refine R.gPairT hp ?_
    refine R.seq (R.asg (R.disp ?_))
    intro pd hpd
    have I0 := I.keep (same_upd (o := .dK []) hpd)
    k_caught0
    refine R.oldG F I0 rfl (get_zero A m) (by decide) ?_
    k_caught0
    refine R.oldG F I0 rfl (get_zero A m) (by decide) ?_
    k_caught0
    refine R.oldG F I0 rfl (get_less A m) (by decide) ?_
    k_caught0
    refine R.oldG F I0 rfl (get_less A m) (by decide) ?_
    k_caught0
    refine ⟨upd_same, goK m, rfl, (by decide : 5 ≤ 15), ?_⟩
    rw [show mergeK [] (goK m) = goK m from merge5 _ _ _ _ _]
    have hv := goK_get k m
    generalize goK m = kvs at hv ⊢
    have s1 : Same H (upd (upd H pd (.dK [])) pd (.dK kvs)) := fun b v z => by
      rw [upd_ne (ne_of_none z hpd), upd_ne (ne_of_none z hpd)]
      exact z
    have gd : (upd (upd H pd (.dK [])) pd (.dK kvs)) pd = some (.dK kvs) := upd_same
    generalize upd (upd H pd (.dK [])) pd (.dK kvs) = H1 at s1 gd ⊢
    have I1 := I.keep s1
    k_caught0
    refine ⟨pd, _, rfl, .inl ⟨_, .inr (goW k), .inl gd, rfl, hv.symm⟩, ?_⟩
    refine R.bl ?_
    refine R.iB (fun hn => ?_) (fun hn => ?_)
    · refine R.sfld ?_
      k_caught0
      refine R.sfldI F I1 (by decide) (put_place A m t) ?_
      have z : m.act (.go k t) = { m with place := t } := if_pos hn
      exact q _ (by rw [z]; exact I1.self (I.ok.at t) rfl rfl rfl rfl rfl rfl) ((FxA.of s1).upd Adr.mo)
    · k_caught0
      have z : m.act (.go k t) = m := if_neg (by rw [hn]; decide)
      exact q _ (by rw [z]; exact I1) (FxA.of s1)
  | _ =>
    simp only [Op.doer] at hd
    exact absurd hd (by decide)
theorem pure_done_call (F : OldC K) {vs : List V} {H : Hp} {Q : VK} {E : XK} (h : sp_done_call K w vs H Q E) : t_done_call K w { nx := fun _ H' => Q .non H', rt := Q } (start N_done_call vs) H := by
  obtain ⟨A, m, op, row, rfl, I, hrow, hd, hop, hu, q⟩ := h
  unfold t_done_call
  cases op with
  | call t =>
    obtain ⟨p, rfl, hp⟩ := two_rowI hrow
    have ip := I.p
    k_caught0
    refine R.oldG F I rfl (get_places A m) (by decide) ?_
    k_caught0
    refine R.iD (fun hn => ?_) (fun hn => ?_)
    · refine R.sfld ?_
      k_caught0
      refine R.sfldI F I (by decide) (put_end A m "deep") ?_
      have z : m.act (.call t) = { m with fin := some "deep" } := if_pos (by omega)
      exact q _ (by rw [z]; exact I.self (I.ok.fin _) rfl rfl rfl rfl rfl rfl) ((FxA.refl A H).upd Adr.mo)
    · have hl : m.places.length < 16 := by have := I.ok.pl; omega
      refine R.seq (R.drop (R.bm ?_))
      refine R.oldG F I rfl (get_places A m) (by decide) ?_
      refine R.tyL ip ?_
      refine R.cons (R.oldG F I rfl (get_place A m) (by decide) ?_)
      refine R.nil (R.appendI ip (Nat.lt_trans hl (by decide)) ?_)
      have ok2 : ({ m with places := m.places ++ [m.place] } : Mc).Ok := ⟨I.ok.bl, I.ok.bb, I.ok.cl, I.ok.cb, I.ok.kl, I.ok.kb, by show (m.places ++ [m.place]).length ≤ 16; rw [List.length_append]; exact hl, I.ok.ab⟩
      have I2 := I.putP ok2
      have hp2 : SqT K (upd H A.p (.lst ((m.places ++ [m.place]).map V.int))) p [.str "call", .int t] := SqT.mutL ip hp
      refine R.sfld ?_
      k_caught0
      refine R.sfldI F I2 (by decide) (put_place A _ t) ?_
      have z : m.act (.call t) = { m with places := m.places ++ [m.place], place := t } := if_neg (by omega)
      exact q _ (by rw [z]; exact I2.self (ok2.at t) rfl rfl rfl rfl rfl rfl) (((FxA.refl A H).upd Adr.mp).upd Adr.mo)
  | _ =>
    simp only [Op.doer] at hd
    exact absurd hd (by decide)
theorem pure_done_out (F : OldC K) {vs : List V} {H : Hp} {Q : VK} {E : XK} (h : sp_done_out K w vs H Q E) : t_done_out K w { nx := fun _ H' => Q .non H', rt := Q } (start N_done_out vs) H := by
  obtain ⟨A, m, op, row, rfl, I, hrow, hd, hop, hu, q⟩ := h
  unfold t_done_out
  cases op with
  | out r =>
    obtain ⟨p, rfl, hp⟩ := two_rowS hrow
    refine R.drop (R.bm ?_)
    refine R.oldG F I rfl (get_outs A m) (by decide) ?_
    refine R.tyL I.u ?_
    refine R.cons (R.bxG F I rfl hop (fun QE z => by k_caught0; exact z) ?_)
    refine R.nil (R.appendI I.u hu.1 ?_)
    exact q _ (I.putU ⟨I.ok.bl, I.ok.bb, I.ok.cl, I.ok.cb, I.ok.kl, I.ok.kb, I.ok.pl, I.ok.ab⟩) ((FxA.refl A H).upd Adr.mu)
  | _ =>
    simp only [Op.doer] at hd
    exact absurd hd (by decide)
theorem pure_done_keep (F : OldC K) {vs : List V} {H : Hp} {Q : VK} {E : XK} (h : sp_done_keep K w vs H Q E) : t_done_keep K w { nx := fun _ H' => Q .non H', rt := Q } (start N_done_keep vs) H := by
  obtain ⟨A, m, op, row, rfl, I, hrow, hd, hop, hu, q⟩ := h
  unfold t_done_keep
  cases op with
  | keep r =>
    obtain ⟨p, rfl, hp⟩ := two_rowS hrow
    have ik := I.k
    k_caught0
    refine R.oldG F I rfl (get_kept A m) (by decide) ?_
    k_caught0
    refine R.iD (fun hn => ?_) (fun hn => ?_)
    · refine R.sfld ?_
      k_caught0
      refine R.sfldI F I (by decide) (put_end A m "deep") ?_
      have z : m.act (.keep r) = { m with fin := some "deep" } := if_pos (by omega)
      exact q _ (by rw [z]; exact I.self (I.ok.fin _) rfl rfl rfl rfl rfl rfl) ((FxA.refl A H).upd Adr.mo)
    · have hl : m.kept.length < 16 := by have := I.ok.kl; omega
      refine R.drop (R.bm ?_)
      refine R.oldG F I rfl (get_kept A m) (by decide) ?_
      refine R.tyL ik ?_
      refine R.cons (R.bxG F I rfl hop (fun QE z => by k_caught0; exact z) ?_)
      refine R.nil (R.appendI ik (Nat.lt_trans hl (by decide)) ?_)
      have ok2 : ({ m with kept := m.kept ++ [m.box r] } : Mc).Ok := ⟨I.ok.bl, I.ok.bb, I.ok.cl, I.ok.cb, by show (m.kept ++ [m.box r]).length ≤ 16; rw [List.length_append]; exact hl, fun n hn => (List.mem_append.mp hn).elim (I.ok.kb n) (fun z => by rw [List.mem_singleton.mp z]; exact I.ok.box hop), I.ok.pl, I.ok.ab⟩
      have z : m.act (.keep r) = { m with kept := m.kept ++ [m.box r] } := if_neg (by omega)
      exact q _ (by rw [z]; exact I.putK ok2) ((FxA.refl A H).upd Adr.mk')
  | _ =>
    simp only [Op.doer] at hd
    exact absurd hd (by decide)
theorem pure_done_take (F : OldC K) {vs : List V} {H : Hp} {Q : VK} {E : XK} (h : sp_done_take K w vs H Q E) : t_done_take K w { nx := fun _ H' => Q .non H', rt := Q } (start N_done_take vs) H := by
  obtain ⟨A, m, op, row, rfl, I, hrow, hd, hop, hu, q⟩ := h
  unfold t_done_take
  cases op with
  | take r =>
    obtain ⟨p, rfl, hp⟩ := two_rowS hrow
    k_caught0
    refine R.oldG F I rfl (get_kept A m) (by decide) ?_
    k_caught0
    refine ⟨by k_caughtN0, fun le hle => ?_⟩
    have s1 : Same H (upd H le (.lst [])) := same_upd hle
    have I1 := I.keep s1
    have gle : (upd H le (.lst [])) le = some (.lst []) := upd_same
    have hp1 := SqT.mono s1 hp
    generalize upd H le (.lst []) = H1 at s1 I1 gle hp1 ⊢
    refine eq_nil I1.k gle ?_
    k_caught0
    refine R.iB (fun hn => ?_) (fun hn => ?_)
    · have e : m.kept = [] := List.isEmpty_iff.mp hn
      refine R.sfld ?_
      k_caught0
      refine R.sfldI F I1 (by decide) (put_end A m "bare") ?_
      have z : m.act (.take r) = { m with fin := some "bare" } := if_pos e
      exact q _ (by rw [z]; exact I1.self (I.ok.fin _) rfl rfl rfl rfl rfl rfl) ((FxA.of s1).upd Adr.mo)
    · have e : m.kept ≠ [] := fun z => by
        rw [z] at hn
        cases hn
      refine R.dput (R.bm0 ?_)
      refine R.oldG F I1 rfl (get_kept A m) (by decide) ?_
      refine R.tyL I1.k ?_
      refine R.pop I1.k (last_of e) ?_
      have ok2 : ({ m with kept := m.kept.dropLast } : Mc).Ok := ⟨I.ok.bl, I.ok.bb, I.ok.cl, I.ok.cb, by show m.kept.dropLast.length ≤ 16; rw [List.length_dropLast]; have := I.ok.kl; omega, fun n hn => I.ok.kb n (List.dropLast_subset _ hn), I.ok.pl, I.ok.ab⟩
      have I2 := I1.putK ok2
      have hp2 := SqT.mutL (o := .lst (m.kept.dropLast.map V.int)) I1.k hp1
      have hb := I.ok.kb _ (List.mem_of_getElem? (last_of e))
      refine R.bxP F I2 rfl hop (fun QE z => by k_caught0; exact z) ?_
      have z : m.act (.take r) = { m.put r (m.kept.getD (m.kept.length - 1) 0) with kept := m.kept.dropLast } := if_neg e
      exact q _ (by rw [z]; exact I2.putB (ok2.put hb.1 hb.2)) (((FxA.of s1).upd Adr.mk').upd Adr.mb)
  | _ =>
    simp only [Op.doer] at hd
    exact absurd hd (by decide)
/-- xs != [] -/
theorem ne_nil {p le : Addr} {ns : List Int} {Q : VK} (h : H p = some (.lst (ns.map V.int))) (he : H le = some (.lst [])) (q : Q (.bl (!ns.isEmpty)) H) : rNeA K (.ref p) (.ref le) H Q := by
  refine R.neD (SqL.ints (SqL.of h)) (.lst (SqL.of he) .nil) (shaped_ints ns) (shaped_ints []) ?_
  rw [eqv_ints_nil]
  exact q
theorem pure_done_in (F : OldC K) {vs : List V} {H : Hp} {Q : VK} {E : XK} (h : sp_done_in K w vs H Q E) : t_done_in K w { nx := fun _ H' => Q .non H', rt := Q } (start N_done_in vs) H := by
  obtain ⟨A, m, op, row, rfl, I, hrow, hd, hop, hu, q⟩ := h
  unfold t_done_in
  cases op with
  | inn r =>
    obtain ⟨p, rfl, hp⟩ := two_rowS hrow
    refine R.dput (R.ifE ?_)
    k_caught0
    refine R.oldG F I rfl (get_ahead A m) (by decide) ?_
    k_caught0
    refine ⟨by k_caughtN0, fun le hle => ?_⟩
    have s1 : Same H (upd H le (.lst [])) := same_upd hle
    have I1 := I.keep s1
    have gle : (upd H le (.lst [])) le = some (.lst []) := upd_same
    have hp1 := SqT.mono s1 hp
    generalize upd H le (.lst []) = H1 at s1 I1 gle hp1 ⊢
    refine ne_nil I1.a gle ?_
    k_caught0
    refine R.iB (fun hn => ?_) (fun hn => ?_)
    · have e : m.ahead = [] := List.isEmpty_iff.mp hn
      k_caught0
      refine R.bxP F I1 rfl hop (fun QE z => by k_caught0; exact z) ?_
      have z : m.act (.inn r) = m.put r 0 := if_pos e
      exact q _ (by rw [z]; exact I1.putB (I.ok.put (by decide) (by decide))) ((FxA.of s1).upd Adr.mb)
    · have e : m.ahead ≠ [] := fun z => by
        rw [z] at hn
        cases hn
      have hl : 0 < m.ahead.length := List.length_pos_iff.mpr e
      refine R.bm ?_
      refine R.oldG F I1 rfl (get_ahead A m) (by decide) ?_
      refine R.tyL I1.a ?_
      k_caught0
      refine R.popAtI I1.a (by decide) (by omega) hu.2 ?_
      intro x hx
      have ex : m.ahead.getD 0 0 = x := by
        rw [List.getD_eq_getElem?_getD]
        exact congrArg (·.getD 0) hx
      have ok2 : ({ m with ahead := m.ahead.drop 1 } : Mc).Ok := ⟨I.ok.bl, I.ok.bb, I.ok.cl, I.ok.cb, I.ok.kl, I.ok.kb, I.ok.pl, fun n hn => I.ok.ab n (List.mem_of_mem_drop hn)⟩
      have ed : m.ahead.eraseIdx (0 : Int).toNat = m.ahead.drop 1 := by
        cases m.ahead with
        | nil => rfl
        | cons _ _ => rfl
      rw [ed]
      have I2 := I1.putA ok2
      have hp2 := SqT.mutL (o := .lst ((m.ahead.drop 1).map V.int)) I1.a hp1
      have hb := I.ok.ab _ (List.mem_of_getElem? hx)
      refine R.bxP F I2 rfl hop (fun QE z => by k_caught0; exact z) ?_
      have z : m.act (.inn r) = { m.put r x with ahead := m.ahead.drop 1 } := by
        rw [← ex]
        exact if_neg e
      exact q _ (by rw [z]; exact I2.putB (ok2.put hb.1 hb.2)) (((FxA.of s1).upd Adr.ma).upd Adr.mb)
  | _ =>
    simp only [Op.doer] at hd
    exact absurd hd (by decide)
end
end Rl
namespace Rl
open PySem PySem.Spec PyProof.Rows L2
/-! ## a run of the old machine -/
def Op.word : Op → Str
  | .halt => "halt"
  | .back => "back"
  | .rest => "rest"
  | .set .. => "set"
  | .copy .. => "copy"
  | .sum a .. => if a then "add" else "sub"
  | .bits k .. => bitsW k
  | .test .. => "test"
  | .testn .. => "testn"
  | .load .. => "load"
  | .loadn .. => "loadn"
  | .store .. => "store"
  | .storen .. => "storen"
  | .go k _ => goW k
  | .call _ => "call"
  | .inn _ => "in"
  | .out _ => "out"
  | .keep _ => "keep"
  | .take _ => "take"
theorem valV_strs {α : Type} {f : α → V} (k : Str) : ∀ l : List (Str × α), valV (l.map fun p => ((Sum.inr p.1 : Key), f p.2)) (Sum.inr k) = (l.lookup k).map f
  | [] => rfl
  | (z, a) :: l => by
    have ih := valV_strs (f := f) k l
    rw [List.map_cons, List.lookup_cons]
    unfold valV at ih ⊢
    by_cases h : z = k
    · subst h
      simp
    · have h2 : (k == z) = false := by
        rw [beq_eq_false_iff_ne]
        exact fun q => h q.symm
      simp only [h2]
      rw [← ih]
      simp [h]
theorem op_look (op : Op) : doersT.lookup op.word = some op.doer := by
  cases op with
  | sum a r s => cases a <;> kernel_rfl
  | bits k r s =>
    match k with
    | 0 => kernel_rfl
    | 1 => kernel_rfl
    | 2 => kernel_rfl
  | go k t =>
    match k with
    | 0 => kernel_rfl
    | 1 => kernel_rfl
    | 2 => kernel_rfl
    | 3 => kernel_rfl
    | 4 => kernel_rfl
  | _ => kernel_rfl
theorem doersK_get (K : PySem.W.Frag) (op : Op) : valV (doersK K) (Sum.inr op.word) = some (.ref (He.ga K op.doer)) := by
  unfold doersK
  rw [valV_strs (f := fun x => V.ref (He.ga K x)), op_look]
  rfl
theorem op_doer (op : Op) : op.doer ∈ doers := by cases op <;> (simp only [Op.doer]; decide)
/-- texts and numbers -/
inductive Flat : PyData → Prop
  | str (s : Str) : Flat (.str s)
  | int (i : Int) : Flat (.int i)
theorem op_data (op : Op) : (∃ ds, op.data = .str op.word :: ds) ∧ ∀ d ∈ op.data, Flat d := by
  cases op <;> exact ⟨⟨_, rfl⟩, fun d hd => by
    simp only [Op.data, List.mem_cons, List.not_mem_nil, or_false] at hd
    rcases hd with rfl | rfl | rfl <;> constructor⟩
theorem dpAll_flat {K : PySem.W.Frag} {H H' : Hp} : ∀ {vs : List V} {ds : List PyData}, (∀ d ∈ ds, Flat d) → DpAll K H vs ds → DpAll K H' vs ds
  | [], [], _, .nil => .nil
  | _ :: _, d :: _, h, .cons a t => .cons (by
      have f := h d (List.mem_cons_self ..)
      cases f with
      | str s =>
        rw [dp_str a]
        exact .str _
      | int s =>
        rw [dp_int a]
        exact .int _) (dpAll_flat (fun d hd => h d (List.mem_cons_of_mem _ hd)) t)
theorem SqT.mutI {K : PySem.W.Frag} {H : Hp} {a p : Addr} {xs : List V} {C dx : Addr} {fs : List (Str × V)} {o : HO} (ha : H a = some (.ins C dx fs)) (h : SqT K H p xs) : SqT K (upd H a o) p xs := by
  rcases h with (g | ⟨u, g⟩) | g
  · refine .inl (.inl (upd_mut (fun z => ?_) g))
    rw [z, ha] at g
    cases g
  · refine .inl (.inr ⟨u, upd_mut (fun z => ?_) g⟩)
    rw [z, ha] at g
    cases g
  · exact .inr g
/-! ### what a turn keeps -/
theorem act_ahead (m : Mc) (op : Op) : (m.act op).ahead.length ≤ m.ahead.length := by
  cases op with
  | back => simp only [Mc.act]; split <;> exact Nat.le_refl _
  | go k t => simp only [Mc.act]; split <;> exact Nat.le_refl _
  | call t => simp only [Mc.act]; split <;> exact Nat.le_refl _
  | keep r => simp only [Mc.act]; split <;> exact Nat.le_refl _
  | take r => simp only [Mc.act]; split <;> exact Nat.le_refl _
  | inn r =>
    simp only [Mc.act]
    split
    · exact Nat.le_refl _
    · show (m.ahead.drop 1).length ≤ _
      rw [List.length_drop]
      omega
  | _ => exact Nat.le_refl _
theorem act_outs (m : Mc) (op : Op) : (m.act op).outs.length ≤ m.outs.length + 1 := by
  cases op with
  | back => simp only [Mc.act]; split <;> exact Nat.le_succ _
  | go k t => simp only [Mc.act]; split <;> exact Nat.le_succ _
  | call t => simp only [Mc.act]; split <;> exact Nat.le_succ _
  | keep r => simp only [Mc.act]; split <;> exact Nat.le_succ _
  | take r => simp only [Mc.act]; split <;> exact Nat.le_succ _
  | inn r => simp only [Mc.act]; split <;> exact Nat.le_succ _
  | out r =>
    show (m.outs ++ [m.box r]).length ≤ _
    rw [List.length_append]
    exact Nat.le_refl _
  | _ => exact Nat.le_succ _
theorem step_came (ns : List Int) (steps : Int) (s : Mc × List Int) : (stepM ns steps s).2 = s.2 ++ [s.1.place] := by
  unfold stepM
  split
  · rfl
  · split <;> rfl
theorem runN_end {ns : List Int} {steps : Int} {s : Mc × List Int} (h : s.1.fin.isSome = true) : ∀ k, runN ns steps k s = s
  | 0 => rfl
  | k + 1 => if_pos h
theorem runN_go {ns : List Int} {steps : Int} {s : Mc × List Int} {k : Nat} (h : s.1.fin.isSome = false) : runN ns steps (k + 1) s = runN ns steps k (stepM ns steps s) := if_neg (by rw [h]; decide)
section
variable {K : PySem.W.Frag} {w : World}
/-- where a run stands -/
structure RunAt (K : PySem.W.Frag) (H0 : Hp) (ns is : List Int) (steps : Int) (A : Adr) (e : Addr) (s : Mc × List Int) (k : Nat) (H : Hp) : Prop where
  I : IM K H A s.1
  he : H e = some (.lst (s.2.map V.int))
  sm : Same H0 H
  ne : ¬ A.mem e
  run : runN ns steps k s = runOf ns is steps
  cnt : s.2.length + k = steps.toNat + 2
  late : s.1.fin = none → (s.2.length : Int) ≤ steps
  outs : s.1.outs.length ≤ s.2.length
  ahead : s.1.ahead.length ≤ is.length
theorem IM.off {H : Hp} {A : Adr} {m : Mc} {x : Addr} {u : HO} (I : IM K H A m) (n : ¬ A.mem x) : IM K (upd H x u) A m :=
  ⟨I.ok, upd_mut (fun z => n (z ▸ Adr.mo)) I.o, upd_mut (fun z => n (z ▸ Adr.mb)) I.b, upd_mut (fun z => n (z ▸ Adr.mc)) I.c, upd_mut (fun z => n (z ▸ Adr.mk')) I.k, upd_mut (fun z => n (z ▸ Adr.mp)) I.p, upd_mut (fun z => n (z ▸ Adr.ma)) I.a, upd_mut (fun z => n (z ▸ Adr.mu)) I.u, I.nd⟩
theorem IM.row {H : Hp} {A : Adr} {m : Mc} {x : Addr} {xs : List V} (I : IM K H A m) (h : H x = some (.tup xs)) : ¬ A.mem x := fun z => by
  rcases z with rfl | rfl | rfl | rfl | rfl | rfl | rfl
  · rw [I.o] at h; cases h
  · rw [I.b] at h; cases h
  · rw [I.c] at h; cases h
  · rw [I.k] at h; cases h
  · rw [I.p] at h; cases h
  · rw [I.a] at h; cases h
  · rw [I.u] at h; cases h
theorem same_fx {H0 H1 H2 : Hp} {A : Adr} (s : Same H0 H1) (f : FxA A H1 H2) (n : ∀ x, A.mem x → H0 x = none) : Same H0 H2 := fun x v e => f x v (s x v e) fun z => by rw [n x z] at e; cases e
theorem isSome_cases (f : Option Str) : (f = none ∧ endV f = .non) ∨ (f.isSome = true ∧ ∃ s, endV f = .str s) := by
  cases f with
  | none => exact .inl ⟨rfl, rfl⟩
  | some s => exact .inr ⟨rfl, s, rfl⟩
theorem pure_whole_run (F : OldC K) (hD : KD K w (He.ga K "DOERS") (doersK K)) {vs : List V} {H : Hp} {Q : VK} {E : XK} (h : sp_whole_run K w vs H Q E) : t_whole_run K w { nx := fun _ H' => Q .non H', rt := Q } (start N_whole_run vs) H := by
  obtain ⟨c, d, ns, is, steps, rfl, R0, q⟩ := h
  unfold t_whole_run
  refine R.seq (R.asg (R.cons (R.var (R.nil ?_))))
  intro o dx ho hdx nd
  have s1 : Same H (upd (upd H dx (.own o)) o (.ins (He.ga K "Old") dx [])) := fun b v z => by
    rw [upd_ne (ne_of_none z ho), upd_ne (ne_of_none z hdx)]
    exact z
  have go : (upd (upd H dx (.own o)) o (.ins (He.ga K "Old") dx [])) o = some _ := upd_same
  have fr1 : ∀ x, (upd (upd H dx (.own o)) o (.ins (He.ga K "Old") dx [])) x = none → H x = none := fun x => s1.free
  generalize upd (upd H dx (.own o)) o (.ins (He.ga K "Old") dx []) = H1 at s1 go fr1 ⊢
  refine ⟨o, dx, d, is, rfl, go, R0.d.mono s1, R0.db, ?_⟩
  rintro A H2 rfl I2 k2 fr2
  have fr : ∀ x, A.mem x → H x = none := fun x hx => by
    by_cases z : x = A.o
    · rw [z]; exact ho
    · exact fr1 x (fr2 x hx z)
  have s2 : Same H H2 := fun x v e => k2 x v (s1 x v e) fun z => by rw [z, ho] at e; cases e
  refine ⟨rfl, ?_⟩
  refine R.gName ?_
  refine R.seq (R.asg (R.lst (R.nil ⟨by k_caughtN0, fun e he => ?_⟩)))
  refine R.gName ?_
  have ge : (upd H2 e (.lst [])) e = some (.lst []) := upd_same
  have s3 : Same H2 (upd H2 e (.lst [])) := same_upd he
  have fe : H e = none := s2.free he
  have ne : ¬ A.mem e := I2.out he
  generalize upd H2 e (.lst []) = H3 at ge s3 ⊢
  have at0 : RunAt K H ns is steps A e (Mc.new is, []) (steps.toNat + 2) H3 := ⟨I2.keep s3, ge, s2.trans s3, ne, rfl, Nat.zero_add _, fun _ => R0.s0, Nat.zero_le _, Nat.le_refl _⟩
  refine R.seq (R.whL (fun k σ H' => ∃ s x5 x6 x7 x8, σ = [some c, some d, some (.int steps), some (.ref A.o), some (.ref e), x5, x6, x7, x8] ∧ RunAt K H ns is steps A e s k H') (steps.toNat + 2) ⟨_, _, _, _, _, rfl, at0⟩ ?_)
  rintro k σ H4 ⟨s, x5, x6, x7, x8, rfl, T⟩
  refine R.test (R.op ?_)
  refine R.fld (R.var (R.fldI F T.I (get_end A s.1) (by decide) ?_))
  rcases isSome_cases s.1.fin with ⟨z, ze⟩ | ⟨z, y, ze⟩
  · -- a turn
    rw [ze]
    k_caught0
    have lt := T.late z
    have s0 := R0.s0
    have s9 := R0.s1
    have hk : 2 ≤ k := by have := T.cnt; omega
    obtain ⟨k, rfl⟩ : ∃ j, k = j + 1 := ⟨k - 1, by omega⟩
    have rn : runN ns steps k (stepM ns steps s) = runOf ns is steps := by rw [← T.run, runN_go (by rw [z]; rfl)]
    have fin : ∀ (s' : Mc × List Int) (x5 x6 x7 x8 : Option V) (H' : Hp), stepM ns steps s = s' → IM K H' A s'.1 → H' e = some (.lst (s'.2.map V.int)) → Same H H' → (s'.1.fin = none → (s'.2.length : Int) ≤ steps) → s'.1.outs.length ≤ s'.2.length → s'.1.ahead.length ≤ is.length →
        ∃ m', m' < k + 1 ∧ ∃ s x5' x6' x7' x8', [some c, some d, some (.int steps), some (.ref A.o), some (.ref e), x5, x6, x7, x8] = [some c, some d, some (.int steps), some (.ref A.o), some (.ref e), x5', x6', x7', x8'] ∧ RunAt K H ns is steps A e s m' H' := by
      rintro s' x5 x6 x7 x8 H' rfl I' e' sm l1 l2 l3
      refine ⟨k, Nat.lt_succ_self _, stepM ns steps s, x5, x6, x7, x8, rfl, I', e', sm, ne, rn, ?_, l1, l2, l3⟩
      rw [step_came, List.length_append]
      have := T.cnt
      show s.2.length + 1 + k = _
      omega
    refine ⟨_, fun σ' H' h => h, ?_⟩
    refine R.seq (R.drop (R.bm (R.var (R.tyL T.he ?_))))
    refine R.cons (R.fld (R.var (R.fldI F T.I (get_place A s.1) (by decide) ?_)))
    refine R.nil (R.appendI T.he ?_ ?_)
    · have := T.cnt
      exact Nat.lt_of_le_of_lt (by omega : s.2.length ≤ 100000) (by decide)
    have I5 := T.I.off (u := .lst ((s.2 ++ [s.1.place]).map V.int)) ne
    have sm5 : Same H (upd H4 e (.lst ((s.2 ++ [s.1.place]).map V.int))) := Same.mut fe T.sm
    have e5 : (upd H4 e (.lst ((s.2 ++ [s.1.place]).map V.int))) e = some _ := upd_same
    generalize upd H4 e (.lst ((s.2 ++ [s.1.place]).map V.int)) = H5 at I5 sm5 e5 ⊢
    refine R.seq (R.asg (R.call (R.cons (R.var (R.cons (R.fld (R.var (R.fldI F I5 (get_place A s.1) (by decide) ?_))))))))
    refine R.nil ⟨c, ns, s.1.place, rfl, R0.c.mono sm5, R0.cb, ?_⟩
    intro v H6 s6 hv
    refine R.gName ?_
    have I6 := I5.keep s6
    have e6 := s6 _ _ e5
    have sm6 := sm5.trans s6
    have len : (s.2 ++ [s.1.place]).length = s.2.length + 1 := List.length_append
    have l2 : s.1.outs.length ≤ s.2.length := T.outs
    refine R.ifS (R.test (R.op (R.cb (R.cons (R.var (R.nil (R.lenLI (SqL.of e6) ?_)))))))
    refine R.var (R.gtI (R.bl ?_))
    refine R.iD (fun hn => ?_) (fun hn => ?_)
    · refine R.sfld (R.c (R.var ?_))
      refine ⟨A.o, _, A.dx, flds A s.1, rfl, I6.o, F.cls, F.no "end" (by decide), (by decide : 10 < 1000), ?_⟩
      rw [put_end A s.1 "late"]
      exact fin ({ s.1 with fin := some "late" }, s.2 ++ [s.1.place]) _ _ _ _ _ (if_pos hn) (I6.self (I6.ok.fin _) rfl rfl rfl rfl rfl rfl) (upd_mut (ne_kind e6 I6.o fun z => nomatch z) e6) (same_fx sm6 ((FxA.refl A _).upd Adr.mo) fr) (fun z => nomatch z) (Nat.le_trans l2 (by show s.2.length ≤ (s.2 ++ [s.1.place]).length; omega)) T.ahead
    refine R.ifS (R.test (R.op (R.var ?_)))
    cases hr : rowAt ns s.1.place with
    | none =>
      rw [hr] at hv
      rw [dp_none hv]
      refine R.c (R.isNn (R.bl (R.iT ?_)))
      refine R.sfld (R.c (R.var ?_))
      refine ⟨A.o, _, A.dx, flds A s.1, rfl, I6.o, F.cls, F.no "end" (by decide), (by decide : 10 < 1000), ?_⟩
      rw [put_end A s.1 "broken"]
      refine fin ({ s.1 with fin := some "broken" }, s.2 ++ [s.1.place]) _ _ _ _ _ ?_ (I6.self (I6.ok.fin _) rfl rfl rfl rfl rfl rfl) (upd_mut (ne_kind e6 I6.o fun z => nomatch z) e6) (same_fx sm6 ((FxA.refl A _).upd Adr.mo) fr) (fun z => nomatch z) (Nat.le_trans l2 (by show s.2.length ≤ (s.2 ++ [s.1.place]).length; omega)) T.ahead
      unfold stepM
      rw [if_neg hn, opAt_none hr]
    | some x =>
      obtain ⟨l, n⟩ := x
      obtain ⟨op, ho, rfl, ok⟩ := opAt_some R0.cb hr
      rw [hr] at hv
      obtain ⟨pf, xs, rfl, hpf, ha⟩ := dp_tup hv
      cases ha with
      | cons a t =>
        cases t with
        | cons b t =>
          cases t
          rw [dp_int b] at hpf
          obtain ⟨pr, ys, rfl, hpr, hys⟩ := dp_tup a
          refine R.c (R.isNr (R.bl (R.iF ?_)))
          refine R.seq (R.asg (R.var (R.gPairT hpf ?_)))
          refine R.seq (R.sfldAug (R.var ⟨A.o, _, _, flds A s.1, .int s.1.place, rfl, I6.o, F.cls, F.no "place" (by decide), get_place A s.1, R.var ⟨s.1.place, n, rfl, rfl, A.dx, flds A s.1, I6.o, (by decide : 10 < 1000), ?_⟩⟩))
          rw [put_place A s.1 (s.1.place + n)]
          have I7 : IM K _ A { s.1 with place := s.1.place + n } := I6.self (m' := { s.1 with place := s.1.place + n }) (I6.ok.at _) rfl rfl rfl rfl rfl rfl
          have hpr7 := SqT.mutI (o := .ins (He.ga K "Old") A.dx (flds A { s.1 with place := s.1.place + n })) I6.o hpr
          have e7 := upd_mut (o := .ins (He.ga K "Old") A.dx (flds A { s.1 with place := s.1.place + n })) (ne_kind e6 I6.o fun z => nomatch z) e6
          have sm7 : Same H (upd H6 A.o (.ins (He.ga K "Old") A.dx (flds A { s.1 with place := s.1.place + n }))) := same_fx sm6 ((FxA.refl A _).upd Adr.mo) fr
          generalize upd H6 A.o (.ins (He.ga K "Old") A.dx (flds A { s.1 with place := s.1.place + n })) = H7 at I7 hpr7 e7 sm7 ⊢
          obtain ⟨⟨ds, hds⟩, fl⟩ := op_data op
          have hys7 : DpAll K H7 ys op.data := dpAll_flat fl hys
          have d7 : Dp K H7 (.ref pr) (.tuple op.data) := .tup hpr7 hys7
          rw [hds] at hys7
          cases hys7 with
          | cons y0 yt =>
            rw [dp_str y0] at hpr7
            refine R.seq (R.asg (R.op (R.c (R.op (R.var (R.c (R.ixT0 hpr7 ?_)))))))
            refine R.ixKDs hD (doersK_get K op) (R.gName ?_)
            refine R.drop (R.callD ⟨op.doer, spDo op.doer K w, rfl, if_pos (op_doer op), R.cons (R.var (R.cons (R.var (R.nil ?_))))⟩)
            refine ⟨A, { s.1 with place := s.1.place + n }, op, .ref pr, rfl, I7, d7, rfl, ok, ⟨?_, ?_⟩, fun H8 I8 f8 => ?_⟩
            · have := T.cnt
              show s.1.outs.length < _
              exact Nat.lt_of_le_of_lt (by omega : s.1.outs.length ≤ 100000) (by decide)
            · have a1 := T.ahead
              have a2 := R0.dl
              show s.1.ahead.length < _
              omega
            refine fin (({ s.1 with place := s.1.place + n } : Mc).act op, s.2 ++ [s.1.place]) _ _ _ _ _ ?_ I8 (f8 e _ e7 ne) (same_fx sm7 f8 fr) (fun _ => by show ((s.2 ++ [s.1.place]).length : Int) ≤ steps; omega) ?_ ?_
            · unfold stepM
              rw [if_neg hn, ho]
            · have a1 : (({ s.1 with place := s.1.place + n } : Mc).act op).outs.length ≤ s.1.outs.length + 1 := act_outs _ op
              refine Nat.le_trans a1 ?_
              show _ ≤ (s.2 ++ [s.1.place]).length
              omega
            · have a1 : (({ s.1 with place := s.1.place + n } : Mc).act op).ahead.length ≤ s.1.ahead.length := act_ahead _ op
              exact Nat.le_trans a1 T.ahead
  · rw [ze]
    k_caught0
    refine ⟨by k_caughtN0, fun p hp => ?_⟩
    have er : runOf ns is steps = s := by rw [← T.run, runN_end z]
    refine q p e A _ (T.sm.trans (same_upd hp)) upd_same ?_ ?_ (T.sm.free hp) fe fr
    · rw [er]
      exact T.I.keep (same_upd hp)
    · rw [er]
      exact upd_get hp T.he
theorem pure_run (F : OldC K) {vs : List V} {H : Hp} {Q : VK} {E : XK} (h : sp_run K w vs H Q E) : t_run K w { nx := fun _ H' => Q .non H', rt := Q } (start N_run vs) H := by
  obtain ⟨c, d, ns, is, steps, rfl, R0, q⟩ := h
  unfold t_run
  refine R.seq (R.asg (R.call (R.cons (R.var (R.cons (R.var (R.cons (R.var (R.nil ?_)))))))))
  refine ⟨c, d, ns, is, steps, rfl, R0, ?_⟩
  intro p e A H1 s1 gp I1 g1 fp fe fr
  refine R.gPair gp ?_
  refine R.ret (R.tup (R.cons (R.fld (R.var (R.fldI F I1 (get_end A _) (by decide) ?_)))))
  refine R.cons (R.fld (R.var (R.fldI F I1 (get_outs A _) (by decide) ?_)))
  refine R.nil ⟨by k_caughtN0, fun p2 hp2 => ?_⟩
  exact q p2 A.u _ (s1.trans (same_upd hp2)) upd_same (upd_get hp2 I1.u) (s1.free hp2) (fr _ Adr.mu)
theorem pure_traced {vs : List V} {H : Hp} {Q : VK} {E : XK} (h : sp_traced K w vs H Q E) : t_traced K w { nx := fun _ H' => Q .non H', rt := Q } (start N_traced vs) H := by
  obtain ⟨c, d, ns, is, steps, rfl, R0, q⟩ := h
  unfold t_traced
  refine R.seq (R.asg (R.call (R.cons (R.var (R.cons (R.var (R.cons (R.var (R.nil ?_)))))))))
  refine ⟨c, d, ns, is, steps, rfl, R0, ?_⟩
  intro p e A H1 s1 gp I1 g1 fp fe fr
  refine R.gPair gp ?_
  exact R.ret (R.var (q e _ s1 g1 fe))
end
end Rl
namespace Rl
open PySem PySem.Spec PyProof.Rows L2
section
variable {K : PySem.W.Frag} {w : World}
theorem pure_behind_and_target (F : FindC K w) {vs : List V} {H : Hp} {Q : VK} {E : XK} (h : sp_behind_and_target K w vs H Q E) : t_behind_and_target K w { nx := fun _ H' => Q .non H', rt := Q } (start N_behind_and_target vs) H := by
  obtain ⟨c, ns, a, rfl, hc, hb, q⟩ := h
  unfold t_behind_and_target
  k_caught0
  refine ⟨c, ns, a, rfl, hc, hb, fun v H1 e1 hv => ?_⟩
  cases hr : rowAt ns a with
  | none =>
    rw [hr] at hv
    obtain rfl := dp_none hv
    k_caught0
    refine ⟨by k_caughtN0, fun p hp => q _ _ (by k_subL) ⟨p, rfl, ?_⟩⟩
    unfold behind tgt
    rw [hr]
    exact upd_same
  | some lm =>
    obtain ⟨l, m⟩ := lm
    obtain ⟨wd, rest, rfl, ht⟩ := row_shape hb hr
    rw [hr] at hv
    obtain ⟨p, r, xs, rfl, hp, hx, hxs⟩ := dp_at hv
    have hb1 : behind ns a = if wd ∈ endsT then none else some (a + m) := by
      unfold behind
      rw [hr]
      rfl
    have ht1 : tgt ns a = if wd ∈ tgtT then some (numOf (.str wd :: rest)) else none := by
      unfold tgt
      rw [hr]
      rfl
    k_caught0
    refine R.gPairT hp ?_
    k_caught0
    have hx0 := hx
    have fin : ∀ (x y : Option Int) H2, x = behind ns a → y = tgt ns a → Same H1 H2 → ∀ p2, H2 p2 = none → Q (.ref p2) (upd H2 p2 (.tup [optV x, optV y])) := by
      rintro x y H2 rfl rfl e2 p2 hp2
      exact q _ _ (by k_subL) ⟨p2, rfl, upd_same⟩
    refine R.inStrs (ws := endsT) (.inr (F.ends H1)) ?_
    k_caught0
    refine R.iD (fun he => ?_) (fun he => ?_)
    · rw [if_pos he] at hb1
      k_caught0
      refine R.inStrs (ws := tgtT) (.inr (F.mach.targets H1)) ?_
      k_caught0
      refine R.iD (fun hw => ?_) (fun hw => ?_)
      · obtain ⟨n, rfl⟩ := ht hw
        rw [DpAll.of_ints (ns := [n]) hxs] at hx0
        rw [if_pos hw] at ht1
        refine R.op ?_
        k_caught0
        exact ⟨by k_caughtN0, fin none (some n) H1 hb1.symm ht1.symm (Same.refl _)⟩
      · rw [if_neg hw] at ht1
        k_caught0
        exact ⟨by k_caughtN0, fin none none H1 hb1.symm ht1.symm (Same.refl _)⟩
    · rw [if_neg he] at hb1
      k_caught0
      refine R.inStrs (ws := tgtT) (.inr (F.mach.targets H1)) ?_
      k_caught0
      refine R.iD (fun hw => ?_) (fun hw => ?_)
      · obtain ⟨n, rfl⟩ := ht hw
        rw [DpAll.of_ints (ns := [n]) hxs] at hx0
        rw [if_pos hw] at ht1
        k_caught0
        exact ⟨by k_caughtN0, fin (some _) (some n) H1 hb1.symm ht1.symm (Same.refl _)⟩
      · rw [if_neg hw] at ht1
        k_caught0
        exact ⟨by k_caughtN0, fin (some _) none H1 hb1.symm ht1.symm (Same.refl _)⟩
end
end Rl
namespace Rl
open PySem PySem.Spec PyProof.Rows L2
section
variable {K : PySem.W.Frag} {w : World}
theorem pure_is_call {F : Prop} (_ : F) {vs : List V} {H : Hp} {Q : VK} {E : XK} (h : sp_is_call K w vs H Q E) : t_is_call K w { nx := fun _ H' => Q .non H', rt := Q } (start N_is_call vs) H := by
  obtain ⟨c, ns, a, rfl, hc, hb, q⟩ := h
  unfold t_is_call
  k_caught0
  refine ⟨c, ns, a, rfl, hc, hb, fun v H1 e1 hv => ?_⟩
  cases hr : rowAt ns a with
  | none =>
    rw [hr] at hv
    obtain rfl := dp_none hv
    k_caught0
    have z := q _ e1
    unfold isCall at z
    rw [hr] at z
    exact z
  | some lm =>
    obtain ⟨l, m⟩ := lm
    obtain ⟨wd, rest, rfl, ht⟩ := row_shape hb hr
    rw [hr] at hv
    obtain ⟨p, r, xs, rfl, hp, hx, hxs⟩ := dp_at hv
    k_caught0
    have z := q _ e1
    unfold isCall at z
    rw [hr] at z
    exact z
theorem pure_goes_on {F : Prop} (_ : F) {vs : List V} {H : Hp} {Q : VK} {E : XK} (h : sp_goes_on K w vs H Q E) : t_goes_on K w { nx := fun _ H' => Q .non H', rt := Q } (start N_goes_on vs) H := by
  obtain ⟨c, ns, a, rfl, hc, hb, q⟩ := h
  unfold t_goes_on
  k_caught0
  refine ⟨c, ns, a, rfl, hc, hb, fun v H1 e1 hv => ?_⟩
  obtain ⟨p, rfl, hp⟩ := hv
  refine R.gPair hp ?_
  k_caught0
  refine ⟨c, ns, a, rfl, hc.mono e1, hb, fun H2 e2 => ?_⟩
  have fin : ∀ (y : Option Int) σ, y = (if isCall ns a = true then none else tgt ns a) → σ = [some c, some (.int a), some (optV (behind ns a)), some (optV y), none] → tRet (tCB (rSortedSet w) (tCons (tScI w (iSeq K (tTup (tCons (tVar 2) (tCons (tVar 3) tNil)))) (gName 4) (tTest (tOp (rNotN) (tVar 4) (tC .non))) (tVar 4) [4]) tNil)) { nx := fun _ H' => Q .non H', rt := Q } σ H2 := by
    rintro y σ hy rfl
    k_caught0
    refine R.sc ?_
    k_caught0
    refine ⟨by k_caughtN0, fun p2 hp2 => ?_⟩
    refine .inr ⟨p2, rfl, ⟨_, SqT.of upd_same⟩, ?_⟩
    refine scOpts [behind ns a, y] (SqT.of upd_same) (Nat.le_of_ble_eq_true rfl) (fun _ => rfl) (fun _ => rfl) ?_
    intro D H3 S n hD e3 hS hn hm
    k_caught0
    refine ⟨D, S, n, rfl, hS, hn, fun L p3 hL hLm _ hp3 => ?_⟩
    refine q p3 _ L (by k_subL) ?_ upd_same ⟨hL, fun k => ?_⟩
    · exact (by k_subL : Same H H3).free hp3
    · rw [hLm k, hm k, hy]
      cases isCall ns a <;> simp [eq_comm]
  refine R.bl (R.iB (fun hcall => ?_) (fun hcall => ?_))
  · k_caught0
    exact fin none _ (by rw [if_pos hcall]) rfl
  · k_caught0
    exact fin (tgt ns a) _ (by rw [hcall]; rfl) rfl
end
end Rl
namespace Rl
open PySem PySem.Spec PyProof.Rows L2
section
variable {K : PySem.W.Frag} {w : World}
theorem pure_law_any_row {F : Prop} (_ : F) {vs : List V} {H : Hp} {Q : VK} {E : XK} (h : sp_law_any_row K w vs H Q E) : t_law_any_row K w { nx := fun _ H' => Q .non H', rt := Q } (start N_law_any_row vs) H := by
  obtain ⟨r, k, S, rfl, k0, k4, hR, q⟩ := h
  unfold t_law_any_row
  k_caught0
  refine ⟨by k_caughtN0, fun l1 hl1 => ?_⟩
  k_caught0
  refine ⟨by k_caughtN0, fun l2 hl2 => ?_⟩
  k_caught0
  refine ⟨by k_caughtN0, fun l3 hl3 => ?_⟩
  k_caught0
  refine ⟨by k_caughtN0, fun l4 hl4 => ?_⟩
  k_caught0
  refine ⟨by k_caughtN0, fun l5 hl5 => ?_⟩
  have n1 : l1 ≠ r := hR.ne hl1
  have n2 : l2 ≠ r := (hR.keep (by k_subL)).ne hl2
  have n3 : l3 ≠ r := (hR.keep (by k_subL)).ne hl3
  have n4 : l4 ≠ r := (hR.keep (by k_subL)).ne hl4
  generalize hH5 : upd (upd _ l4 _) l5 _ = H5
  obtain ⟨g1, g2, g3, g4, g5, e5⟩ : H5 l1 = some (.lst (([16, 32, 48, 64, 80, 96, 112, 128, 144] : List Int).map V.int)) ∧ H5 l2 = some (.lst (([16, 160, 176, 192, 208, 244, 241, 240] : List Int).map V.int)) ∧ H5 l3 = some (.lst (([224, 225, 226, 227, 228] : List Int).map V.int)) ∧
      H5 l4 = some (.lst (([229, 1, 242, 243, 16, 241, 2] : List Int).map V.int)) ∧ H5 l5 = some (.lst [.ref l1, .ref l2, .ref l3, .ref l4]) ∧ Same H H5 := by
    rw [← hH5]
    refine ⟨upd_get hl5 (upd_get hl4 (upd_get hl3 (upd_get hl2 upd_same))), upd_get hl5 (upd_get hl4 (upd_get hl3 upd_same)), upd_get hl5 (upd_get hl4 upd_same), upd_get hl5 upd_same, upd_same, by k_subL⟩
  clear hH5 hl1 hl2 hl3 hl4 hl5
  obtain ⟨p, ms, m, np, hat, gp, hms, hat2, hlen, m0, m1⟩ : ∃ p ms m, p ≠ r ∧ atI ([.ref l1, .ref l2, .ref l3, .ref l4] : List V) k = some (.ref p) ∧ H5 p = some (.lst (ms.map V.int)) ∧ By ms ∧ atI (([9, 8, 5, 7] : List Int).map V.int) k = some (.int m) ∧ (ms.length : Int) = m ∧ 0 < m ∧ m < 10 := by
    obtain rfl | rfl | rfl | rfl : k = 0 ∨ k = 1 ∨ k = 2 ∨ k = 3 := by omega
    · exact ⟨l1, _, 9, n1, rfl, g1, by unfold By; decide, rfl, rfl, by decide, by decide⟩
    · exact ⟨l2, _, 8, n2, rfl, g2, by unfold By; decide, rfl, rfl, by decide, by decide⟩
    · exact ⟨l3, _, 5, n3, rfl, g3, by unfold By; decide, rfl, rfl, by decide, by decide⟩
    · exact ⟨l4, _, 7, n4, rfl, g4, by unfold By; decide, rfl, rfl, by decide, by decide⟩
  have hR5 := hR.keep e5
  k_caught0
  refine R.ixL (SqL.of g5) hat ?_
  k_caught0
  refine ⟨by k_caughtN0, fun l6 hl6 => ?_⟩
  k_caught0
  refine R.ixL (SqL.of upd_same) hat2 ?_
  k_caught0
  refine ⟨r, m, S, rfl, hR5.keep (same_upd hl6), m0, by omega, fun d H6 f6 hR6 d0 d1 => ?_⟩
  have gp6 : H6 p = some (.lst (ms.map V.int)) := f6.at np (upd_get hl6 gp)
  have hF6 : Fx r H H6 := Fx.trans (Same.but (Same.trans e5 (same_upd hl6))) f6
  clear hl6 f6 hR5 hR
  refine R.ixLI (SqL.of gp6) d0 (by omega) ?_
  intro first _ hfm
  have hf := hms first hfm
  k_caught0
  refine ⟨r, 4, S, rfl, hR6, by decide, by decide, fun b H7 f7 hR7 b0 b1 => ?_⟩
  have hF7 : Fx r H H7 := Fx.trans hF6 f7
  clear hF6 f7 hR6
  k_caught0
  -- how each way ends
  have fin : ∀ (H' : Hp) (row : List Int), Fx r H H' → Reel H' r S → By row → 1 ≤ row.length → row.length ≤ 2 → ∀ p, H' p = none → Q (.ref p) (upd H' p (.lst (row.map V.int))) := fun H' row hF hR' h1 h2 h3 p hp =>
    q p _ row (hF.free hR' hp) (hR'.ne hp) (Fx.trans hF (Same.but (same_upd hp))) (hR'.add hp) upd_same h1 h2 h3
  refine ⟨by k_caughtN0, fun l7 hl7 => ?_⟩
  refine R.inInts (ns := [1, 2, 224, 225, 226, 227, 228, 229]) (.inl (SqL.of upd_same)) ?_
  have hF8 : Fx r H (upd H7 l7 (.lst (([1, 2, 224, 225, 226, 227, 228, 229] : List Int).map V.int))) := Fx.trans hF7 (Same.but (same_upd hl7))
  have hR8 : Reel (upd H7 l7 (.lst (([1, 2, 224, 225, 226, 227, 228, 229] : List Int).map V.int))) r S := hR7.keep (same_upd hl7)
  k_caught0
  refine R.iD (fun h1 => ?_) (fun h1 => ?_)
  · k_caught0
    refine R.iD (fun h2 => ?_) (fun h2 => ?_)
    · k_caught0
      exact ⟨by k_caughtN0, fin _ [first] hF8 hR8 (by unfold By; simp; omega) (Nat.le_refl _) (Nat.le_of_ble_eq_true rfl)⟩
    · k_caught0
      exact ⟨by k_caughtN0, fin _ [first, 0] hF8 hR8 (by unfold By; simp; omega) (Nat.le_of_ble_eq_true rfl) (Nat.le_refl _)⟩
  k_caught0
  refine ⟨by k_caughtN0, fun l8 hl8 => ?_⟩
  refine R.inInts (ns := [16, 144, 192, 208]) (.inl (SqL.of upd_same)) ?_
  generalize hH9 : upd (upd _ l7 _) l8 _ = H9 
  have hF9 : Fx r H H9 := by
    rw [← hH9]
    exact Fx.trans hF8 (Same.but (same_upd hl8))
  have hR9 : Reel H9 r S := by
    rw [← hH9]
    exact hR8.keep (same_upd hl8)
  clear hH9 hF8 hR8 hl8 hl7 hF7 hR7
  k_caught0
  refine R.iD (fun h2 => ?_) (fun h2 => ?_)
  · k_caught0
    refine ⟨r, 4, S, rfl, hR9, by decide, by decide, fun n1 H10 f10 hR10 c0 c1 => ?_⟩
    k_caught0
    refine ⟨r, 256, S, rfl, hR10, by decide, by decide, fun n2 H11 f11 hR11 d0 d1 => ?_⟩
    k_caught0
    refine ⟨by k_caughtN0, fun l9 hl9 => ?_⟩
    k_caught0
    refine ⟨r, 2, S, rfl, hR11.keep (same_upd hl9), by decide, by decide, fun n3 H12 f12 hR12 e0 e1 => ?_⟩
    refine R.ixLI (ns := [n1, n2]) (SqL.of (f12.at (hR11.ne hl9) upd_same)) e0 e1 ?_
    intro v _ hv
    have hv2 : 0 ≤ v ∧ v < 256 := by
      rcases List.mem_cons.mp hv with z | z
      · omega
      · have := List.mem_singleton.mp z
        omega
    have h3 : first = 16 ∨ first = 144 ∨ first = 192 ∨ first = 208 := by simpa using h2
    k_caught0
    refine ⟨by k_caughtN0, fin H12 [first + 4 * b, v] (hF9.trans (f10.trans (f11.trans (Fx.trans (Same.but (same_upd hl9)) f12)))) hR12 ?_ (Nat.le_of_ble_eq_true rfl) (Nat.le_refl _)⟩
    unfold By
    simp
    omega
  k_caught0
  refine R.iD (fun h3 => ?_) (fun h3 => ?_)
  · k_caught0
    refine ⟨by k_caughtN0, fin H9 [240 + 4 * b + first % 4] hF9 hR9 ?_ (Nat.le_refl _) (Nat.le_of_ble_eq_true rfl)⟩
    unfold By
    simp
    omega
  · k_caught0
    refine ⟨r, 4, S, rfl, hR9, by decide, by decide, fun n1 H10 f10 hR10 c0 c1 => ?_⟩
    k_caught0
    refine ⟨by k_caughtN0, fin H10 [first + 4 * b + n1] (hF9.trans f10) hR10 ?_ (Nat.le_refl _) (Nat.le_of_ble_eq_true rfl)⟩
    unfold By
    simp
    omega
end
end Rl
namespace Rl
open PySem PySem.Spec PyProof.Rows L2
section
variable {K : PySem.W.Frag} {w : World}
theorem pure_law_code {F : Prop} (_ : F) {vs : List V} {H : Hp} {Q : VK} {E : XK} (h : sp_law_code K w vs H Q E) : t_law_code K w { nx := fun _ H' => Q .non H', rt := Q } (start N_law_code vs) H := by
  obtain ⟨r, S, rfl, hR, q⟩ := h
  unfold t_law_code
  k_caught0
  refine ⟨by k_caughtN0, fun l1 hl1 => ?_⟩
  have n1 : l1 ≠ r := hR.ne hl1
  have hR1 := hR.add (o := .lst []) hl1
  k_caught0
  refine ⟨by k_caughtN0, fun l2 hl2 => ?_⟩
  k_caught0
  refine ⟨r, 6, _, rfl, hR1.keep (same_upd hl2), by decide, by decide, fun d H1 f1 hR2 d0 d1 => ?_⟩
  have n2 : l2 ≠ r := hR1.ne hl2
  refine R.ixLI (ns := [8, 30, 8, 30, 30, 95]) (SqL.of (f1.at n2 upd_same)) d0 d1 ?_
  intro most _ hmost
  have hm : 8 ≤ most ∧ most ≤ 95 := by
    simp at hmost
    omega
  have g1 : H1 l1 = some (.lst []) := by lcg_sub
  have F1 : Fx r H H1 := by k_subL
  clear f1 hl2 hR1
  k_caught0
  refine ⟨r, most, _, rfl, hR2, by omega, by omega, fun many H2 f2 hR3 m0 m1 => ?_⟩
  have g2 : H2 l1 = some (.lst []) := by lcg_sub
  have F2 : Fx r H H2 := F1.trans f2
  clear f2 hR2 F1 g1
  k_caught0
  refine R.rng1v (by omega) (by omega) ?_
  refine R.forR (fun i σ H' => ∃ a k rs rws B, σ = [some (.ref r), some (.ref l1), a, k, none, none, none, none] ∧ Fx r H H' ∧ Reel H' r (S1 l1 S) ∧ Bs B H' r ∧ B l1 = none ∧ H' l1 = some (.lst rs) ∧ Rws B rs rws ∧ rs.length = i ∧ ∀ row ∈ rws, RowG row)
    ⟨_, _, [], [], fun _ => none, rfl, F2, hR3, ⟨fun _ _ z => (nomatch z), rfl⟩, rfl, g2, .nil, rfl, fun _ z => (nomatch z)⟩ ?_ ?_
  · rintro i σ H3 hi ⟨a, k, rs, rws, B, rfl, F3, hR4, hB, hB1, g3, hrs, hlen, hG⟩
    k_caught0
    refine ⟨by k_caughtN0, fun l3 hl3 => ?_⟩
    have n3 : l3 ≠ r := hR4.ne hl3
    k_caught0
    refine ⟨r, 6, _, rfl, hR4.keep (same_upd hl3), by decide, by decide, fun d H4 f4 hR5 d0 d1 => ?_⟩
    refine R.ixLI (ns := [0, 0, 1, 1, 2, 3]) (SqL.of (f4.at n3 upd_same)) d0 d1 ?_
    intro kind _ hkind
    have hk : 0 ≤ kind ∧ kind < 4 := by
      simp at hkind
      omega
    k_caught0
    refine ⟨r, kind, _, rfl, hk.1, hk.2, hR5, fun p H5 row hp np f5 hR6 gp hby hl0 hl2 => ?_⟩
    have g5 : H5 l1 = some (.lst rs) := by lcg_sub
    k_caught0
    refine R.append g5 (Nat.lt_of_le_of_lt (m := 100) (by omega) (by decide)) ?_
    have np1 : l1 ≠ p := ne_of_none (f4.at n1 (upd_get hl3 g3)) hp
    have b4 : Bs B H4 r := (hB.to (same_upd hl3)).fx f4
    have b5 : Bs (upd B p (.lst (row.map V.int))) H5 r := (b4.fx f5).grow gp np
    have F5 : Fx r H H5 := F3.trans (Fx.trans (Same.but (same_upd hl3)) (f4.trans f5))
    refine ⟨_, _, rs ++ [.ref p], rws ++ [row], _, rfl, Fx.mutN hl1 F5, (hR6.sub fun _ z => .inr z).mut (.inl rfl), b5.mut ((upd_ne np1).trans hB1), (upd_ne np1).trans hB1, upd_same, Rws.app (.cons upd_same .nil) (hrs.mono (same_upd (b4.free hp))), ?_, ?_⟩
    · rw [List.length_append, hlen]
      rfl
    · intro rw' hrw
      rcases List.mem_append.mp hrw with z | z
      · exact hG _ z
      · rw [List.mem_singleton.mp z]
        exact ⟨hby, hl0, hl2⟩
  rintro σ H3 ⟨a, k, rs, rws, B, rfl, F3, hR4, hB, hB1, g3, hrs, hlen, hG⟩
  clear hR3 F2 g2
  k_caught0
  refine ⟨by k_caughtN0, fun l3 hl3 => ?_⟩
  k_caught0
  refine ⟨by k_caughtN0, fun l4 hl4 => ?_⟩
  k_caught0
  refine ⟨r, 3, _, rfl, hR4.keep (by k_subL), by decide, by decide, fun d H4 f4 hR5 d0 d1 => ?_⟩
  have n3 : l3 ≠ r := hR4.ne hl3
  have n4 : l4 ≠ r := (hR4.keep (same_upd hl3)).ne hl4
  have g4 : H4 l4 = some (.lst [.ref l3]) := by lcg_sub
  have g4' : H4 l3 = some (.lst (([0] : List Int).map V.int)) := f4.at n3 (upd_get hl4 upd_same)
  have g1' : H4 l1 = some (.lst rs) := by lcg_sub
  have b4 : Bs (upd B l3 (.lst (([0] : List Int).map V.int))) H4 r := ((hB.to (by k_subL)).fx f4).grow g4' n3
  have F4 : Fx r H H4 := F3.trans (Fx.trans (by k_subL) f4)
  have hrs4 : Rws (upd B l3 (.lst (([0] : List Int).map V.int))) rs rws := hrs.mono (same_upd (hB.free hl3))
  clear f4 hl4 hl3 hR4 hB F3 hrs g3
  k_caught0
  refine R.repIf g4 ?_
  intro l5 hl5
  refine R.cat (upd_get hl5 g1') upd_same ?_ ?_
  · refine Nat.le_trans (m := 200) ?_ (by decide)
    have : (if decide (0 < d) = true then [V.ref l3] else []).length ≤ 1 := by
      split
      · exact Nat.le_refl _
      · exact Nat.zero_le _
    omega
  intro l6 hl6
  obtain ⟨R', hR'⟩ : ∃ R', R' = rs ++ (if decide (0 < d) = true then [V.ref l3] else []) := ⟨_, rfl⟩
  obtain ⟨rw', hrw', hrl, hRl, hG'⟩ : ∃ rw', Rws (upd B l3 (.lst (([0] : List Int).map V.int))) R' rw' ∧ rw'.length = R'.length ∧ 1 ≤ R'.length ∧ R'.length ≤ 96 ∧ ∀ row ∈ rw', RowG row := by
    rw [hR']
    by_cases hd : 0 < d
    · rw [decide_eq_true hd, if_pos rfl]
      refine ⟨rws ++ [[0]], Rws.app (.cons upd_same .nil) hrs4, ?_, ?_, ?_, ?_⟩
      · rw [List.length_append, List.length_append, hrs4.len]
        rfl
      · rw [List.length_append]
        show 1 ≤ _ + 1
        omega
      · rw [List.length_append]
        show _ + 1 ≤ 96
        omega
      · intro row hrow
        rcases List.mem_append.mp hrow with z | z
        · exact hG _ z
        · rw [List.mem_singleton.mp z]
          exact ⟨by unfold By; decide, by decide, by decide⟩
    · rw [decide_eq_false hd, if_neg Bool.false_ne_true, List.append_nil]
      exact ⟨rws, hrs4, hrs4.len.symm, by omega, by omega, hG⟩
  rw [← hR']
  generalize hH6 : upd (upd H4 l5 _) l6 (.lst R') = H6
  have n6 : l6 ≠ r := (hR5.keep (same_upd hl5)).ne hl6
  obtain ⟨F6, hR6, b6⟩ : Fx r H H6 ∧ Reel H6 r S ∧ Bs (upd (upd B l3 (.lst (([0] : List Int).map V.int))) l6 (.lst R')) H6 r := by
    rw [← hH6]
    refine ⟨F4.trans (by k_subL), (hR5.keep (by k_subL)).sub fun _ z => .inr z, (b4.to (by k_subL)).grow upd_same n6⟩
  have gB : upd (upd B l3 (.lst (([0] : List Int).map V.int))) l6 (.lst R') l6 = some (.lst R') := upd_same
  have hrwB : Rws (upd (upd B l3 (.lst (([0] : List Int).map V.int))) l6 (.lst R')) R' rw' := hrw'.mono (same_upd ((b4.to (same_upd hl5)).free hl6))
  generalize upd (upd B l3 (.lst (([0] : List Int).map V.int))) l6 (.lst R') = B6 at b6 gB hrwB
  clear hH6 hl6 hl5 hR5 b4 F4 hrs4 g4 g4' g1' hrw' hR'
  obtain ⟨hR96, hG'⟩ := hG'
  k_caught0
  refine ⟨by k_caughtN0, fun l7 hl7 => ?_⟩
  have n7 : l7 ≠ r := hR6.ne hl7
  have nB7 : B6 l7 = none := b6.free hl7
  have n07 : H l7 = none := F6.free hR6 hl7
  have hR7 := hR6.add (o := .lst [.int 0]) hl7
  have b7 : Bs B6 (upd H6 l7 (.lst [.int 0])) r := b6.to (same_upd hl7)
  have F7 : Fx r H (upd H6 l7 (.lst [.int 0])) := Fx.mutN n07 F6
  k_caught0
  refine R.forL (xs := R') (fun i σ H' => ∃ x sts, σ = [some (.ref r), some (.ref l6), a, k, some (.ref l7), x, none, none] ∧ Fx r H H' ∧ Reel H' r (S1 l7 S) ∧ Bs B6 H' r ∧ H' l7 = some (.lst (List.map V.int sts)) ∧ sts.length = i + 1 ∧ ∀ x ∈ sts, 0 ≤ x ∧ x ≤ 2 * i)
    (SqL.of (b7.same _ _ gB)) ⟨none, [0], rfl, F7, hR7, b7, upd_same, rfl, fun x hx => by
      rw [List.mem_singleton.mp hx]
      omega⟩ (fun i σ H' _ ⟨_, _, _, _, _, b, _⟩ => SqL.of (b.same _ _ gB)) ?_ ?_
  · rintro i v σ H8 hv hi ⟨x, sts, rfl, F8, hR8, b8, g8, hl8, hb8⟩
    obtain ⟨p, row, rfl, hrow, hp⟩ := hrwB.get hv
    have hg := hG' row (List.mem_of_getElem? hrow)
    k_caught0
    refine R.ixLast (SqL.of g8) (by omega) ?_
    intro last hlast
    have hlb := hb8 last (List.mem_of_getElem? hlast)
    have gp : SqL K H8 p (row.map V.int) := SqL.of (b8.same _ _ hp)
    k_caught0
    refine R.appendI g8 (Nat.lt_of_le_of_lt (m := 200) (by omega) (by decide)) ?_
    refine ⟨_, sts ++ [last + row.length], rfl, Fx.mutN n07 F8, hR8.mut (.inl rfl), b8.mut nB7, upd_same, ?_, ?_⟩
    · rw [List.length_append, hl8]
      rfl
    · intro u hu
      have hg1 := hg.2.2
      rcases List.mem_append.mp hu with z | z
      · have := hb8 u z
        omega
      · rw [List.mem_singleton.mp z]
        omega
  rintro σ H8 ⟨x, sts, rfl, F8, hR8, b8, g8, hl8, hb8⟩
  clear F7 b7 hR7 hl7 F6 b6 hR6
  k_caught0
  refine ⟨by k_caughtN0, fun l8 hl8' => ?_⟩
  have n8 : l8 ≠ r := hR8.ne hl8'
  have n78 : l8 ≠ l7 := (ne_of_none g8 hl8').symm
  k_caught0
  refine R.forL (xs := R') (fun i σ H' => ∃ x y c ds, σ = [some (.ref r), some (.ref l6), a, k, some (.ref l7), x, some (.ref c), y] ∧ Fx r H H' ∧ H c = none ∧ c ≠ r ∧ Reel H' r (S1 c S) ∧ Bs B6 H' r ∧ B6 c = none ∧ c ≠ l7 ∧ H' l7 = some (.lst (List.map V.int sts)) ∧ H' c = some (.lst (List.map V.int ds)) ∧ By ds ∧ i ≤ ds.length ∧ ds.length ≤ 2 * i)
    (SqL.of ((b8.to (same_upd hl8')).same _ _ gB)) ⟨x, none, l8, [], rfl, Fx.mutN (F8.free hR8 hl8') F8, F8.free hR8 hl8', n8, (hR8.sub fun _ z => .inr z).add hl8', b8.to (same_upd hl8'), b8.free hl8', n78, upd_get hl8' g8, upd_same, fun _ z => (nomatch z), Nat.le_refl _, Nat.le_refl _⟩ (fun i σ H' _ ⟨_, _, _, _, _, _, _, _, _, b, _⟩ => SqL.of (b.same _ _ gB)) ?_ ?_
  · rintro i v σ H9 hv hi ⟨x, y, c, ds, rfl, F9, hc0, hcr, hR9, b9, hBc, hc7, g9, gc, hby, hd1, hd2⟩
    obtain ⟨p, row, rfl, hrow, hp⟩ := hrwB.get hv
    have hg := hG' row (List.mem_of_getElem? hrow)
    k_caught0
    refine R.catI gc (b9.same _ _ hp) (Nat.le_trans (m := 500) (by have := hg.2.2; omega) (by decide)) ?_
    intro c2 hc2
    have n2r : c2 ≠ r := hR9.ne hc2
    have n20 : H c2 = none := F9.free hR9 hc2
    have n27 : c2 ≠ l7 := (ne_of_none g9 hc2).symm
    have nB2 : B6 c2 = none := b9.free hc2
    generalize hH10 : upd H9 c2 _ = H10
    obtain ⟨F10, hR10, b10, g10, gc10, gp10⟩ : Fx r H H10 ∧ Reel H10 r (S1 c2 S) ∧ Bs B6 H10 r ∧ H10 l7 = some (.lst (List.map V.int sts)) ∧ H10 c2 = some (.lst ((ds ++ row).map V.int)) ∧ SqL K H10 p (row.map V.int) := by
      rw [← hH10]
      exact ⟨Fx.mutN n20 F9, (hR9.sub fun _ z => .inr z).add hc2, b9.to (same_upd hc2), upd_get hc2 g9, upd_same, SqL.of (upd_get hc2 (b9.same _ _ hp))⟩
    clear hH10 hc2 gc g9 b9 hR9 F9 hc0 hcr hBc hc7
    have hby2 : By (ds ++ row) := fun n hn => (List.mem_append.mp hn).elim (hby n) (hg.1 n)
    have hlen2 : (ds ++ row).length = ds.length + row.length := List.length_append
    have hg1 := hg.2.1
    have hg2 := hg.2.2
    -- how a turn ends
    have fin : ∀ (H' : Hp) (x y : Option V) (es : List Int), Fx r H H' → Reel H' r (S1 c2 S) → Bs B6 H' r → H' l7 = some (.lst (List.map V.int sts)) → H' c2 = some (.lst (es.map V.int)) → By es → es.length = ds.length + row.length →
        ∃ x' y' c' ds', [some (.ref r), some (.ref l6), a, k, some (.ref l7), x, some (.ref c2), y] = [some (.ref r), some (.ref l6), a, k, some (.ref l7), x', some (.ref c'), y'] ∧ Fx r H H' ∧ H c' = none ∧ c' ≠ r ∧ Reel H' r (S1 c' S) ∧ Bs B6 H' r ∧ B6 c' = none ∧ c' ≠ l7 ∧ H' l7 = some (.lst (List.map V.int sts)) ∧ H' c' = some (.lst (List.map V.int ds')) ∧ By ds' ∧ i + 1 ≤ ds'.length ∧ ds'.length ≤ 2 * (i + 1) :=
      fun H' x y es h1 h2 h3 h4 h5 h6 h7 => ⟨_, _, c2, es, rfl, h1, n20, n2r, h2, h3, nB2, n27, h4, h5, h6, by omega, by omega⟩
    have put : ∀ (H' : Hp) (x y : Option V) (v : Int), Fx r H10 H' → Reel H' r (S1 c2 S) → 0 ≤ v → v < 256 → ∀ QS : Hp → Prop, (∀ H'', (∃ x' y' c' ds', [some (.ref r), some (.ref l6), a, k, some (.ref l7), x, some (.ref c2), y] = [some (.ref r), some (.ref l6), a, k, some (.ref l7), x', some (.ref c'), y'] ∧ Fx r H H'' ∧ H c' = none ∧ c' ≠ r ∧ Reel H'' r (S1 c' S) ∧ Bs B6 H'' r ∧ B6 c' = none ∧ c' ≠ l7 ∧ H'' l7 = some (.lst (List.map V.int sts)) ∧ H'' c' = some (.lst (List.map V.int ds')) ∧ By ds' ∧ i + 1 ≤ ds'.length ∧ ds'.length ≤ 2 * (i + 1)) → QS H'') → rSetL (.ref c2) (.int (-1)) (.int v) H' QS :=
      fun H' x y v h1 h2 v0 v1 QS qs => R.setLastI (h1.at n2r gc10) (by omega) (qs _ (fin _ x y _ (Fx.mutN n20 (F10.trans h1)) (h2.mut (.inl rfl)) ((b10.fx h1).mut nB2) (upd_mut n27.symm (h1.at n7 g10)) upd_same (hby2.set v0 v1) (by rw [List.length_set]; exact hlen2)))
    k_caught0
    refine R.ixLI gp10 (by decide) (by omega) ?_
    intro first _ _
    k_caught0
    refine R.iD (fun _ => ?_) (fun _ => ?_)
    · k_caught0
      refine ⟨r, _, _, rfl, hR10, by omega, by omega, fun d2 H11 f11 hR11 d0 d1 => ?_⟩
      refine R.ixLI (SqL.of (f11.at n7 g10)) d0 (by omega) ?_
      intro t _ ht
      have ht2 := hb8 t ht
      k_caught0
      refine ⟨r, 12, _, rfl, hR11, by decide, by decide, fun d3 H12 f12 hR12 e0 e1 => ?_⟩
      k_caught0
      refine R.iD (fun _ => ?_) (fun _ => ?_)
      · k_caught0
        refine ⟨r, 256, _, rfl, hR12, by decide, by decide, fun d4 H13 f13 hR13 i0 i1 => ?_⟩
        k_caught0
        refine R.ixLast (SqL.of (f13.at n7 (f12.at n7 (f11.at n7 g10)))) (by omega) ?_
        intro last hlast
        have hlb := hb8 last (List.mem_of_getElem? hlast)
        k_caught0
        refine ⟨by k_caughtN0, fun l9 hl9 => ?_⟩
        k_caught0
        refine ⟨r, 3, _, rfl, hR13.keep (same_upd hl9), by decide, by decide, fun d5 H14 f14 hR14 j0 j1 => ?_⟩
        refine R.ixLI (ns := [t + 1, d4, last]) (SqL.of (f14.at (hR13.ne hl9) upd_same)) j0 j1 ?_
        intro v _ hv
        have hv2 : 0 ≤ v ∧ v < 256 := by
          simp at hv
          omega
        k_caught0
        refine put H14 _ _ v (f11.trans (f12.trans (f13.trans (Fx.trans (Same.but (same_upd hl9)) f14)))) hR14 hv2.1 hv2.2 _ fun H'' h => h
      · k_caught0
        refine put H12 _ _ t (f11.trans f12) hR12 ht2.1 (by omega) _ fun H'' h => h
    · k_caught0
      exact fin H10 _ _ _ F10 hR10 b10 g10 gc10 hby2 hlen2
  rintro σ H9 ⟨x, y, c, ds, rfl, F9, hc0, hcr, hR9, b9, hBc, hc7, g9, gc, hby, hd1, hd2⟩
  k_caught0
  refine ⟨r, 6, _, rfl, hR9, by decide, by decide, fun d2 H10 f10 hR10 e0 e1 => ?_⟩
  k_caught0
  refine R.iD (fun _ => ?_) (fun _ => ?_)
  · k_caught0
    refine ⟨r, 256, _, rfl, hR10, by decide, by decide, fun v H11 f11 hR11 v0 v1 => ?_⟩
    have gc11 : H11 c = some (.lst (List.map V.int ds)) := f11.at hcr (f10.at hcr gc)
    k_caught0
    refine ⟨r, _, _, rfl, hR11, by omega, by omega, fun at' H12 f12 hR12 a0 a1 => ?_⟩
    refine R.setLI (f12.at hcr gc11) a0 a1 ?_
    k_caught0
    refine q c _ _ hc0 hcr (Fx.mutN hc0 (F9.trans (f10.trans (f11.trans f12)))) (hR12.mut (.inl rfl)) upd_same (hby.set v0 v1) ?_ ?_
    · rw [List.length_set]
      omega
    · rw [List.length_set]
      omega
  · k_caught0
    exact q c _ ds hc0 hcr (F9.trans f10) hR10 (f10.at hcr gc) hby (by omega) (by omega)
end
end Rl
namespace Rl
open PySem PySem.Spec PyProof.Rows L2
section
variable {K : PySem.W.Frag} {w : World}
theorem pure_law_inputs {F : Prop} (_ : F) {vs : List V} {H : Hp} {Q : VK} {E : XK} (h : sp_law_inputs K w vs H Q E) : t_law_inputs K w { nx := fun _ H' => Q .non H', rt := Q } (start N_law_inputs vs) H := by
  obtain ⟨r, S, rfl, hR, q⟩ := h
  unfold t_law_inputs
  refine R.ret (R.lc ?_)
  k_caught0
  refine ⟨r, 9, S, rfl, hR, by decide, by decide, fun m H5 f5 hR5 m0 m1 => ?_⟩
  k_caught0
  refine R.rng1v (by omega) (by omega) ?_
  refine lcDraws (fun v => 0 ≤ v ∧ v < 256) hR5 (Nat.lt_of_le_of_lt (m := 300) (by omega) (by decide)) (fun _ => rfl) ?_ ?_
  · intro i D H' hi hD f r' Q' q'
    k_caught0
    refine ⟨r, 4, _, rfl, r', by decide, by decide, fun n1 H10 f10 hR10 c0 c1 => ?_⟩
    k_caught0
    refine ⟨r, 256, _, rfl, hR10, by decide, by decide, fun n2 H11 f11 hR11 d0 d1 => ?_⟩
    k_caught0
    refine ⟨by k_caughtN0, fun l9 hl9 => ?_⟩
    k_caught0
    refine ⟨r, 2, _, rfl, hR11.keep (same_upd hl9), by decide, by decide, fun n3 H12 f12 hR12 e0 e1 => ?_⟩
    refine R.ixLI (ns := [n1, n2]) (SqL.of (f12.at (hR11.ne hl9) upd_same)) e0 e1 ?_
    intro v _ hv
    have hv2 : 0 ≤ v ∧ v < 256 := by
      rcases List.mem_cons.mp hv with z | z
      · omega
      · have := List.mem_singleton.mp z
        omega
    exact q' v H12 (f10.trans (f11.trans (Fx.trans (Same.but (same_upd hl9)) f12))) hR12 hv2
  intro D H6 es hD nD f6 hR6 hDl hlen hP
  exact q D H6 es (f5.free hR5 hD) nD (f5.trans f6) hR6 hDl hP (by omega)
end
end Rl
namespace Rl
open PySem PySem.Spec PyProof.Rows L2 NdefX LamX
/-- at a turn of all_from's while -/
def AFw (N : Int → Int → Prop) (first : Int) (f d l : Addr) (H : Hp) (m : Nat) (σ : L2.St) (H' : Hp) : Prop := ∃ (ks ws : List Int) (v4 : Option V), σ = [some (.int first), some (.ref f), some (.ref d), some (.ref l), v4] ∧ Same H H' ∧ H' d = some (.dK (dkv ks)) ∧ H' l = some (.lst (ws.map V.int)) ∧ AF N first ks ws ∧ m = 2 * (1300 - ks.length) + ws.length ∧ ws.length ≤ ks.length
/-- at a turn of its for -/
def AFf (N : Int → Int → Prop) (first : Int) (f d l p : Addr) (H : Hp) (x : Int) (L : List Int) (n0 n1 : Nat) (i : Nat) (σ : L2.St) (H' : Hp) : Prop := ∃ (ks ws : List Int) (v4 : Option V), σ = [some (.int first), some (.ref f), some (.ref d), some (.ref l), v4] ∧ Same H H' ∧ H' d = some (.dK (dkv ks)) ∧ H' l = some (.lst (ws.map V.int)) ∧
  H' p = some (.lst (L.map V.int)) ∧ AFi N first ks ws x L i ∧ n0 ≤ ks.length ∧ ws.length + n0 + 1 = n1 + ks.length
section
variable {K : PySem.W.Frag} {w : World}
theorem filt_opts (x y : Option Int) (k : Int) : k ∈ [x, y].filterMap id ↔ (x = some k ∨ y = some k) := by
  cases x <;> cases y <;> simp [eq_comm]
theorem pure_found_places_onward {F : Prop} (_ : F) {ws : List (Option V)} {vs : List V} {H : Hp} {Q : VK} {E : XK} (h : spCap (sp_found_places_onward K w) ws vs H Q E) : t_found_places_onward K w { nx := fun _ H' => Q .non H', rt := Q } (startF N_found_places_onward vs ws) H := by
  obtain ⟨a, rfl, ns, i, rfl, hc, hb, q⟩ := h
  unfold t_found_places_onward
  k_caught0
  refine R.lc ?_
  k_caught0
  refine ⟨.ref a, ns, i, rfl, hc, hb, fun v H1 e1 hv => ?_⟩
  obtain ⟨p, rfl, hp⟩ := hv
  refine .inr ⟨p, rfl, ⟨_, SqT.of hp⟩, ?_⟩
  refine lcOpts [behind ns i, tgt ns i] (SqT.of hp) (Nat.le_of_ble_eq_true rfl) (fun _ => rfl) (fun _ => rfl) ?_
  intro D H2 hD e2 hg
  exact q D H2 _ (e1.trans e2) (e1.free hD) hg (fun k => filt_opts _ _ k) (List.length_filterMap_le id _)
theorem pure_all_from {F : Prop} (_ : F) {vs : List V} {H : Hp} {Q : VK} {E : XK} (h : sp_all_from K w vs H Q E) : t_all_from K w { nx := fun _ H' => Q .non H', rt := Q } (start N_all_from vs) H := by
  obtain ⟨first, f, G, Nx, c, o, a, ns, rfl, hG, hcl, ho, hf, hk, hc, nf, nk, hcode, nac, hb, h0, hN, q⟩ := h
  unfold t_all_from
  k_caught0
  refine R.disp1 (i := first) (fun H' QE z => by k_caught0; exact z) ?_
  intro d hd
  k_caught0
  refine ⟨by k_caughtN0, fun l hl => ?_⟩
  have hld : l ≠ d := fun z => by
    rw [z, upd_same] at hl
    cases hl
  have hl0 : H l = none := upd_none (upd_none hl)
  k_caught0
  have e0 : Same H (upd (upd (upd H d (.dK [])) d (.dK (dkv [first]))) l (.lst [.int first])) := fun b v z => by
    rw [upd_ne (ne_of_none z hl0), upd_ne (ne_of_none z hd), upd_ne (ne_of_none z hd)]
    exact z
  refine R.whL (AFw (Nx ns) first f d l H) _ ⟨[first], [first], _, rfl, e0, upd_get hl upd_same, upd_same, AF.start, rfl, Nat.le_refl _⟩ ?_
  clear e0 hl
  rintro m σ H1 ⟨ks, ws, v4, rfl, e1, gd, gl, A, rfl, hwk⟩
  have hfew : ∀ k ∈ ks, Few k := fun k hk => rch_in (A.rch k hk) h0 hN
  have hkl : ks.length ≤ 1300 := len_below A.nd hfew
  k_caught0
  refine ⟨by k_caughtN0, fun le hle => ?_⟩
  refine R.neD (SqL.ints (ns := ws) (SqL.of (upd_get hle gl))) (.lst (SqL.of upd_same) .nil) (shaped_ints ws) (shaped_ints []) ?_
  rw [eqv_ints_nil]
  have e2 : Same H (upd H1 le (.lst [])) := sm_new hle e1
  have gd2 : (upd H1 le (.lst [])) d = some (.dK (dkv ks)) := upd_get hle gd
  have gl2 : (upd H1 le (.lst [])) l = some (.lst (ws.map V.int)) := upd_get hle gl
  generalize upd H1 le (.lst []) = H2 at e2 gd2 gl2 ⊢
  clear hle gd gl e1
  k_caught0
  refine R.iB (fun he => ?_) (fun he => ?_)
  · have hnil : ws = [] := by
      cases ws with
      | nil => rfl
      | cons _ _ => cases he
    subst hnil
    k_caught0
    refine R.sortedD gd2 fun ys p hperm hs hp => ?_
    exact q p _ ys (sm_new hp e2) (e2.free hp) upd_same (sorted_strict hperm hs A.nd) fun k => (hperm.mem_iff).trans (A.all k)
  · have hne : 0 < ws.length := by
      cases ws with
      | nil => cases he
      | cons _ _ => exact Nat.succ_pos _
    obtain ⟨x, hx⟩ : ∃ x, ws[ws.length - 1]? = some x := ⟨_, List.getElem?_eq_getElem (by omega)⟩
    refine ⟨fun σ' H' => ∃ m', m' < 2 * (1300 - ks.length) + ws.length ∧ AFw (Nx ns) first f d l H m' σ' H', fun _ _ z => z, ?_⟩
    k_caught0
    refine ⟨f, G, spOn K Nx, c, o, a, rfl, ⟨Nx, hG, rfl⟩, hcl, ho, e2 _ _ hf, ?_⟩
    k_caught0
    refine R.bm0 ?_
    k_caught0
    refine R.pop gl2 hx ?_
    k_caught0
    have e3 : Same H (upd H2 l (.lst (ws.dropLast.map V.int))) := Same.mut hl0 e2
    have gd3 : (upd H2 l (.lst (ws.dropLast.map V.int))) d = some (.dK (dkv ks)) := upd_mut hld.symm gd2
    have gl3 : (upd H2 l (.lst (ws.dropLast.map V.int))) l = some (.lst (ws.dropLast.map V.int)) := upd_same
    generalize upd H2 l (.lst (ws.dropLast.map V.int)) = H3 at e3 gd3 gl3 ⊢
    have hc3 := e3 _ _ hc
    refine ⟨e3 _ _ hf, e3 _ _ hk, hc3, nf, nk, ns, x, rfl, Code.but (hcode.mono e3) nac, hb, fun p H4 L e4 hp gp hL hLl n4 => ?_⟩
    have ndc : d ≠ c := (ne_of_none hc hd).symm
    have nlc : l ≠ c := (ne_of_none hc hl0).symm
    have npc : p ≠ c := fun z => by
      rw [z, n4] at gp
      cases gp
    have npd : p ≠ d := fun z => by
      rw [z, but_get ndc gd3] at hp
      cases hp
    have npl : p ≠ l := fun z => by
      rw [z, but_get nlc gl3] at hp
      cases hp
    have hp0 : H p = none := by
      cases z : H p with
      | none => rfl
      | some v =>
        rw [but_get npc (e3 _ _ z)] at hp
        cases hp
    have e5 : Same H3 (upd H4 c (CellO c o)) := same_put hc3 e4
    have gp5 : (upd H4 c (CellO c o)) p = some (.lst (L.map V.int)) := upd_mut npc gp
    generalize upd H4 c (CellO c o) = H5 at e5 gp5 ⊢
    have A0 : AFi (Nx ns) first ks ws.dropLast x L 0 := A.take hx
    refine R.forLI (ns := L) (AFf (Nx ns) first f d l p H x L ks.length ws.length) (SqL.of gp5) ⟨ks, ws.dropLast, v4, rfl, e3.trans e5, e5 _ _ gd3, e5 _ _ gl3, gp5, A0, Nat.le_refl _, ?_⟩ (fun i σ H' _ z => ?_) ?_ ?_
    · rw [List.length_dropLast]
      omega
    · obtain ⟨_, _, _, _, _, _, _, z, _⟩ := z
      exact SqL.of z
    · rintro i k σ H6 hki hkm hi ⟨ks6, ws6, v6, rfl, e6, gd6, gl6, gp6, A6, k6, l6⟩
      have hkl6 : ks6.length ≤ 1300 := len_below A6.nd fun k hk => rch_in (A6.rch k hk) h0 hN
      k_caught0
      refine R.dnot ?_
      k_caught0
      refine ⟨d, _, rfl, DGet.k (k := Sum.inl k) gd6, ?_⟩
      rw [dkv_get]
      k_caught0
      refine R.iD (fun hin => ?_) (fun hnot => ?_)
      · k_caught0
        exact ⟨ks6, ws6, _, rfl, e6, gd6, gl6, gp6, A6.old hki hin, k6, l6⟩
      · k_caught0
        refine R.dput ?_
        k_caught0
        refine R.dputI gd6 hnot (Nat.lt_of_le_of_lt hkl6 (by decide)) ?_
        have gl7 : (upd H6 d (.dK (dkv (ks6 ++ [k])))) l = some (.lst (ws6.map V.int)) := upd_mut hld gl6
        k_caught0
        refine R.appendI gl7 (Nat.lt_of_le_of_lt (m := 4000) (by omega) (by decide)) ?_
        refine ⟨ks6 ++ [k], ws6 ++ [k], _, rfl, Same.mut hl0 (Same.mut hd e6), upd_mut hld.symm upd_same, upd_same, upd_mut npl (upd_mut npd gp6), A6.new hki hnot ((hL k).mp hkm), ?_, ?_⟩
        · rw [List.length_append]
          omega
        · rw [List.length_append, List.length_append]
          simp only [List.length_cons, List.length_nil]
          omega
    · rintro σ H6 ⟨ks6, ws6, v6, rfl, e6, gd6, gl6, gp6, A6, k6, l6⟩
      have hkl6 : ks6.length ≤ 1300 := len_below A6.nd fun k hk => rch_in (A6.rch k hk) h0 hN
      exact ⟨2 * (1300 - ks6.length) + ws6.length, by omega, ks6, ws6, v6, rfl, e6, gd6, gl6, A6.done hL, rfl, by omega⟩
theorem pure_found_places {F : Prop} (_ : F) (cc : Addr) {vs : List V} {H : Hp} {Q : VK} {E : XK} (h : sp_found_places K w vs H Q E) : t_found_places K w cc { nx := fun _ H' => Q .non H', rt := Q } (start N_found_places vs) H := by
  obtain ⟨c, ns, rfl, hcode, hb, hl, hT, q⟩ := h
  obtain ⟨a, rfl, hcode0⟩ := id hcode
  unfold t_found_places
  refine R.seq ⟨hT, fun f c' H1 eN T1 f0 f1 c1 => ?_⟩
  k_caught0
  refine R.callC ?_
  k_caught0
  refine ⟨a, rfl, fun o ho k1 n1 => ?_⟩
  have nf : f ≠ cc := ne_of_none f1 n1
  have nk : c' ≠ cc := ne_of_none c1 n1
  have code1 := ExtN.code eN hcode
  have nac : a ≠ cc := fun z => by
    obtain ⟨p, e, g⟩ := code1
    cases e
    rw [z] at g
    rcases g with ((g | ⟨o, g⟩) | ⟨o, its, n, g, _⟩) | ((g | ⟨o, g⟩) | ⟨o, its, n, g, _⟩) <;> first
      | (rw [n1] at g; cases g)
      | (rw [k1] at g; cases g)
  refine ⟨0, f, _, NxA, cc, o, a, ns, rfl, nxt_found_places _ _, rfl, ho, upd_get n1 f1, upd_get n1 c1, upd_same, nf, nk, code1.mono (same_upd n1), nac, hb, ⟨by decide, by decide⟩, fun x k => nxA_few hb hl, fun p H2 L e2 hp gp hLs hm => ⟨e2 _ _ upd_same, ?_⟩⟩
  have npc : p ≠ cc := fun z => by
    rw [z, upd_same] at hp
    cases hp
  have e3 : Same H1 (but cc H2) := fun b v z => but_get (ne_of_none z n1) (e2 _ _ (upd_get n1 z))
  refine q p (but cc H2) L (eN.trans (ExtN.ofSame e3)) (TabsN.same T1 e3) ?_ (but_get npc gp) ⟨hLs, hm⟩
  cases z : noT H p with
  | none => rfl
  | some v =>
    have y := upd_get (o := CellO cc o) n1 (extN_noT eN _ _ z)
    rw [hp] at y
    cases y
end
end Rl
namespace Rl
open PySem PySem.Spec PyProof.Rows L2
def OI (od : List Nat) : List Int := List.map (fun n : Nat => (n : Int)) od
theorem rgI_OI (n : Int) : R.rgI 0 n = OI (List.range n.toNat) := by
  unfold R.rgI OI
  rw [Int.sub_zero]
  refine List.map_congr_left fun a _ => ?_
  rw [Int.zero_add]
theorem OI_len (od : List Nat) : (OI od).length = od.length := List.length_map _
theorem OI_get {od : List Nat} {i : Nat} {m : Int} (h : (OI od)[i]? = some m) : ∃ k, od[i]? = some k ∧ m = (k : Int) := by
  unfold OI at h
  rw [List.getElem?_map] at h
  cases e : od[i]? with
  | none =>
    rw [e] at h
    cases h
  | some k =>
    rw [e] at h
    exact ⟨k, rfl, (Option.some.inj h).symm⟩
theorem erase_perm' : ∀ (l : List Nat) {i k : Nat}, l[i]? = some k → l.Perm (k :: l.eraseIdx i)
  | [], _, _, h => by cases h
  | x :: l, 0, k, h => by
    obtain rfl : x = k := Option.some.inj h
    exact List.Perm.refl _
  | x :: l, i + 1, k, h => ((erase_perm' l (i := i) h).cons x).trans (List.Perm.swap k x _)
section
variable {K : PySem.W.Frag} {w : World}
theorem pure_law_blocks {F : Prop} (_ : F) {vs : List V} {H : Hp} {Q : VK} {E : XK} (h : sp_law_blocks K w vs H Q E) : t_law_blocks K w { nx := fun _ H' => Q .non H', rt := Q } (start N_law_blocks vs) H := by
  obtain ⟨r, S, rfl, hR, q⟩ := h
  unfold t_law_blocks
  k_caught0
  refine ⟨r, 47, _, rfl, hR, by decide, by decide, fun d H1 f1 hR1 d0 d1 => ?_⟩
  k_caught0
  refine ⟨⟨by omega, by omega, by omega, by omega, by omega⟩, fun lo hlo => ?_⟩
  obtain ⟨n, hn, hn2, hn48⟩ : ∃ n : Nat, (2 + d) = (n : Int) ∧ 2 ≤ n ∧ n ≤ 48 := ⟨(2 + d).toNat, by omega, by omega, by omega⟩
  rw [hn, rgI_OI, Int.toNat_natCast]
  have hlo0 : H lo = none := f1.free hR1 hlo
  have hR2 := hR1.add (o := .lst ((OI (List.range n)).map V.int)) hlo
  k_caught0
  refine ⟨r, 3, _, rfl, hR2, by decide, by decide, fun way H2 f2 hR3 w0 w1 => ?_⟩
  have nlo : lo ≠ r := hR1.ne hlo
  have glo : H2 lo = some (.lst ((OI (List.range n)).map V.int)) := f2.at nlo upd_same
  have F2 : Fx r H H2 := (f1.trans (Same.but (same_upd hlo))).trans f2
  clear hR2 hR1 f1 f2 hlo hR
  refine R.gName (R.seq (R.joinS (fun σ H' => ∃ lo od, σ = [some (.ref r), some (.int (n : Nat)), some (.ref lo), some (.int way), none, none, none, none, none, none, none, none, none, none] ∧ Fx r H H' ∧ H lo = none ∧ lo ≠ r ∧ Reel H' r (S1 lo S) ∧ H' lo = some (.lst ((OI od).map V.int)) ∧ od.Perm (List.range n)) ?_ fun N key => ?_))
  rotate_left
  · refine R.ifS ?_
    k_caught0
    refine R.iD (fun _ => ?_) (fun _ => ?_)
    · k_caught0
      refine ⟨lo, _, rfl, SqL.of glo, fun l2 hl2 => ?_⟩
      k_caught0
      refine key _ _ ⟨l2, (List.range n).reverse, rfl, F2.trans (Same.but (same_upd hl2)), F2.free hR3 hl2, hR3.ne hl2, (hR3.sub fun _ z => .inr z).add hl2, ?_, List.reverse_perm _⟩
      unfold OI
      rw [List.map_reverse, List.map_reverse]
      exact upd_same
    · k_caught0
      exact key _ _ ⟨lo, _, rfl, F2, hlo0, nlo, hR3, glo, List.Perm.refl _⟩
  clear glo hR3 nlo hlo0 F2
  rintro σ H2 ⟨lo, od, rfl, F2, hlo0, nlo, hR2, glo, hod⟩
  refine R.seq (R.joinS (fun σ H' => ∃ lo od x, σ = [some (.ref r), some (.int (n : Nat)), some (.ref lo), some (.int way), x, none, none, none, none, none, none, none, none, none] ∧ Fx r H H' ∧ lo ≠ r ∧ Reel H' r S ∧ H' lo = some (.lst ((OI od).map V.int)) ∧ od.Perm (List.range n)) ?_ fun N key => ?_)
  rotate_left
  · refine R.ifS ?_
    k_caught0
    refine R.iD (fun _ => ?_) (fun _ => ?_)
    · k_caught0
      refine R.lc ?_
      k_caught0
      refine R.rng1v (by omega) (by omega) ?_
      rw [Int.toNat_natCast]
      intro D hD
      have nD : D ≠ r := hR2.ne hD
      have nDlo : lo ≠ D := ne_of_none glo hD
      refine R.lcI walk_range (fun i H' => ∃ got rem : List Nat, Fx r H H' ∧ Reel H' r (S1 D (S1 lo S)) ∧ H' D = some (.lst ((OI got).map V.int)) ∧ H' lo = some (.lst ((OI rem).map V.int)) ∧ (got ++ rem).Perm (List.range n) ∧ got.length = i) ⟨[], od, Fx.mutN (F2.free hR2 hD) F2, hR2.add hD, upd_same, upd_get hD glo, hod, rfl⟩ (fun _ _ _ _ => True.intro) ?_ ?_
      · rintro i x H3 H4 hi ⟨got, rem, F3, hR3, gD, gr, hp, hl⟩ ⟨rfl, rfl⟩
        have hlen : got.length + rem.length = n := by
          have := hp.length_eq
          rw [List.length_append, List.length_range] at this
          exact this
        have hrl : (OI rem).length = rem.length := OI_len rem
        refine R.gName ⟨rfl, ?_⟩
        unfold tYes
        refine R.iT ?_
        k_caught0
        refine ⟨r, _, _, rfl, hR3, by omega, by omega, fun d H5 f5 hR5 d0 d1 => ?_⟩
        have gr5 : H5 lo = some (.lst ((OI rem).map V.int)) := f5.at nlo gr
        k_caught0
        refine R.popAtI gr5 d0 (by omega) (by omega) ?_
        intro m hm
        obtain ⟨k, hk, rfl⟩ := OI_get hm
        refine ⟨_, upd_mut nDlo.symm (f5.at nD gD), Nat.lt_of_le_of_lt (m := 100) (by rw [List.length_map, OI_len]; omega) (by decide), got ++ [k], rem.eraseIdx d.toNat, Fx.mutN (F2.free hR2 hD) (Fx.mutN hlo0 (F3.trans f5)), (hR5.mut (.inr (.inl rfl))).mut (.inl rfl), ?_, ?_, ?_, ?_⟩
        · rw [upd_same]
          unfold OI
          rw [List.map_append, List.map_append]
          rfl
        · rw [upd_ne nDlo, upd_same]
          unfold OI
          rw [R.map_erase]
        · have e1 : (rem).Perm (k :: rem.eraseIdx d.toNat) := erase_perm' rem hk
          rw [List.append_assoc]
          exact (List.Perm.append_left got e1.symm).trans hp
        · rw [List.length_append, hl]
          rfl
      · rintro H3 ⟨got, rem, F3, hR3, gD, gr, hp, hl⟩
        have hrem : rem = [] := by
          have := hp.length_eq
          rw [List.length_append, List.length_range] at this
          exact List.eq_nil_of_length_eq_zero (by omega)
        rw [hrem, List.append_nil] at hp
        k_caught0
        exact key _ _ ⟨D, got, _, rfl, F3, nD, hR3.sub fun _ z => .inr (.inr z), gD, hp⟩
    · k_caught0
      exact key _ _ ⟨lo, _, _, rfl, F2, nlo, hR2.sub fun _ z => .inr z, glo, hod⟩
  clear glo hR2 nlo hlo0 F2 hod
  rintro σ H2 ⟨lo, od, x, rfl, F2, nlo, hR2, glo, hod⟩
  k_caught0
  refine ⟨by k_caughtN0, fun lb hlb => ?_⟩
  have nlb : lb ≠ r := hR2.ne hlb
  k_caught0
  refine ⟨by k_caughtN0, fun lg hlg => ?_⟩
  have I0 : BlkI H (upd (upd H2 lb (.lst [])) lg (.lst [])) (upd (upd (upd (fun _ => none) lo (.lst ((OI od).map V.int))) lb (.lst [])) lg (.lst [])) r lo lb lg S (OI od) [] [] [] := by
    have n1 : lo ≠ lb := ne_of_none glo hlb
    have n2 : lo ≠ lg := ne_of_none (upd_get hlb glo) hlg
    have n3 : lb ≠ lg := ne_of_none upd_same hlg
    have nlg : lg ≠ r := (hR2.keep (same_upd hlb)).ne hlg
    have h0 : Bs (fun _ => none) H2 r := ⟨fun _ _ z => (nomatch z), rfl⟩
    refine ⟨F2.trans (by k_subL), ?_, ((h0.grow glo nlo).both nlb).both nlg, ?_, ?_, upd_same, .nil, List.Pairwise.nil, fun v hv => (nomatch hv), fun p hp => (nomatch hp), F2.free hR2 hlb, F2.free hR2 (by
      cases e : H2 lg with
      | none => rfl
      | some o =>
        have z := upd_get (o := .lst []) hlb e
        rw [hlg] at z
        cases z), n1, n2, n3, Nat.le_refl _, fun row hrow => (nomatch hrow), fun j row g hrow => (nomatch hrow)⟩
    · refine Reel.sub ((hR2.add hlb).add hlg) fun a z => ?_
      rcases z with z | z | z | z
      · cases z
      · exact .inr (.inl z)
      · exact .inl z
      · exact .inr (.inr z)
    · rw [upd_ne n2, upd_ne n1]
      exact upd_same
    · rw [upd_ne n3]
      exact upd_same
  clear hlb hlg glo hR2 F2
  generalize upd (upd H2 lb (.lst [])) lg (.lst []) = H3 at I0 ⊢
  generalize upd (upd (upd (fun _ => none) lo (.lst ((OI od).map V.int))) lb (.lst [])) lg (.lst []) = M3 at I0
  k_caught0
  refine R.rng1v (by omega) (by omega) ?_
  refine R.forR (fun i σ H' => ∃ x y z M vs rws gs, σ = [some (.ref r), some (.int (n : Nat)), some (.ref lo), some (.int way), x, some (.ref lb), some (.ref lg), y, z, none, none, none, none, none] ∧ BlkI H H' M r lo lb lg S (OI od) vs rws gs ∧ rws.length = i ∧ gs.length = i ∧ tot rws ≤ 4 * i)
    ⟨x, none, none, M3, [], [], [], rfl, I0, rfl, rfl, Nat.le_refl _⟩ ?_ ?_
  · rintro i σ H4 hi ⟨x, y, z, M, vs, rws, gs, rfl, I, hl1, hl2, htot⟩
    have hvl : vs.length = i := I.rw.len.trans hl1
    k_caught0
    refine ⟨by k_caughtN0, fun l1 hl1' => ?_⟩
    k_caught0
    have n1 : l1 ≠ r := I.reel.ne hl1'
    have J1 := I.to (same_upd (o := .lst [.int 241]) hl1')
    refine ⟨r, 2, _, rfl, J1.reel, by decide, by decide, fun d2 H5 f5 hR5 e0 e1 => ?_⟩
    have J5 := J1.drawn f5 hR5
    refine R.rep (f5.at n1 upd_same) (by omega) (by omega) (Nat.le_trans (m := 10) (by show 1 * _ ≤ 10; omega) (by decide)) ?_
    intro l2 hl2'
    rw [rep_one, ← List.map_replicate (f := V.int)]
    have J6 := J5.to (same_upd (o := .lst ((List.replicate d2.toNat (241 : Int)).map V.int)) hl2')
    have n2 : l2 ≠ r := hR5.ne hl2'
    have n2b : l2 ≠ lb := (ne_of_none (J5.bs.same _ _ J5.b) hl2').symm
    clear f5 hR5 J5 J1 I hl1'
    have g6 : (upd H5 l2 (.lst ((List.replicate d2.toNat (241 : Int)).map V.int))) l2 = some (.lst ((List.replicate d2.toNat (241 : Int)).map V.int)) := upd_same
    generalize upd H5 l2 (.lst ((List.replicate d2.toNat (241 : Int)).map V.int)) = H6 at J6 g6 ⊢
    clear hl2'
    k_caught0
    refine ⟨by k_caughtN0, fun l3 hl3 => ?_⟩
    have n3 : l3 ≠ r := J6.reel.ne hl3
    have J7 := J6.to (same_upd (o := .lst [.int 224, .int 224, .int 225, .int 229]) hl3)
    k_caught0
    refine ⟨r, 4, _, rfl, J7.reel, by decide, by decide, fun d4 H7 f7 hR7 i0 i1 => ?_⟩
    refine R.ixLI (ns := [224, 224, 225, 229]) (SqL.of (f7.at n3 upd_same)) i0 i1 ?_
    intro first _ hfirst
    have hf : 0 ≤ first ∧ first < 256 := by
      simp at hfirst
      omega
    have J8 := J7.drawn f7 hR7
    have g8 : H7 l2 = some (.lst ((List.replicate d2.toNat (241 : Int)).map V.int)) := f7.at n2 (upd_get hl3 g6)
    clear f7 hR7 J7 J6 g6 hl3
    have gb8 : H7 lb = some (.lst vs) := J8.bs.same _ _ J8.b
    k_caught0
    refine ⟨by k_caughtN0, fun l4 hl4 => ?_⟩
    refine R.catI (xs := List.replicate d2.toNat 241) (ys := [first, 0]) (upd_get hl4 g8) upd_same (Nat.le_trans (m := 20) (by rw [List.length_replicate]; show _ + 2 ≤ 20; omega) (by decide)) ?_
    intro l5 hl5
    k_caught0
    refine ⟨by k_caughtN0, fun l6 hl6 => ?_⟩
    k_caught0
    refine R.repIfI upd_same ?_
    intro l7 hl7
    refine R.catI (xs := List.replicate d2.toNat 241 ++ [first, 0]) (ys := if (!decide (first = 224)) = true then [0] else []) (by lcg_sub) upd_same ?_ ?_
    · refine Nat.le_trans (m := 20) ?_ (by decide)
      rw [List.length_append, List.length_replicate]
      have : (if (!decide (first = 224)) = true then [(0 : Int)] else []).length ≤ 1 := by
        split
        · exact Nat.le_refl _
        · exact Nat.zero_le _
      show _ + 2 + _ ≤ 20
      omega
    intro p hp
    have J9 := J8.to (H' := upd (upd (upd (upd H7 l4 (.lst [.int first, .int 0])) l5 (.lst ((List.replicate d2.toNat 241 ++ [first, 0]).map V.int))) l6 (.lst [.int 0])) l7 (.lst ((if (!decide (first = 224)) = true then [(0 : Int)] else []).map V.int))) (by k_subL)
    obtain ⟨row, hrow⟩ : ∃ row, row = (List.replicate d2.toNat 241 ++ [first, 0]) ++ (if (!decide (first = 224)) = true then [(0 : Int)] else []) := ⟨_, rfl⟩
    rw [← hrow]
    have hby : By row := by
      rw [hrow]
      intro m hm
      rcases List.mem_append.mp hm with z | z
      · rcases List.mem_append.mp z with z | z
        · rw [List.eq_of_mem_replicate z]
          decide
        · simp at z
          omega
      · split at z
        · simp at z
          omega
        · cases z
    have hrl : row.length ≤ 4 ∧ d2 + 1 < row.length := by
      have e : (List.replicate d2.toNat (241 : Int)).length = d2.toNat := List.length_replicate
      have e2 : (if (!decide (first = 224)) = true then [(0 : Int)] else []).length ≤ 1 := by
        split
        · exact Nat.le_refl _
        · exact Nat.zero_le _
      have e3 : row.length = d2.toNat + 2 + (if (!decide (first = 224)) = true then [(0 : Int)] else []).length := by
        rw [hrow, List.length_append, List.length_append, e]
        rfl
      omega
    have g9 := J9.b
    have gb9 := upd_get (o := .lst (row.map V.int)) hp (J9.bs.same _ _ J9.b)
    have gl29 : (upd (upd (upd (upd H7 l4 (.lst [.int first, .int 0])) l5 (.lst ((List.replicate d2.toNat 241 ++ [first, 0]).map V.int))) l6 (.lst [.int 0])) l7 (.lst ((if (!decide (first = 224)) = true then [(0 : Int)] else []).map V.int))) l2 = some (.lst ((List.replicate d2.toNat (241 : Int)).map V.int)) := by lcg_sub
    have J10 := J9.push hp hby
    generalize upd (upd (upd (upd H7 l4 (.lst [.int first, .int 0])) l5 (.lst ((List.replicate d2.toNat 241 ++ [first, 0]).map V.int))) l6 (.lst [.int 0])) l7 (.lst ((if (!decide (first = 224)) = true then [(0 : Int)] else []).map V.int)) = H9 at J9 J10 hp gb9 gl29 ⊢
    clear J9 hl7 hl6 hl5 hl4 gb8 J8 g8
    k_caught0
    refine R.append gb9 (Nat.lt_of_le_of_lt (m := 100) (by omega) (by decide)) ?_
    have gl10 : (upd (upd H9 p (.lst (row.map V.int))) lb (.lst (vs ++ [.ref p]))) l2 = some (.lst ((List.replicate d2.toNat (241 : Int)).map V.int)) := upd_mut n2b (upd_get hp gl29)
    generalize upd (upd H9 p (.lst (row.map V.int))) lb (.lst (vs ++ [.ref p])) = H10 at J10 gl10 ⊢
    generalize upd (upd M p (.lst (row.map V.int))) lb (.lst (vs ++ [.ref p])) = M10 at J10
    clear hp gb9 gl29 g9
    have gg10 : H10 lg = some (.lst (gs.map V.int)) := J10.bs.same _ _ J10.g
    k_caught0
    rw [List.length_replicate]
    refine R.appendI gg10 (Nat.lt_of_le_of_lt (m := 100) (by omega) (by decide)) ?_
    have J11 := J10.pushG (n := (d2.toNat : Int) + 1) (by rw [List.length_append]; show _ < _ + 1; omega) (fun u hu => by
      rw [List.getElem?_append_right (by omega)] at hu
      have e : gs.length - rws.length = 0 := by omega
      rw [e] at hu
      obtain rfl : row = u := Option.some.inj hu
      omega)
    refine ⟨_, _, _, _, _, _, _, rfl, J11, ?_, ?_, ?_⟩
    · rw [List.length_append, hl1]
      rfl
    · rw [List.length_append, hl2]
      rfl
    · rw [tot_app]
      have : tot [row] = row.length := by
        unfold tot
        simp
      omega
  rintro σ H4 ⟨x, y, z, M, vs, rws, gs, rfl, I, hl1, hl2, htot⟩
  have hvl : vs.length = (n : Int).toNat - 1 := I.rw.len.trans (by omega)
  clear I0
  k_caught0
  refine R.lc ?_
  have gb4 : H4 lb = some (.lst vs) := I.bs.same _ _ I.b
  k_caught0
  refine R.lcFM (xs := vs) (fun _ => true) (lenV M) (SqL.of gb4) (Nat.lt_of_le_of_lt (m := 100) (by omega) (by decide)) (fun _ => rfl) ?_ ?_ ?_
  · intro v H' _ _ QB qb
    k_caught0
    exact qb
  · intro v H' hv _ e Q' q'
    obtain ⟨p, row, rfl, hp⟩ := I.rw.memL hv
    have gp : SqL K H' p (row.map V.int) := SqL.of (e _ _ (I.bs.same _ _ hp))
    have e2 : lenV M (.ref p) = .int row.length := by
      show (match M p with | some (.lst xs) => V.int xs.length | _ => V.non) = _
      rw [hp]
      show V.int (row.map V.int).length = _
      rw [List.length_map]
    rw [e2] at q'
    k_caught0
    exact q'
  intro D H5 hD e5 hDl
  rw [I.rw.lens] at hDl
  have J5 := I.to e5
  k_caught0
  refine R.sumI (SqL.of hDl) ?_
  rw [sum_lens]
  clear hD hDl e5 gb4 I
  k_caught0
  refine R.tyL (J5.bs.same _ _ J5.b) ?_
  k_caught0
  refine ⟨by k_caughtN0, fun l1 hl1' => ?_⟩
  have n1 : l1 ≠ r := J5.reel.ne hl1'
  have J6 := J5.to (same_upd (o := .lst [.int 2, .int 241]) hl1')
  k_caught0
  refine ⟨r, 2, _, rfl, J6.reel, by decide, by decide, fun d2 H7 f7 hR7 i0 i1 => ?_⟩
  refine R.ixLI (ns := [2, 241]) (SqL.of (f7.at n1 upd_same)) i0 i1 ?_
  intro fill _ hfill
  have hf : 0 ≤ fill ∧ fill < 256 := by
    simp at hfill
    omega
  have J7 := J6.drawn f7 hR7
  clear f7 hR7 J6 J5 hl1'
  k_caught0
  refine ⟨by k_caughtN0, fun l2 hl2' => ?_⟩
  have n2 : l2 ≠ r := J7.reel.ne hl2'
  have J8 := J7.to (same_upd (o := .lst [.int fill]) hl2')
  k_caught0
  refine ⟨r, _, _, rfl, J8.reel, by omega, by omega, fun m H9 f9 hR9 m0 m1 => ?_⟩
  have J9 := J8.drawn f9 hR9
  refine R.rep (f9.at n2 upd_same) (by omega) (by omega) (Nat.le_trans (m := 300) (by show 1 * _ ≤ 300; omega) (by decide)) ?_
  intro l3 hl3
  rw [rep_one, ← List.map_replicate (f := V.int)]
  clear f9 hR9 J8 J7 hl2'
  k_caught0
  refine ⟨by k_caughtN0, fun l4 hl4 => ?_⟩
  refine R.catI (xs := List.replicate m.toNat fill) (ys := [0]) (by lcg_sub) upd_same (Nat.le_trans (m := 300) (by rw [List.length_replicate]; show _ + 1 ≤ 300; omega) (by decide)) ?_
  intro p hp
  have J10 := J9.to (H' := upd (upd H9 l3 (.lst ((List.replicate m.toNat fill).map V.int))) l4 (.lst [.int 0])) (by k_subL)
  have hby : By (List.replicate m.toNat fill ++ [0]) := by
    intro u hu
    rcases List.mem_append.mp hu with z | z
    · rw [List.eq_of_mem_replicate z]
      exact hf
    · rw [List.mem_singleton.mp z]
      decide
  have hlast : (List.replicate m.toNat fill ++ [0]).length = m.toNat + 1 := by
    rw [List.length_append, List.length_replicate]
    rfl
  obtain ⟨row, hrow⟩ : ∃ row, row = List.replicate m.toNat fill ++ [0] := ⟨_, rfl⟩
  rw [← hrow] at hby hlast ⊢
  have gb10 := upd_get (o := .lst (row.map V.int)) hp (J10.bs.same _ _ J10.b)
  have J11 := J10.push hp hby
  k_caught0
  refine R.append gb10 (Nat.lt_of_le_of_lt (m := 100) (by omega) (by decide)) ?_
  generalize hMM : upd (upd M p (.lst (row.map V.int))) lb (.lst (vs ++ [.ref p])) = M11 at J11
  generalize upd (upd (upd (upd H9 l3 _) l4 _) p _) lb (.lst (vs ++ [.ref p])) = H11 at J11 ⊢
  clear hMM gb10 J10 hp hl4 hl3 J9
  have hN : (rws ++ [row]).length = n := by
    rw [List.length_append]
    show _ + 1 = n
    omega
  have hT : tot (rws ++ [row]) ≤ 198 := by
    rw [tot_app]
    have : tot [row] = row.length := by
      unfold tot
      simp
    omega
  have hV : (vs ++ [V.ref p]).length = n := J11.rw.len.trans hN
  have hG : gs.length = n - 1 := by omega
  generalize vs ++ [V.ref p] = vs' at J11 hV
  generalize rws ++ [row] = rws' at J11 hN hT
  clear hlast hby hrow hvl hl1 hl2 htot
  k_caught0
  refine ⟨by k_caughtN0, fun l5 hl5 => ?_⟩
  have J12 := J11.to (same_upd (o := .lst [.int 2]) hl5)
  k_caught0
  refine R.rep upd_same (by omega) (by omega) (Nat.le_trans (m := 300) (by show 1 * _ ≤ 300; omega) (by decide)) ?_
  intro ls hls
  rw [rep_one, ← List.map_replicate (f := V.int), Int.toNat_natCast]
  have ns0 : H ls = none := J12.fx.free J12.reel hls
  have nsM : M11 ls = none := J12.bs.free hls
  have nsr : ls ≠ r := J12.reel.ne hls
  have J13 := J12.newS (o := .lst ((List.replicate n (2 : Int)).map V.int)) hls
  have g13 : (upd (upd H11 l5 (.lst [.int 2])) ls (.lst ((List.replicate n (2 : Int)).map V.int))) ls = some (.lst ((List.replicate n (2 : Int)).map V.int)) := upd_same
  generalize upd (upd H11 l5 (.lst [.int 2])) ls (.lst ((List.replicate n (2 : Int)).map V.int)) = H13 at J13 g13 ⊢
  clear hls J12 J11 hl5
  have go13 : H13 lo = some (.lst ((OI od).map V.int)) := J13.bs.same _ _ J13.o
  k_caught0
  have hodl : od.length = n := by
    rw [hod.length_eq, List.length_range]
  have hodm : ∀ k ∈ od, k < n := fun k hk => List.mem_range.mp (hod.mem_iff.mp hk)
  have hod' : od.Perm (List.range rws'.length) := by
    rw [hN]
    exact hod
  refine R.forLI (ns := OI od) (fun i σ H' => ∃ k' sz sts, σ = [some (.ref r), some (.int (n : Nat)), some (.ref lo), some (.int way), k', some (.ref lb), some (.ref lg), y, z, sz, none, some (.ref ls), some (.int (2 + (((od.take i).map (lenAt rws')).sum : Nat))), none] ∧ BlkI H H' M11 r lo lb lg (S1 ls S) (OI od) vs' rws' gs ∧ H' ls = some (.lst (List.map V.int sts)) ∧ sts.length = n ∧ ∀ s ∈ sts, 0 ≤ s ∧ s ≤ 200)
    (SqL.of go13) ⟨x, _, List.replicate n 2, rfl, J13, g13, List.length_replicate, fun s hs => by
      rw [List.eq_of_mem_replicate hs]
      decide⟩ (fun i σ H' _ ⟨_, _, _, _, I, _⟩ => SqL.of (I.bs.same _ _ I.o)) ?_ ?_
  · rintro i m' σ H14 hm _ hi ⟨k', sz, sts, rfl, I, gs14, hsl, hsb⟩
    obtain ⟨k, hk, rfl⟩ := OI_get hm
    have hkn := hodm k (List.mem_of_getElem? hk)
    have hsum : ((od.take i).map (lenAt rws')).sum ≤ 198 := Nat.le_trans (sum_order hod' i) hT
    k_caught0
    refine R.setLI gs14 (by omega) (by omega) ?_
    have I2 := I.mutS (o := .lst ((sts.set (Int.toNat k) (2 + (((od.take i).map (lenAt rws')).sum : Nat))).map V.int)) (.inl rfl) ns0 nsM
    have gb := I2.bs.same _ _ I2.b
    k_caught0
    refine R.ixLV (SqL.of gb) (by omega) (by omega) ?_
    intro v hv _
    obtain ⟨q2, rw2, rfl, hrw2, hq2⟩ := I2.rw.get hv
    have gq : SqL K (upd H14 ls (.lst ((sts.set (Int.toNat k) (2 + (((od.take i).map (lenAt rws')).sum : Nat))).map V.int))) q2 (rw2.map V.int) := SqL.of (I2.bs.same _ _ hq2)
    k_caught0
    have e12 : (2 : Int) + (((od.take i).map (lenAt rws')).sum : Nat) + rw2.length = 2 + (((od.take (i + 1)).map (lenAt rws')).sum : Nat) := by
      rw [take_succ_sum _ hk, lenAt_eq (by simpa using hrw2)]
      omega
    rw [e12]
    refine ⟨_, _, _, rfl, I2, upd_same, by rw [List.length_set]; exact hsl, fun s hs => ?_⟩
    rcases List.mem_or_eq_of_mem_set hs with z | z
    · exact hsb s z
    · omega
  rintro σ H14 ⟨k', sz, sts, rfl, I, gs14, hsl, hsb⟩
  clear go13 J13 g13 nlb nlo
  k_caught0
  refine R.rng1v (by omega) (by omega) ?_
  refine R.forR (fun i σ H' => ∃ k' at' M rws2, σ = [some (.ref r), some (.int (n : Nat)), some (.ref lo), some (.int way), k', some (.ref lb), some (.ref lg), y, z, sz, none, some (.ref ls), at', none] ∧ BlkI H H' M r lo lb lg (S1 ls S) (OI od) vs' rws2 gs ∧ M ls = none ∧ H' ls = some (.lst (List.map V.int sts)) ∧ rws2.length = n ∧ ∀ j, lenAt rws2 j = lenAt rws' j)
    ⟨_, _, M11, rws', rfl, I, nsM, gs14, hN, fun _ => rfl⟩ ?_ ?_
  · clear I gs14
    rintro i σ H15 hi ⟨k', at', M, rws2, rfl, I, nsM, gs15, hN2, hlen⟩
    k_caught0
    refine R.ixLI (SqL.of gs15) (by omega) (by omega) ?_
    intro v _ hv
    have hvb := hsb v hv
    have gb := I.bs.same _ _ I.b
    have gg := I.bs.same _ _ I.g
    k_caught0
    refine R.ixLV (SqL.of gb) (by omega) (by omega) ?_
    intro u hu _
    obtain ⟨p2, rw2, rfl, hrw2, hp2⟩ := I.rw.get hu
    k_caught0
    refine R.ixLI (SqL.of gg) (by omega) (by omega) ?_
    intro g hg _
    have hgb := I.okg _ rw2 g hrw2 hg
    refine R.setLI (I.bs.same _ _ hp2) hgb.1 hgb.2 ?_
    have I2 := I.put (row := rw2.set g.toNat v) hu hrw2 (by rw [List.length_set]) ((I.okr _ (List.mem_of_getElem? hrw2)).set hvb.1 (by omega))
    have np : ls ≠ p2 := fun z => by
      rw [← z, nsM] at hp2
      cases hp2
    refine ⟨_, _, _, _, rfl, I2, (upd_ne np).trans nsM, upd_mut np gs15, by rw [List.length_set]; exact hN2, fun j => ?_⟩
    rw [lenAt_set hrw2 (by rw [List.length_set]), hlen j]
  rintro σ H15 ⟨k'', at', M, rws2, rfl, I2, nsM2, gs15, hN2, hlen⟩
  clear I gs14 nsM
  k_caught0
  refine R.ixLI (SqL.of gs15) (by decide) (by omega) ?_
  intro s0 _ hs0
  have hs0b := hsb s0 hs0
  k_caught0
  refine ⟨by k_caughtN0, fun c hc => ?_⟩
  have hod2 : od.Perm (List.range rws2.length) := by
    rw [hN2]
    exact hod
  have hT2 : tot rws2 ≤ 198 := by
    rw [← sum_range, hN2, List.map_congr_left fun j _ => hlen j, ← hN, sum_range]
    exact hT
  have J := I2.to (same_upd (o := .lst [.int 224, .int s0]) hc)
  have c0 : H c = none := I2.fx.free I2.reel hc
  have cr : c ≠ r := I2.reel.ne hc
  have hRc : Reel (upd H15 c (.lst [.int 224, .int s0])) r (S1 c S) := (I2.reel.sub fun _ z => .inr (.inr (.inr (.inr z)))).add hc
  have gc : (upd H15 c (.lst [.int 224, .int s0])) c = some (.lst (([224, s0] : List Int).map V.int)) := upd_same
  generalize upd H15 c (.lst [.int 224, .int s0]) = H16 at J hRc gc ⊢
  clear hc I2 gs15
  have go16 := J.bs.same _ _ J.o
  k_caught0
  refine R.forLI (ns := OI od) (fun i σ H' => ∃ k' c ds, σ = [some (.ref r), some (.int (n : Nat)), some (.ref lo), some (.int way), k', some (.ref lb), some (.ref lg), y, z, sz, none, some (.ref ls), at', some (.ref c)] ∧ BlkI H H' M r lo lb lg (S1 ls S) (OI od) vs' rws2 gs ∧ H c = none ∧ c ≠ r ∧ Reel H' r (S1 c S) ∧ H' c = some (.lst (List.map V.int ds)) ∧ By ds ∧ 2 ≤ ds.length ∧ ds.length ≤ 2 + ((od.take i).map (lenAt rws2)).sum)
    (SqL.of go16) ⟨_, c, [224, s0], rfl, J, c0, cr, hRc, gc, by unfold By; simp; omega, Nat.le_refl _, Nat.le_refl _⟩ (fun i σ H' _ ⟨_, _, _, _, I, _⟩ => SqL.of (I.bs.same _ _ I.o)) ?_ ?_
  · clear J hRc gc go16 c0 cr c
    rintro i m' σ H17 hm _ hi ⟨k', c, ds, rfl, I, c0, cr, hRc, gc, hby, hd2, hdl⟩
    obtain ⟨k, hk, rfl⟩ := OI_get hm
    have hkn := hodm k (List.mem_of_getElem? hk)
    have gb := I.bs.same _ _ I.b
    k_caught0
    refine R.ixLV (SqL.of gb) (by omega) (by omega) ?_
    intro v hv _
    obtain ⟨p2, rw2, rfl, hrw2, hp2⟩ := I.rw.get hv
    have hsum := take_succ_sum (lenAt rws2) hk
    rw [lenAt_eq (k := k) (by simpa using hrw2)] at hsum
    have hle : ((od.take (i + 1)).map (lenAt rws2)).sum ≤ 198 := Nat.le_trans (sum_order hod2 _) hT2
    refine R.catI gc (I.bs.same _ _ hp2) (Nat.le_trans (m := 500) (by omega) (by decide)) ?_
    intro c2 hc2
    k_caught0
    refine ⟨_, c2, ds ++ rw2, rfl, I.to (same_upd hc2), I.fx.free I.reel hc2, I.reel.ne hc2, (hRc.sub fun _ z => .inr z).add hc2, upd_same, fun u hu => (List.mem_append.mp hu).elim (hby u) (I.okr _ (List.mem_of_getElem? hrw2) u), ?_, ?_⟩
    · rw [List.length_append]
      omega
    · rw [List.length_append]
      omega
  rintro σ H17 ⟨k', c, ds, rfl, I, c0, cr, hRc, gc, hby, hd2, hdl⟩
  k_caught0
  have hle : ((od.take (OI od).length).map (lenAt rws2)).sum ≤ 198 := Nat.le_trans (sum_order hod2 _) hT2
  exact q c _ ds c0 cr I.fx hRc gc hby (by omega) (by omega)
end
end Rl
namespace Rl
open PySem PySem.Spec PyProof.Rows L2 NdefX LamX
theorem dkv_put_old {ks : List Int} {k : Int} (h : k ∈ ks) : putK (dkv ks) (Sum.inl k) (V.bl true) = dkv ks := by
  unfold putK
  rw [valV_any, dkv_get, decide_eq_true h, if_pos rfl]
  unfold dkv
  rw [List.map_map]
  refine List.map_congr_left fun j _ => ?_
  show (if (Sum.inl j : Key) = Sum.inl k then ((Sum.inl j : Key), V.bl true) else (Sum.inl j, V.bl true)) = _
  split <;> rfl
theorem TabsN.mutD {H : Hp} {T : List NTab} {p : Addr} {kvs : List (Key × V)} {o : HO} (t : TabsN T H) (h : H p = some (.dK kvs)) : TabsN T (upd H p o) := fun u hu => by
  obtain ⟨ps, h1, h2, h3⟩ := t u hu
  refine ⟨ps, upd_mut (fun z => by rw [z, h] at h1; cases h1) h1, h2, fun pos cv hc => ?_⟩
  obtain ⟨c, e1, e2⟩ := h3 pos cv hc
  exact ⟨c, e1, upd_mut (fun z => by rw [z, h] at e2; unfold CodeO at e2; cases e2) e2⟩
theorem sorted_perm {ys zs ks : List Int} (p : ys.Perm ks) (o : ys.Pairwise (· ≤ ·)) (p2 : zs.Perm ks) (o2 : zs.Pairwise (· ≤ ·)) : ys = zs :=
  (p.trans p2.symm).eq_of_pairwise (fun a b _ _ h1 h2 => by omega) o o2
section
variable {K : PySem.W.Frag} {w : World}
theorem pure_parts_of_onward {F : Prop} (_ : F) {ws : List (Option V)} {vs : List V} {H : Hp} {Q : VK} {E : XK} (h : spCap (sp_parts_of_onward K w) ws vs H Q E) : t_parts_of_onward K w { nx := fun _ H' => Q .non H', rt := Q } (startF N_parts_of_onward vs ws) H := by
  obtain ⟨a, rfl, ns, i, rfl, hc, hb, q⟩ := h
  unfold t_parts_of_onward
  k_caught0
  refine ⟨.ref a, ns, i, rfl, hc, hb, fun p H1 L e1 hp gp hG => ?_⟩
  exact q p H1 L e1 hp gp (fun k => hG.2 k) hG.len
theorem pure_parts_of {F : Prop} (_ : F) (cc : Addr) {vs : List V} {H : Hp} {Q : VK} {E : XK} (h : sp_parts_of K w vs H Q E) : t_parts_of K w cc (refOf vs) { nx := fun _ H' => Q .non H', rt := Q } (start N_parts_of vs) H := by
  obtain ⟨c, ns, rfl, hc, hb, hl, hT, q⟩ := h
  obtain ⟨a, rfl, _⟩ := id hc
  unfold t_parts_of
  k_caught0
  refine R.disp1 (i := 0) (fun H' QE z => by k_caught0; exact z) ?_
  intro d hd
  have s0 : Same H (upd (upd H d (.dK [])) d (.dK (dkv [0]))) := fun b v z => by
    rw [upd_ne (ne_of_none z hd), upd_ne (ne_of_none z hd)]
    exact z
  have gd0 : (upd (upd H d (.dK [])) d (.dK (dkv [0]))) d = some (.dK (dkv [0])) := upd_same
  generalize upd (upd H d (.dK [])) d (.dK (dkv [0])) = H0 at s0 gd0 ⊢
  k_caught0
  refine ⟨.ref a, ns, rfl, hc.mono s0, hb, hl, TabsN.same hT s0, fun p H1 L x1 T1 np gp hL => ?_⟩
  obtain ⟨hL1, hL2⟩ := hL.few hb hl
  have gd1 : H1 d = some (.dK (dkv [0])) := x1 _ _ gd0 (fun _ z => nomatch z)
  have npd : p ≠ d := fun z => by
    rw [z, gd1] at gp
    cases gp
  have xB : ExtN H (but d H1) := fun b o e n => but_get (ne_of_none e hd) (x1 b o (s0 _ _ e) n)
  have cB : Code K (but d H1) (.ref a) ns := ExtN.code xB hc
  refine R.forLI (ns := L) (fun i σ H' => (∃ v2 v3 v4, σ = [some (.ref a), some (.ref d), v2, v3, v4, none, none]) ∧ Same (but d H1) H' ∧ TabsN (NT K) H' ∧ ∃ ks : List Int, H' d = some (.dK (dkv ks)) ∧ ks.Nodup ∧ ks.length ≤ i + 1 ∧ ∀ k, k ∈ ks ↔ Entr ns (L.take i) k) (SqL.of gp)
    ⟨⟨_, _, _, rfl⟩, but_same, T1, [0], gd1, by simp, Nat.le_refl _, fun k => by simp [Entr]⟩ (fun i σ H' _ z => SqL.of (z.2.1 _ _ (but_get npd gp))) ?_ ?_
  · rintro i x σ H4 hx _ hi ⟨⟨v2, v3, v4, rfl⟩, s4, T4, ks, g4, nd4, l4, m4⟩
    have ht : L.take (i + 1) = L.take i ++ [x] := by rw [List.take_add_one, hx]; rfl
    k_caught0
    refine ⟨.ref a, ns, x, rfl, cB.mono s4, hb, fun H5 e5 => ?_⟩
    refine R.bl (R.iB (fun hcall => ?_) (fun hcall => ?_))
    · obtain ⟨n, m, hr, htg⟩ := call_tgt hb hcall
      k_caught0
      refine ⟨.ref a, ns, x, rfl, cB.mono (s4.trans e5), hb, fun v H6 e6 hv => ?_⟩
      obtain ⟨p6, rfl, hp6⟩ := hv
      refine R.gPair hp6 ?_
      rw [htg]
      show sDPut _ _ _ _ [some (.ref a), some (.ref d), some (.int x), some (optV (behind ns x)), some (.int n), none, none] H6
      have g6 := e6 _ _ (e5 _ _ g4)
      have T6 := TabsN.same (TabsN.same T4 e5) e6
      have s6 := (s4.trans e5).trans e6
      refine R.dput ?_
      k_caught0
      refine ⟨d, _, rfl, .inl ⟨_, Sum.inl n, g6, rfl, by rw [dkv_len]; exact Nat.lt_of_le_of_lt (m := 1400) (by omega) (by decide), rfl⟩, ?_⟩
      by_cases hn : n ∈ ks
      · rw [dkv_put_old hn]
        refine ⟨⟨_, _, _, rfl⟩, Same.mut but_none s6, TabsN.mutD T6 g6, ks, upd_same, nd4, by omega, fun k => ?_⟩
        rw [ht, ent_snoc, ← m4 k, htg]
        constructor
        · exact .inl
        · rintro (z | ⟨_, z⟩)
          · exact z
          · cases z
            exact hn
      · rw [dkv_put hn]
        refine ⟨⟨_, _, _, rfl⟩, Same.mut but_none s6, TabsN.mutD T6 g6, ks ++ [n], upd_same, ?_, by rw [List.length_append]; exact Nat.succ_le_succ l4, fun k => ?_⟩
        · refine List.nodup_append.mpr ⟨nd4, by simp, fun u hu v hv e => ?_⟩
          rw [List.mem_singleton.mp hv] at e
          exact hn (e ▸ hu)
        · rw [ht, ent_snoc, ← m4 k, htg, List.mem_append, List.mem_singleton, hcall]
          constructor
          · rintro (z | z)
            · exact .inl z
            · exact .inr ⟨rfl, by rw [z]⟩
          · rintro (z | ⟨_, z⟩)
            · exact .inl z
            · exact .inr (Option.some.inj z).symm
    · k_caught0
      refine ⟨⟨_, _, _, rfl⟩, s4.trans e5, TabsN.same T4 e5, ks, e5 _ _ g4, nd4, by omega, fun k => ?_⟩
      rw [ht, ent_snoc, ← m4 k, hcall]
      simp
  rintro σ H4 ⟨⟨v2, v3, v4, rfl⟩, s4, T4, ks, g4, nd4, l4, m4⟩
  rw [List.take_length] at m4
  have x4 : ExtN H H4 := xB.trans (ExtN.ofSame s4)
  refine R.seq ⟨T4, fun f c' H5 eN T5 f0 f1 c1 => ?_⟩
  have g5 : H5 d = some (.dK (dkv ks)) := eN _ _ g4 (fun _ z => nomatch z)
  have x5 : ExtN H H5 := x4.trans eN
  have c5 : Code K H5 (.ref a) ns := ExtN.code x5 hc
  clear s4 T4 g4 eN x4 gp np hT
  k_caught0
  refine ⟨rfl, R.lc ?_⟩
  k_caught0
  refine R.sortedD g5 fun es s hperm hs hs0 => ?_
  have hE : Ents ns es := ⟨L, hL, sorted_strict hperm hs nd4, fun k => (hperm.mem_iff).trans (m4 k)⟩
  obtain ⟨hE1, hE2⟩ := hE.few hb hl
  have s56 : Same H5 (upd H5 s (.lst (es.map V.int))) := same_upd hs0
  have gs6 : (upd H5 s (.lst (es.map V.int))) s = some (.lst (es.map V.int)) := upd_same
  have T6 := TabsN.same T5 s56
  have f16 := s56 _ _ f1
  have c16 := s56 _ _ c1
  have c6 := c5.mono s56
  have x6 : ExtN H (upd H5 s (.lst (es.map V.int))) := x5.trans (ExtN.ofSame s56)
  generalize upd H5 s (.lst (es.map V.int)) = H6 at s56 gs6 T6 f16 c16 c6 x6 ⊢
  refine .inl ⟨s, rfl, ⟨_, SqL.of gs6⟩, ?_⟩
  intro D hD
  refine R.lcI (walk_list (a := s) (xs := es.map V.int)) (fun i H' => Same H6 H' ∧ ∃ xs : List V, H' D = some (.lst xs) ∧ xs.length = i ∧ ∀ (j : Nat) (x : V), xs[j]? = some x → ∃ (q l : Addr) (e : Int) (L : List Int), es[j]? = some e ∧ x = .ref q ∧ H' q = some (.tup [.int e, .ref l]) ∧ H' l = some (.lst (L.map V.int)) ∧ Part ns e L ∧ L.length ≤ 1300 ∧ H6 l = none ∧ l ≠ D)
    ⟨same_upd hD, [], upd_same, rfl, fun j x hx => by cases hx⟩ (fun i H' _ z => SqL.of (z.1 _ _ gs6)) ?_ ?_
  · rintro i x H7 H7' hi ⟨s7, xs, g7, l7, m7⟩ ⟨hh, hx⟩
    obtain rfl : H7 = H7' := hh.symm
    rw [List.length_map] at hi
    rw [List.getElem?_map, List.getElem?_eq_getElem hi] at hx
    obtain rfl : V.int es[i] = x := Option.some.inj hx
    have he : es[i]? = some es[i] := List.getElem?_eq_getElem hi
    refine ⟨rfl, ?_⟩
    unfold tYes
    refine iteT ?_
    k_caught0
    refine R.callB ?_
    k_caught0
    refine fun o ho k1 n1 => ?_
    have f17 := s7 _ _ f16
    have c17 := s7 _ _ c16
    have c7 := c6.mono s7
    have nf : f ≠ cc := ne_of_none f17 n1
    have nk : c' ≠ cc := ne_of_none c17 n1
    have nac : a ≠ cc := fun z => by
      obtain ⟨p, e, g⟩ := c7
      cases e
      rw [z] at g
      rcases g with ((g | ⟨o, g⟩) | ⟨o, its, n, g, _⟩) | ((g | ⟨o, g⟩) | ⟨o, its, n, g, _⟩) <;> first
        | (rw [n1] at g; cases g)
        | (rw [k1] at g; cases g)
    have hfe := hE2 _ (List.getElem_mem hi)
    refine ⟨es[i], f, _, NxG, cc, o, a, ns, rfl, nxt_parts_of _ _, rfl, ho, upd_get n1 f17, upd_get n1 c17, upd_same, nf, nk, c7.mono (same_upd n1), nac, hb, hfe, fun x k => nxG_few hb hl, fun p8 H8 L8 e8 hp8 gp8 hLs hm => ⟨e8 _ _ upd_same, ?_⟩⟩
    have hPart : Part ns es[i] L8 := ⟨hLs, hm⟩
    have npc : p8 ≠ cc := fun z => by
      rw [z, upd_same] at hp8
      cases hp8
    have e9 : Same H7 (but cc H8) := fun b v z => but_get (ne_of_none z n1) (e8 _ _ (upd_get n1 z))
    have gp9 : (but cc H8) p8 = some (.lst (L8.map V.int)) := but_get npc gp8
    have h78 : H7 p8 = none := by
      rw [upd_ne npc] at hp8
      exact hp8
    generalize but cc H8 = H9 at e9 gp9 ⊢
    k_caught0
    refine ⟨by k_caughtN0, fun q9 hq9 => ?_⟩
    have e10 : Same H7 (upd H9 q9 (.tup [.int es[i], .ref p8])) := sm_new hq9 e9
    have g10 := e10 _ _ g7
    have gl10 : (upd H9 q9 (.tup [.int es[i], .ref p8])) p8 = some (.lst (L8.map V.int)) := upd_get hq9 gp9
    have gq10 : (upd H9 q9 (.tup [.int es[i], .ref p8])) q9 = some (.tup [.int es[i], .ref p8]) := upd_same
    have npD : p8 ≠ D := (ne_of_none g7 h78).symm
    have nqD : q9 ≠ D := fun z => by
      rw [z, e9 _ _ g7] at hq9
      cases hq9
    refine ⟨xs, g10, Nat.lt_of_le_of_lt (m := 1300) (by omega) (by decide), Same.mut hD (s7.trans e10), xs ++ [.ref q9], upd_same, by rw [List.length_append, l7]; rfl, fun j x hx => ?_⟩
    rcases Nat.lt_or_ge j xs.length with z | z
    · rw [List.getElem?_append_left z] at hx
      obtain ⟨q, l, e, L, k1, k2, k3, k4, k5, k6, k7, k8⟩ := m7 j x hx
      exact ⟨q, l, e, L, k1, k2, upd_mut (fun z => by rw [z, g7] at k3; cases k3) (e10 _ _ k3), upd_mut k8 (e10 _ _ k4), k5, k6, k7, k8⟩
    · rw [List.getElem?_append_right z] at hx
      have ej : j - xs.length = 0 := by
        rcases Nat.eq_zero_or_pos (j - xs.length) with y | y
        · exact y
        · rw [List.getElem?_eq_none (show ([V.ref q9] : List V).length ≤ j - xs.length from y)] at hx
          cases hx
      rw [ej] at hx
      obtain rfl : V.ref q9 = x := Option.some.inj hx
      have ei : j = i := by omega
      exact ⟨q9, p8, es[i], L8, by rw [ei]; exact he, rfl, upd_mut nqD gq10, upd_mut npD gl10, hPart, hPart.few hb hl hfe, s7.free h78, npD⟩
  · rintro H7 ⟨s7, xs, g7, l7, m7⟩
    rw [List.length_map] at l7
    refine q D H7 xs es (x6.trans (ExtN.ofSame s7)) (TabsN.same T6 s7) (ExtN.free x6 hD) g7 hE ⟨l7, fun j x hx => ?_⟩
    obtain ⟨q, l, e, L, k1, k2, k3, k4, k5, k6, k7, k8⟩ := m7 j x hx
    exact ⟨q, l, e, L, k1, k2, k3, k4, k5, k6, ExtN.free x6 k7, k8⟩
end
end Rl
namespace Rl
open PySem PySem.Spec PyProof.Rows L2 NdefX LamX
theorem mem_rgI {a b k : Int} : k ∈ R.rgI a b ↔ a ≤ k ∧ k < b := by
  unfold R.rgI
  constructor
  · intro h
    obtain ⟨i, hi, rfl⟩ := List.mem_map.mp h
    have := List.mem_range.mp hi
    omega
  · rintro ⟨h1, h2⟩
    exact List.mem_map.mpr ⟨(k - a).toNat, List.mem_range.mpr (by omega), by omega⟩
theorem mem_rng {x m k : Int} : k ∈ (List.range m.toNat).map (fun i => x + (0 + (i : Nat))) ↔ x ≤ k ∧ k < x + m := by
  constructor
  · intro h
    obtain ⟨i, hi, rfl⟩ := List.mem_map.mp h
    have := List.mem_range.mp hi
    omega
  · rintro ⟨h1, h2⟩
    exact List.mem_map.mpr ⟨(k - x).toNat, List.mem_range.mpr (by omega), by omega⟩
section
variable {K : PySem.W.Frag} {w : World}
theorem pure_lost_bytes {F : Prop} (_ : F) {vs : List V} {H : Hp} {Q : VK} {E : XK} (h : sp_lost_bytes K w vs H Q E) : t_lost_bytes K w { nx := fun _ H' => Q .non H', rt := Q } (start N_lost_bytes vs) H := by
  obtain ⟨c, ns, rfl, hc, hb, hl, hT, q⟩ := h
  unfold t_lost_bytes
  refine R.seq (R.asg ?_)
  intro kd hkd
  have s0 : Same H (upd H kd (.dK [])) := same_upd hkd
  k_caught0
  refine ⟨c, ns, rfl, hc.mono s0, hb, hl, TabsN.same hT s0, fun p H1 L x1 T1 np gp hL => ?_⟩
  obtain ⟨hL1, hL2⟩ := hL.few hb hl
  have gk1 : H1 kd = some (.dK []) := x1 _ _ upd_same (fun _ z => nomatch z)
  have npk : p ≠ kd := fun z => by
    rw [z, gk1] at gp
    cases gp
  have xB : ExtN H (but kd H1) := fun b o e n => but_get (ne_of_none e hkd) (x1 b o (upd_get hkd e) n)
  have cB : Code K (but kd H1) c ns := ExtN.code xB hc
  have x01 : ExtN H H1 := (ExtN.ofSame s0).trans x1
  refine R.forLI (ns := L) (fun i σ H' => (∃ v2 v3 v4, σ = [some c, some (.ref kd), v2, v3, v4]) ∧ Same (but kd H1) H' ∧ ∃ kvs : List (Key × V), H' kd = some (.dK kvs) ∧ kvs.length ≤ 1000 * i ∧ ∀ a, (valV kvs (Sum.inl a)).isSome = stood ns (L.take i) a) (SqL.of gp)
    ⟨⟨_, _, _, rfl⟩, but_same, [], gk1, Nat.le_refl _, fun a => rfl⟩ (fun i σ H' _ z => SqL.of (z.2.1 _ _ (but_get npk gp))) ?_ ?_
  · rintro i x σ H4 hx _ hi ⟨⟨v2, v3, v4, rfl⟩, s4, kvs, g4, l4, m4⟩
    have ht : L.take (i + 1) = L.take i ++ [x] := by rw [List.take_add_one, hx]; rfl
    k_caught0
    refine ⟨c, ns, x, rfl, cB.mono s4, hb, fun v H5 e5 hv => ?_⟩
    have g5 := e5 _ _ g4
    cases hr : rowAt ns x with
    | none =>
      rw [hr] at hv
      obtain rfl := dp_none hv
      k_caught0
      exact ⟨⟨_, _, _, rfl⟩, s4.trans e5, kvs, g5, by omega, fun a => by rw [m4 a, ht, stood_none hr]⟩
    | some lm =>
      obtain ⟨l, m⟩ := lm
      rw [hr] at hv
      have rr := row_range hr
      obtain ⟨p3, ys, rfl, hp3, ha⟩ := dp_tup hv
      cases ha with
      | cons a1 t1 =>
        cases t1 with
        | cons a2 t2 =>
          cases t2
          rw [dp_int a2] at hp3
          k_caught0
          refine R.tyD g5 ?_
          refine R.cons ?_
          refine R.dc ?_
          k_caught0
          refine R.rng1v (by omega) (by omega) ?_
          refine R.dcR (fun i => x + (0 + (i : Nat))) (fun y z e => by omega) (Nat.lt_of_le_of_lt (m := 1000) (by omega) (by decide)) (fun _ => rfl) (fun i H' _ _ Q' q' => by k_caught0; exact q') ?_
          intro D H6 hD e6 gD
          have nkD : kd ≠ D := ne_of_none g5 hD
          have g6 := e6 _ _ g5
          k_caught0
          have hlen : (dkv ((List.range m.toNat).map fun i => x + (0 + (i : Nat)))).length ≤ 1000 := by
            rw [dkv_len, List.length_map, List.length_range]
            omega
          refine R.update nkD g6 gD (Nat.le_trans (m := 2000000) (by omega) (by decide)) ?_
          refine ⟨⟨_, _, _, rfl⟩, Same.mut but_none ((s4.trans e5).trans e6), _, upd_same, ?_, fun a => ?_⟩
          · have := mergeK_len (dkv ((List.range m.toNat).map fun i => x + (0 + (i : Nat)))) kvs
            omega
          · rw [merge_dkv, m4 a, ht, stood_some hr]
            congr 1
            exact decide_eq_decide.mpr mem_rng
  rintro σ H4 ⟨⟨v2, v3, v4, rfl⟩, s4, kvs, g4, l4, m4⟩
  rw [List.take_length] at m4
  k_caught0
  refine R.lc ?_
  k_caught0
  refine R.rng1v (by omega) (by omega) ?_
  rw [Int.toNat_natCast]
  refine lcRF (fun a => !stood ns L a) (Nat.lt_of_le_of_lt hl (by decide)) (fun _ => rfl) (fun _ => rfl) ?_ ?_
  · intro i H' hi s QB qb
    k_caught0
    refine R.dnot ?_
    k_caught0
    refine ⟨kd, _, rfl, DGet.k (k := Sum.inl (0 + (i : Nat))) (s _ _ g4), _, rfl, ?_⟩
    rw [m4, Int.zero_add]
    exact qb
  · intro D H6 hD e6 gD
    have x6 : ExtN H H6 := xB.trans (ExtN.ofSame (s4.trans e6))
    refine q D H6 L x6 ?_ ?_ gD hL
    · refine TabsN.same (fun u hu => ?_) e6
      obtain ⟨ps, h1, h2, h3⟩ := T1 u hu
      refine ⟨ps, s4 _ _ (but_get (fun z => by rw [z, gk1] at h1; cases h1) h1), h2, fun pos cv hcv => ?_⟩
      obtain ⟨c0, e1, e2⟩ := h3 pos cv hcv
      exact ⟨c0, e1, s4 _ _ (but_get (fun z => by rw [z, gk1] at e2; unfold CodeO at e2; cases e2) e2)⟩
    · exact ExtN.free (xB.trans (ExtN.ofSame s4)) hD
end
end Rl
namespace Rl
open PySem PySem.Spec PyProof.Rows L2 NdefX LamX
def pairE (ns : List Int) (a : Int) : PyData := .tuple [.int a, atD (rowAt ns a)]
theorem nl_pairE (ns : List Int) (a : Int) : NL 3 (pairE ns a) := fun d hd => by
  rcases List.mem_cons.mp hd with rfl | hd
  · exact True.intro
  · rw [List.mem_singleton.mp hd]
    exact nl_atD ns a
/-- the second of the pair -/
def rowO (ns : List Int) (a : Int) : PyData := match rowAt ns a with
  | some (l, _) => .tuple l
  | none => .none
theorem rowE_eq (ns : List Int) (a : Int) : rowE ns a = .tuple [.int a, rowO ns a] := rfl
theorem nl_rowE (ns : List Int) (a : Int) : NL 2 (rowE ns a) := fun d hd => by
  rcases List.mem_cons.mp hd with rfl | hd
  · exact True.intro
  · rw [List.mem_singleton.mp hd]
    cases h : rowAt ns a with
    | none => exact True.intro
    | some p =>
      obtain ⟨l, m⟩ := p
      exact fun e he => ((row_flat h).2 e he).nl 0
theorem nrw_rows (ns L : List Int) (hL : L.length ≤ 1300) : Nrw 3 (.list (L.map (rowE ns))) := by
  refine ⟨Nat.lt_of_le_of_lt (m := 1300) (by rw [List.length_map]; exact hL) (by decide), fun d hd => ?_⟩
  obtain ⟨a, _, rfl⟩ := List.mem_map.mp hd
  refine ⟨Nat.lt_of_le_of_lt (m := 2) (Nat.le_refl 2) (by decide), fun d hd => ?_⟩
  rcases List.mem_cons.mp hd with rfl | hd
  · exact True.intro
  · rw [List.mem_singleton.mp hd]
    cases h : rowAt ns a with
    | none => exact True.intro
    | some p =>
      obtain ⟨l, m⟩ := p
      obtain ⟨f1, f2⟩ := row_flat h
      exact ⟨Nat.lt_of_le_of_lt (m := 3) f1 (by decide), fun e he => (f2 e he).nrw 0⟩
section
variable {K : PySem.W.Frag} {w : World}
/-- (address, None if row is None else row[0]) -/
theorem row_pair {σ : L2.St} {H : Hp} {Q : VK} {ns : List Int} {a : Int} {v : V} {i j : Nat} (hi : σ[i]? = some (some (.int a))) (hj : σ[j]? = some (some v)) (hv : Dp K H v (atD (rowAt ns a)))
    (q : ∀ p x, H p = none → Dp K H x (rowO ns a) → Dp K (upd H p (.tup [.int a, x])) (.ref p) (rowE ns a) → Q (.ref p) (upd H p (.tup [.int a, x]))) :
    tTup (tCons (tVar i) (tCons (tIf (tTest (tOp (rIsN) (tVar j) (tC .non))) (tC .non) (tOp (rIx K) (tVar j) (tC (.int 0)))) tNil)) σ H Q := by
  have fin : ∀ x, Dp K H x (rowO ns a) → ∀ p, H p = none → Q (.ref p) (upd H p (.tup [.int a, x])) := fun x hx p hp => q p x hp hx (.tup (SqT.of upd_same) (.cons (.int _) (.cons (Dp.mono (same_upd hp) hx) .nil)))
  refine R.tup (R.cons (R.var (R.cons (R.ifE (R.test (R.op (R.var (R.c ?_) hj)))) ) hi))
  cases h : rowAt ns a with
  | none =>
    rw [h] at hv
    obtain rfl := dp_none hv
    refine R.isNn (R.bl (R.iT (R.c (R.nil ⟨by k_caughtN0, fin .non ?_⟩))))
    unfold rowO
    rw [h]
    exact .non
  | some lm =>
    obtain ⟨l, m⟩ := lm
    rw [h] at hv
    obtain ⟨p, xs, rfl, hp, ha⟩ := dp_tup hv
    cases ha with
    | cons a1 t1 =>
      cases t1 with
      | cons a2 t2 =>
        cases t2
        refine R.isNr (R.bl (R.iF (R.op (R.var (R.c (R.ixT0 hp (R.nil ⟨by k_caughtN0, fin _ ?_⟩))) hj))))
        unfold rowO
        rw [h]
        exact a1
theorem pure_found_rows {F : Prop} (_ : F) {vs : List V} {H : Hp} {Q : VK} {E : XK} (h : sp_found_rows K w vs H Q E) : t_found_rows K w { nx := fun _ H' => Q .non H', rt := Q } (start N_found_rows vs) H := by
  obtain ⟨c, ns, rfl, hc, hb, hl, hT, q⟩ := h
  unfold t_found_rows
  k_caught0
  refine R.lc ?_
  k_caught0
  refine ⟨c, ns, rfl, hc, hb, hl, hT, fun p H1 L e1 T1 np gp hL => ?_⟩
  obtain ⟨hL1, hL2⟩ := hL.few hb hl
  have hLs : L.length < sizeLine := Nat.lt_of_le_of_lt hL1 (by decide)
  have hc1 : Code K H1 c ns := ExtN.code e1 hc
  refine .inl ⟨p, rfl, ⟨_, SqL.of gp⟩, ?_⟩
  refine lcDp (K := K) (walk_list (a := p) (xs := L.map V.int)) (fun i => pairE ns (L.getD i 0)) (by rw [List.length_map]; exact hLs) (fun H' e => SqL.of (e _ _ gp)) ?_ ?_
  · rintro D i x H2 H' Q' hD hi e2 ⟨ys, hy⟩ ⟨rfl, hx⟩ key
    rw [List.length_map] at hi
    rw [List.getElem?_map, List.getElem?_eq_getElem hi] at hx
    obtain rfl : V.int L[i] = x := Option.some.inj hx
    have eg : L.getD i 0 = L[i] := by rw [List.getD_eq_getElem?_getD, List.getElem?_eq_getElem hi]; rfl
    rw [eg] at key
    refine ⟨rfl, ?_⟩
    k_caught0
    refine ⟨c, ns, L[i], rfl, hc1.mono e2, hb, fun v H3 e3 hv => ?_⟩
    k_caught0
    refine ⟨by k_caughtN0, fun p2 hp2 => key _ _ (sm_new hp2 e3) ?_⟩
    exact Dp.off (upd_get hp2 (e3 _ _ hy)) (nl_pairE ns L[i]) (.tup (SqT.of upd_same) (.cons (.int _) (.cons (Dp.mono (same_upd hp2) hv) .nil)))
  intro D H4 xs hD e4 gD dD
  rw [List.length_map, range_map (pairE ns) 0 L] at dD
  have dD4 : DpAll K H4 xs (L.map (pairE ns)) := DpAll.mono but_same dD
  have hxl : xs.length = L.length := by rw [DpAll.length dD4, List.length_map]
  k_caught0
  refine R.lc ?_
  k_caught0
  refine .inl ⟨D, rfl, ⟨_, SqL.of gD⟩, ?_⟩
  refine lcDp (K := K) (walk_list (a := D) (xs := xs)) (fun i => rowE ns (L.getD i 0)) (by rw [hxl]; exact hLs) (fun H' e => SqL.of (e _ _ gD)) ?_ ?_
  · rintro D2 i x H5 H' Q' hD2 hi e5 ⟨ys, hy⟩ ⟨rfl, hx⟩ key
    obtain ⟨d, hd, hv⟩ := DpAll.get dD4 hx
    have hi2 : i < L.length := by omega
    rw [List.getElem?_map, List.getElem?_eq_getElem hi2] at hd
    obtain rfl : pairE ns L[i] = d := Option.some.inj hd
    have eg : L.getD i 0 = L[i] := by rw [List.getD_eq_getElem?_getD, List.getElem?_eq_getElem hi2]; rfl
    rw [eg] at key
    obtain ⟨p3, zs, rfl, hp3, ha⟩ := dp_tup hv
    cases ha with
    | cons a1 t1 =>
      cases t1 with
      | cons a2 t2 =>
        cases t2
        rw [dp_int a1] at hp3
        refine R.gPairT (SqT.mono e5 hp3) ⟨rfl, ?_⟩
        refine row_pair (ns := ns) (a := L[i]) rfl rfl (Dp.mono e5 a2) fun p4 x hp4 _ hd4 => ?_
        exact key _ _ (same_upd hp4) (Dp.off (upd_get hp4 hy) (nl_rowE ns L[i]) hd4)
  intro D2 H6 xs2 hD2 e6 gD2 dD2
  rw [hxl, range_map (rowE ns) 0 L] at dD2
  have ex : ExtN H H6 := e1.trans (ExtN.ofSame (e4.trans e6))
  exact q D2 H6 xs2 L ex (TabsN.same T1 (e4.trans e6)) (ExtN.free (e1.trans (ExtN.ofSame e4)) hD2) gD2 (DpAll.mono but_same dD2) hL
end
end Rl
namespace Rl
open PySem PySem.Spec PyProof.Rows L2
/-! ## k07: turns of a run -/
noncomputable def iterM (ns : List Int) (steps : Int) : Nat → Mc × List Int → Mc × List Int
  | 0, s => s
  | i + 1, s => stepM ns steps (iterM ns steps i s)
/-- a run's i-th state -/
noncomputable def st (ns is : List Int) (steps : Int) (i : Nat) : Mc × List Int := iterM ns steps i (Mc.new is, [])
/-- how many turns a run has -/
structure Turns (ns is : List Int) (steps : Int) (j : Nat) : Prop where
  one : 1 ≤ j
  most : (j : Int) ≤ steps + 1
  run : runOf ns is steps = st ns is steps j
  on : ∀ i, i < j → (st ns is steps i).1.fin = none
  fin : (st ns is steps j).1.fin.isSome = true
  late : (j : Int) = steps + 1 ↔ (st ns is steps j).1.fin = some ("late" : Str)
end Rl
namespace Rl
open PySem PySem.Spec PyProof.Rows L2
/-! ## runs of the old machine: what grows -/
theorem act_pre (m : Mc) (op : Op) : m.outs <+: (m.act op).outs := by
  cases op with
  | back => simp only [Mc.act]; split <;> exact List.prefix_rfl
  | go k t => simp only [Mc.act]; split <;> exact List.prefix_rfl
  | call t => simp only [Mc.act]; split <;> exact List.prefix_rfl
  | keep r => simp only [Mc.act]; split <;> exact List.prefix_rfl
  | take r => simp only [Mc.act]; split <;> exact List.prefix_rfl
  | inn r => simp only [Mc.act]; split <;> exact List.prefix_rfl
  | out r => exact List.prefix_append _ _
  | _ => exact List.prefix_rfl
theorem step_pre (ns : List Int) (steps : Int) (s : Mc × List Int) : s.1.outs <+: (stepM ns steps s).1.outs ∧ (stepM ns steps s).2 = s.2 ++ [s.1.place] := by
  refine ⟨?_, step_came ns steps s⟩
  unfold stepM
  split
  · exact List.prefix_rfl
  · split
    · exact List.prefix_rfl
    · rename_i op n _
      exact act_pre { s.1 with place := s.1.place + n } op
theorem runN_pre (ns : List Int) (steps : Int) : ∀ (k : Nat) (s : Mc × List Int), s.1.outs <+: (runN ns steps k s).1.outs ∧ s.2 <+: (runN ns steps k s).2
  | 0, s => ⟨List.prefix_rfl, List.prefix_rfl⟩
  | k + 1, s => by
    cases h : s.1.fin.isSome with
    | true =>
      rw [runN_end h]
      exact ⟨List.prefix_rfl, List.prefix_rfl⟩
    | false =>
      rw [runN_go h]
      have i := runN_pre ns steps k (stepM ns steps s)
      have p := step_pre ns steps s
      exact ⟨p.1.trans i.1, (p.2 ▸ List.prefix_append s.2 [s.1.place] : s.2 <+: (stepM ns steps s).2).trans i.2⟩
/-- the address of a turn is one of the run's -/
theorem mem_came {ns : List Int} {steps : Int} {k : Nat} {s : Mc × List Int} : s.1.place ∈ (runN ns steps k (stepM ns steps s)).2 := by
  refine (runN_pre ns steps k (stepM ns steps s)).2.subset ?_
  rw [step_came]
  exact List.mem_append_right _ (List.mem_singleton.mpr rfl)
/-- a run by a code that has the same rows wherever this one has some -/
theorem run_alike {ns ms : List Int} {steps : Int} : ∀ (k : Nat) (s : Mc × List Int), (∀ c ∈ (runN ns steps k s).2, ∀ x, opAt ns c = some x → opAt ms c = some x) →
    runN ms steps k s = runN ns steps k s ∨ ((runN ns steps k s).1.fin = some "broken" ∧ (runN ns steps k s).2 <+: (runN ms steps k s).2 ∧ (runN ns steps k s).1.outs <+: (runN ms steps k s).1.outs)
  | 0, s, _ => .inl rfl
  | k + 1, s, h => by
    cases hf : s.1.fin.isSome with
    | true => exact .inl (by rw [runN_end hf, runN_end hf])
    | false =>
      rw [runN_go hf] at h ⊢
      rw [runN_go hf]
      by_cases hl : ((s.2 ++ [s.1.place]).length : Int) > steps
      · have e : stepM ms steps s = stepM ns steps s := by
          unfold stepM
          rw [if_pos hl, if_pos hl]
        rw [e]
        exact run_alike k _ h
      cases ho : opAt ns s.1.place with
      | some x =>
        have hm := h s.1.place mem_came x ho
        have e : stepM ms steps s = stepM ns steps s := by
          unfold stepM
          rw [if_neg hl, if_neg hl, ho, hm]
        rw [e]
        exact run_alike k _ h
      | none =>
        have e : stepM ns steps s = ({ s.1 with fin := some "broken" }, s.2 ++ [s.1.place]) := by
          unfold stepM
          rw [if_neg hl, ho]
        have p := runN_pre ms steps k (stepM ms steps s)
        have p2 := step_pre ms steps s
        rw [e, runN_end (s := ({ s.1 with fin := some "broken" }, s.2 ++ [s.1.place])) rfl]
        refine .inr ⟨rfl, ?_, p2.1.trans p.1⟩
        rw [p2.2] at p
        exact p.2
end Rl
namespace Rl
open PySem PySem.Spec PyProof.Rows L2
/-! ## runs: their ends, their results as data -/
abbrev ends : List Str := ["halt", "bare", "deep", "late", "broken"]
def FinOk (f : Option Str) : Prop := f = none ∨ ∃ s ∈ ends, f = some s
theorem act_fin {m : Mc} (op : Op) (h : FinOk m.fin) : FinOk (m.act op).fin := by
  cases op with
  | halt => exact .inr ⟨"halt", by decide, rfl⟩
  | back =>
    simp only [Mc.act]
    split
    · exact .inr ⟨"bare", by decide, rfl⟩
    · exact h
  | go k t => simp only [Mc.act]; split <;> exact h
  | call t =>
    simp only [Mc.act]
    split
    · exact .inr ⟨"deep", by decide, rfl⟩
    · exact h
  | keep r =>
    simp only [Mc.act]
    split
    · exact .inr ⟨"deep", by decide, rfl⟩
    · exact h
  | take r =>
    simp only [Mc.act]
    split
    · exact .inr ⟨"bare", by decide, rfl⟩
    · exact h
  | inn r => simp only [Mc.act]; split <;> exact h
  | _ => exact h
theorem step_fin {ns : List Int} {steps : Int} {s : Mc × List Int} (h : FinOk s.1.fin) : FinOk (stepM ns steps s).1.fin := by
  unfold stepM
  split
  · exact .inr ⟨"late", by decide, rfl⟩
  · split
    · exact .inr ⟨"broken", by decide, rfl⟩
    · exact act_fin _ h
theorem runN_fin {ns : List Int} {steps : Int} : ∀ (k : Nat) {s : Mc × List Int}, FinOk s.1.fin → FinOk (runN ns steps k s).1.fin
  | 0, _, h => h
  | k + 1, s, h => by
    cases hf : s.1.fin.isSome with
    | true =>
      rw [runN_end hf]
      exact h
    | false =>
      rw [runN_go hf]
      exact runN_fin k (step_fin h)
theorem run_fin (ns is : List Int) (steps : Int) : FinOk (runOf ns is steps).1.fin := runN_fin _ (.inl rfl)
theorem runN_len (ns : List Int) (steps : Int) : ∀ (k : Nat) (s : Mc × List Int), (runN ns steps k s).2.length ≤ s.2.length + k ∧ (runN ns steps k s).1.outs.length ≤ s.1.outs.length + k
  | 0, s => ⟨Nat.le_refl _, Nat.le_refl _⟩
  | k + 1, s => by
    cases hf : s.1.fin.isSome with
    | true =>
      rw [runN_end hf]
      exact ⟨Nat.le_add_right _ _, Nat.le_add_right _ _⟩
    | false =>
      rw [runN_go hf]
      have i := runN_len ns steps k (stepM ns steps s)
      have c : (stepM ns steps s).2.length = s.2.length + 1 := by
        rw [step_came, List.length_append]
        rfl
      have o : (stepM ns steps s).1.outs.length ≤ s.1.outs.length + 1 := by
        unfold stepM
        split
        · exact Nat.le_succ _
        · split
          · exact Nat.le_succ _
          · rename_i op n _
            exact act_outs { s.1 with place := s.1.place + n } op
      omega
theorem run_len (ns is : List Int) (steps : Int) : (runOf ns is steps).2.length ≤ steps.toNat + 2 ∧ (runOf ns is steps).1.outs.length ≤ steps.toNat + 2 := by
  have i := runN_len ns steps (steps.toNat + 2) (Mc.new is, [])
  have e : ((Mc.new is, ([] : List Int)) : Mc × List Int).2.length = 0 := rfl
  have e2 : ((Mc.new is, ([] : List Int)) : Mc × List Int).1.outs.length = 0 := rfl
  rw [e, e2, Nat.zero_add] at i
  exact i
def endD : Option Str → PyData
  | some s => .str s
  | none => .none
/-- what a run tells, as data -/
def resD (f : Option Str) (ns : List Int) : PyData := .tuple [endD f, .list (ns.map PyData.int)]
theorem res_shaped {f : Option Str} (hf : FinOk f) (ns : List Int) : SeqAt.shaped (resD f ns) = true := by
  have h1 : ∀ ns : List Int, PyData.canLayAll0 (ns.map PyData.int) = true := fun ns => by
    induction ns with
    | nil => simp only [List.map_nil, PyData.canLayAll0]
    | cons n r ih => simp only [List.map_cons, PyData.canLayAll0, PyData.canLay0, ih, Bool.and_self]
  have h2 : ∀ ns : List Int, PyData.depthAll (ns.map PyData.int) = 0 := fun ns => by
    induction ns with
    | nil => simp only [List.map_nil, PyData.depthAll]
    | cons n r ih => simp only [List.map_cons, PyData.depthAll, PyData.depth, ih]; rfl
  have h3 : PyData.canLay0 (endD f) = true ∧ PyData.depth (endD f) = 0 := by
    rcases hf with rfl | ⟨s, hs, rfl⟩
    · exact ⟨by simp only [endD, PyData.canLay0], by simp only [endD, PyData.depth]⟩
    · simp only [ends, List.mem_cons, List.not_mem_nil, or_false] at hs
      refine ⟨?_, by simp only [endD, PyData.depth]⟩
      simp only [endD, PyData.canLay0]
      rcases hs with rfl | rfl | rfl | rfl | rfl <;> decide +kernel
  unfold SeqAt.shaped resD
  simp only [PyData.canLay0, PyData.canLayAll0, PyData.depth, PyData.depthAll, h1, h2, h3.1, h3.2]
  rfl
theorem res_eqv (f : Option Str) (ns : List Int) : PyData.eqv (resD f ns) (resD f ns) = true := by
  unfold resD
  cases f with
  | none => simp only [PyData.eqv, PyData.eqvAll, endD, eqvAll_ints, Bool.and_self]
  | some s => simp [PyData.eqv, PyData.eqvAll, endD, eqvAll_ints]
section
variable {K : PySem.W.Frag} {H : Hp} {Q : VK}
theorem dp_end (f : Option Str) : Dp K H (endV f) (endD f) := by
  cases f with
  | none => exact .non
  | some s => exact .str s
theorem dp_res {p u : Addr} {f : Option Str} {ns : List Int} (h : H p = some (.tup [endV f, .ref u])) (g : H u = some (.lst (ns.map V.int))) : Dp K H (.ref p) (resD f ns) :=
  .tup (SqT.of h) (.cons (dp_end f) (.cons (SqL.ints (SqL.of g)) .nil))
/-- two runs' results that are alike -/
theorem R.neRes {p u p2 u2 : Addr} {f : Option Str} {ns : List Int} (hf : FinOk f) (h : H p = some (.tup [endV f, .ref u])) (g : H u = some (.lst (ns.map V.int))) (h2 : H p2 = some (.tup [endV f, .ref u2])) (g2 : H u2 = some (.lst (ns.map V.int))) (q : Q (.bl false) H) : rNeA K (.ref p) (.ref p2) H Q :=
  R.neD (dp_res h g) (dp_res h2 g2) (res_shaped hf ns) (res_shaped hf ns) (by rw [res_eqv]; exact q)
/-- two lists that are alike -/
theorem R.neSame {p u : Addr} {ns : List Int} (h : SqL K H p (ns.map V.int)) (g : SqL K H u (ns.map V.int)) (q : Q (.bl false) H) : rNeA K (.ref p) (.ref u) H Q :=
  R.neD (SqL.ints h) (SqL.ints g) (shaped_ints ns) (shaped_ints ns) (by rw [eqv_ints]; exact q)
theorem R.eqEnd {f : Option Str} {t : Str} (q : Q (.bl (decide (f = some t))) H) : rEqA K (endV f) (.str t) H Q := by
  cases f with
  | none =>
    refine .inl ⟨rfl, ?_⟩
    rw [show decide (endV none = V.str t) = decide ((none : Option Str) = some t) by rw [decide_eq_false (fun z => nomatch z), decide_eq_false (fun z => nomatch z)]]
    exact q
  | some s =>
    refine R.eqS ?_
    rw [show decide (s = t) = decide (some s = some t) by simp]
    exact q
end
end Rl
namespace Rl
open PySem PySem.Spec PyProof.Rows L2
/-! ## what a row keeps of the machine -/
theorem getD_by {l : List Int} (h : By l) (i : Nat) : 0 ≤ l.getD i 0 ∧ l.getD i 0 < 256 := by
  rw [List.getD_eq_getElem?_getD]
  cases e : l[i]? with
  | none => exact ⟨Int.le_refl _, (by decide)⟩
  | some x => exact h x (List.mem_of_getElem? e)
theorem act_ok {m : Mc} {op : Op} (h : m.Ok) (ho : op.Ok) : (m.act op).Ok := by
  cases op with
  | halt => exact h.fin _
  | rest => exact h
  | back =>
    simp only [Mc.act]
    split
    · exact h.fin _
    · exact ⟨h.bl, h.bb, h.cl, h.cb, h.kl, h.kb, (by show m.places.dropLast.length ≤ 16; rw [List.length_dropLast]; have := h.pl; omega), h.ab⟩
  | set r n => exact h.put ho.2.1 ho.2.2
  | copy r s => exact h.put (h.box ho.2).1 (h.box ho.2).2
  | sum a r s => exact (h.put (by omega) (by omega) : (m.put r _).Ok).mark _ _
  | bits k r s =>
    have lt := bits_lt k (h.box ho.1) (h.box ho.2)
    exact (h.put lt.1 lt.2 : (m.put r _).Ok).mark _ _
  | test r s => exact h.mark _ _
  | testn r n => exact h.mark _ _
  | load r s => exact h.put (getD_by h.cb _).1 (getD_by h.cb _).2
  | loadn r n => exact h.put (getD_by h.cb _).1 (getD_by h.cb _).2
  | store r s => exact h.cell (h.box ho.2).1 (h.box ho.2).2
  | storen r n => exact h.cell (h.box ho.1).1 (h.box ho.1).2
  | go k t =>
    simp only [Mc.act]
    split
    · exact h.at _
    · exact h
  | call t =>
    simp only [Mc.act]
    split
    · exact h.fin _
    · exact ⟨h.bl, h.bb, h.cl, h.cb, h.kl, h.kb, (by show (m.places ++ [m.place]).length ≤ 16; rw [List.length_append]; have := h.pl; show _ + 1 ≤ 16; omega), h.ab⟩
  | inn r =>
    simp only [Mc.act]
    split
    · exact h.put (by decide) (by decide)
    · have g : (m.put r (m.ahead.getD 0 0)).Ok := h.put (getD_by h.ab _).1 (getD_by h.ab _).2
      exact ⟨g.bl, g.bb, g.cl, g.cb, g.kl, g.kb, g.pl, fun n hn => h.ab n (List.mem_of_mem_drop hn)⟩
  | out r => exact ⟨h.bl, h.bb, h.cl, h.cb, h.kl, h.kb, h.pl, h.ab⟩
  | keep r =>
    simp only [Mc.act]
    split
    · exact h.fin _
    · exact ⟨h.bl, h.bb, h.cl, h.cb, (by show (m.kept ++ [m.box r]).length ≤ 16; rw [List.length_append]; have := h.kl; show _ + 1 ≤ 16; omega), fun n hn => (List.mem_append.mp hn).elim (h.kb n) (fun z => by rw [List.mem_singleton.mp z]; exact h.box ho), h.pl, h.ab⟩
  | take r =>
    simp only [Mc.act]
    split
    · exact h.fin _
    · have g : (m.put r (m.kept.getD (m.kept.length - 1) 0)).Ok := h.put (getD_by h.kb _).1 (getD_by h.kb _).2
      exact ⟨g.bl, g.bb, g.cl, g.cb, (by show m.kept.dropLast.length ≤ 16; rw [List.length_dropLast]; have := h.kl; omega), fun n hn => h.kb n (List.dropLast_subset _ hn), g.pl, g.ab⟩
theorem act_outsB {m : Mc} {op : Op} (h : m.Ok) (ho : op.Ok) (hb : By m.outs) : By (m.act op).outs := by
  cases op with
  | back => simp only [Mc.act]; split <;> exact hb
  | go k t => simp only [Mc.act]; split <;> exact hb
  | call t => simp only [Mc.act]; split <;> exact hb
  | keep r => simp only [Mc.act]; split <;> exact hb
  | take r => simp only [Mc.act]; split <;> exact hb
  | inn r => simp only [Mc.act]; split <;> exact hb
  | out r =>
    intro n hn
    rcases List.mem_append.mp hn with z | z
    · exact hb n z
    · rw [List.mem_singleton.mp z]
      exact h.box ho
  | _ => exact hb
theorem opAt_data {ns : List Int} {a n : Int} {op : Op} (hb : By ns) (h : opAt ns a = some (op, n)) : rowAt ns a = some (op.data, n) ∧ op.Ok := by
  cases e : rowAt ns a with
  | none =>
    rw [opAt_none e] at h
    cases h
  | some y =>
    obtain ⟨l, m⟩ := y
    obtain ⟨op2, h2, h3, h4⟩ := opAt_some hb e
    rw [h2] at h
    cases h
    exact ⟨by rw [h3], h4⟩
theorem step_late {ns : List Int} {steps : Int} {s : Mc × List Int} (h : steps < ((s.2 ++ [s.1.place]).length : Int)) : stepM ns steps s = ({ s.1 with fin := some "late" }, s.2 ++ [s.1.place]) := if_pos h
theorem step_broken {ns : List Int} {steps : Int} {s : Mc × List Int} (h : ¬ steps < ((s.2 ++ [s.1.place]).length : Int)) (o : opAt ns s.1.place = none) : stepM ns steps s = ({ s.1 with fin := some "broken" }, s.2 ++ [s.1.place]) := by
  unfold stepM
  rw [if_neg h, o]
theorem step_act {ns : List Int} {steps : Int} {s : Mc × List Int} {op : Op} {n : Int} (h : ¬ steps < ((s.2 ++ [s.1.place]).length : Int)) (o : opAt ns s.1.place = some (op, n)) : stepM ns steps s = (({ s.1 with place := s.1.place + n } : Mc).act op, s.2 ++ [s.1.place]) := by
  unfold stepM
  rw [if_neg h, o]
/-- a turn, told by what stands there -/
theorem step_cases (ns : List Int) (steps : Int) (s : Mc × List Int) : (steps < ((s.2 ++ [s.1.place]).length : Int) ∧ stepM ns steps s = ({ s.1 with fin := some "late" }, s.2 ++ [s.1.place])) ∨
    (¬ steps < ((s.2 ++ [s.1.place]).length : Int) ∧ ((opAt ns s.1.place = none ∧ stepM ns steps s = ({ s.1 with fin := some "broken" }, s.2 ++ [s.1.place])) ∨ ∃ op n, opAt ns s.1.place = some (op, n) ∧ stepM ns steps s = (({ s.1 with place := s.1.place + n } : Mc).act op, s.2 ++ [s.1.place]))) := by
  unfold stepM
  by_cases h : ((s.2 ++ [s.1.place]).length : Int) > steps
  · rw [if_pos h]
    exact .inl ⟨h, rfl⟩
  · rw [if_neg h]
    refine .inr ⟨h, ?_⟩
    cases e : opAt ns s.1.place with
    | none => exact .inl ⟨rfl, rfl⟩
    | some x => exact .inr ⟨x.1, x.2, rfl, rfl⟩
/-- what holds of a machine at any time of a run -/
theorem runN_ok {ns : List Int} {steps : Int} (hb : By ns) : ∀ (k : Nat) (s : Mc × List Int), s.1.Ok → By s.1.outs → (runN ns steps k s).1.Ok ∧ By (runN ns steps k s).1.outs
  | 0, _, h, h2 => ⟨h, h2⟩
  | k + 1, s, h, h2 => by
    cases hf : s.1.fin.isSome with
    | true =>
      rw [runN_end hf]
      exact ⟨h, h2⟩
    | false =>
      rw [runN_go hf]
      rcases step_cases ns steps s with ⟨_, e⟩ | ⟨_, ⟨_, e⟩ | ⟨op, n, ho, e⟩⟩
      · rw [e]
        exact runN_ok hb k _ (h.fin _) h2
      · rw [e]
        exact runN_ok hb k _ (h.fin _) h2
      · rw [e]
        exact runN_ok hb k _ (act_ok (h.at _) (opAt_data hb ho).2) (act_outsB (h.at _) (opAt_data hb ho).2 h2)
end Rl
namespace Rl
open PySem PySem.Spec PyProof.Rows L2
/-! ## a run, turn by turn -/
theorem iter_shift (ns : List Int) (steps : Int) (s : Mc × List Int) : ∀ i, iterM ns steps i (stepM ns steps s) = iterM ns steps (i + 1) s
  | 0 => rfl
  | i + 1 => by
    show stepM ns steps (iterM ns steps i (stepM ns steps s)) = stepM ns steps (iterM ns steps (i + 1) s)
    rw [iter_shift ns steps s i]
theorem runN_iter (ns : List Int) (steps : Int) : ∀ (k : Nat) (s : Mc × List Int), ∃ j, j ≤ k ∧ runN ns steps k s = iterM ns steps j s ∧ (∀ i, i < j → (iterM ns steps i s).1.fin = none) ∧ (j < k → (iterM ns steps j s).1.fin.isSome = true)
  | 0, s => ⟨0, Nat.le_refl _, rfl, fun i h => absurd h (Nat.not_lt_zero _), fun h => absurd h (Nat.lt_irrefl _)⟩
  | k + 1, s => by
    cases hf : s.1.fin.isSome with
    | true => exact ⟨0, Nat.zero_le _, runN_end hf _, fun i h => absurd h (Nat.not_lt_zero _), fun _ => hf⟩
    | false =>
      obtain ⟨j, h1, h2, h3, h4⟩ := runN_iter ns steps k (stepM ns steps s)
      refine ⟨j + 1, Nat.succ_le_succ h1, by rw [runN_go hf, h2, iter_shift], fun i hi => ?_, fun hj => by rw [← iter_shift]; exact h4 (Nat.lt_of_succ_lt_succ hj)⟩
      match i with
      | 0 =>
        show s.1.fin = none
        cases e : s.1.fin with
        | none => rfl
        | some f => rw [e] at hf; cases hf
      | i + 1 =>
        rw [← iter_shift]
        exact h3 i (Nat.lt_of_succ_lt_succ hi)
section
variable {ns is : List Int} {steps : Int}
theorem st_succ (i : Nat) : st ns is steps (i + 1) = stepM ns steps (st ns is steps i) := rfl
theorem st_came : ∀ j, (st ns is steps j).2 = (List.range j).map fun i => (st ns is steps i).1.place
  | 0 => rfl
  | j + 1 => by rw [st_succ, step_came, st_came j, List.range_succ, List.map_append]; rfl
theorem st_len (j : Nat) : (st ns is steps j).2.length = j := by rw [st_came, List.length_map, List.length_range]
theorem st_at {i j : Nat} (h : i < j) : (st ns is steps j).2[i]? = some (st ns is steps i).1.place := by
  rw [st_came, List.getElem?_map, List.getElem?_range h]
  rfl
theorem act_late {m : Mc} {op : Op} (h : m.fin = none) : (m.act op).fin ≠ some ("late" : Str) ∧ (m.act op).fin ≠ some ("broken" : Str) := by
  have nl : ∀ s : Str, s ≠ "late" → s ≠ "broken" → (some s : Option Str) ≠ some ("late" : Str) ∧ (some s : Option Str) ≠ some ("broken" : Str) := fun s h1 h2 => ⟨fun z => h1 (Option.some.inj z), fun z => h2 (Option.some.inj z)⟩
  have nn : m.fin ≠ some ("late" : Str) ∧ m.fin ≠ some ("broken" : Str) := by
    rw [h]
    exact ⟨fun z => (nomatch z), fun z => (nomatch z)⟩
  cases op with
  | halt => exact nl "halt" (by decide) (by decide)
  | back =>
    simp only [Mc.act]
    split
    · exact nl "bare" (by decide) (by decide)
    · exact nn
  | go k t => simp only [Mc.act]; split <;> exact nn
  | call t =>
    simp only [Mc.act]
    split
    · exact nl "deep" (by decide) (by decide)
    · exact nn
  | keep r =>
    simp only [Mc.act]
    split
    · exact nl "deep" (by decide) (by decide)
    · exact nn
  | take r =>
    simp only [Mc.act]
    split
    · exact nl "bare" (by decide) (by decide)
    · exact nn
  | inn r => simp only [Mc.act]; split <;> exact nn
  | _ => exact nn
theorem st_late {i : Nat} (h : steps < (i : Int) + 1) : st ns is steps (i + 1) = ({ (st ns is steps i).1 with fin := some "late" }, (st ns is steps i).2 ++ [(st ns is steps i).1.place]) := by
  rw [st_succ]
  refine step_late ?_
  rw [List.length_append, st_len]
  exact h
theorem turns_of (h0 : 0 ≤ steps) : ∃ j, Turns ns is steps j := by
  obtain ⟨j, h1, h2, h3, h4⟩ := runN_iter ns steps (steps.toNat + 2) (Mc.new is, [])
  have lt : j < steps.toNat + 2 := by
    rcases Nat.lt_or_ge j (steps.toNat + 2) with z | z
    · exact z
    · have e := h3 (steps.toNat + 1) (by omega)
      have e2 : (iterM ns steps (steps.toNat + 1) (Mc.new is, [])).1.fin = some ("late" : Str) := by
        have := st_late (ns := ns) (is := is) (steps := steps) (i := steps.toNat) (by omega)
        show (st ns is steps (steps.toNat + 1)).1.fin = _
        rw [this]
      rw [e2] at e
      cases e
  have one : 1 ≤ j := by
    rcases Nat.eq_zero_or_pos j with z | z
    · have f := h4 lt
      rw [z] at f
      cases f
    · exact z
  refine ⟨j, one, by omega, h2, h3, h4 lt, ?_⟩
  obtain ⟨i, rfl⟩ : ∃ i, j = i + 1 := ⟨j - 1, by omega⟩
  have hi := h3 i (Nat.lt_succ_self _)
  constructor
  · intro e
    rw [st_late (by omega)]
  · intro e
    rw [st_succ] at e
    rcases step_cases ns steps (st ns is steps i) with ⟨a, _⟩ | ⟨a, ⟨b, c⟩ | ⟨op, n, b, c⟩⟩
    · rw [List.length_append, st_len] at a
      have : steps < ((i + 1 : Nat) : Int) := a
      omega
    · rw [c] at e
      exact absurd (Option.some.inj e) (by decide)
    · rw [c] at e
      exact absurd e (act_late (m := { (st ns is steps i).1 with place := (st ns is steps i).1.place + n }) hi).1
/-- a turn that another one follows -/
theorem st_on {j i : Nat} (T : Turns ns is steps j) (h : i + 1 < j) : ∃ op n, opAt ns (st ns is steps i).1.place = some (op, n) ∧ st ns is steps (i + 1) = (({ (st ns is steps i).1 with place := (st ns is steps i).1.place + n } : Mc).act op, (st ns is steps i).2 ++ [(st ns is steps i).1.place]) := by
  have f := T.on (i + 1) h
  rw [st_succ] at f
  rcases step_cases ns steps (st ns is steps i) with ⟨_, c⟩ | ⟨_, ⟨_, c⟩ | ⟨op, n, b, c⟩⟩
  · rw [c] at f
    cases f
  · rw [c] at f
    cases f
  · exact ⟨op, n, b, c⟩
theorem st_ok (hb : By ns) (hi : By is) : ∀ i, (st ns is steps i).1.Ok
  | 0 => Mc.Ok.new hi
  | i + 1 => by
    rw [st_succ]
    have ih := st_ok hb hi i
    rcases step_cases ns steps (st ns is steps i) with ⟨_, c⟩ | ⟨_, ⟨_, c⟩ | ⟨op, n, b, c⟩⟩
    · rw [c]
      exact ih.fin _
    · rw [c]
      exact ih.fin _
    · rw [c]
      exact act_ok (ih.at _) (opAt_data hb b).2
end
end Rl
namespace Rl
open PySem PySem.Spec PyProof.Rows L2
/-! ## k07: runs cut anywhere -/
/-- where a row may go on, by what stands there, what is behind, the places kept -/
def goalsP (op : Op) (nx : Int) (pl : List Int) : List Int := match op with
  | .go k t => if k = 0 then [t] else [nx, t]
  | .call t => [t]
  | .back => if pl = [] then [] else [pl.getD (pl.length - 1) 0]
  | _ => [nx]
def placesP (op : Op) (nx : Int) (pl : List Int) : List Int := match op with
  | .call _ => pl ++ [nx]
  | .back => pl.dropLast
  | _ => pl
theorem goes_right {m : Mc} {op : Op} {nx : Int} (h : m.fin = none) (hf : (({ m with place := nx } : Mc).act op).fin = none) :
    (({ m with place := nx } : Mc).act op).place ∈ goalsP op nx m.places ∧ (({ m with place := nx } : Mc).act op).places = placesP op nx m.places ∧ op.word ≠ "halt" := by
  have ne : ∀ a b : Str, a ≠ b → a ≠ b := fun _ _ z => z
  cases op with
  | halt => cases hf
  | back =>
    by_cases z : m.places = []
    · have e : (({ m with place := nx } : Mc).act .back) = { m with place := nx, fin := some "bare" } := if_pos z
      rw [e] at hf
      cases hf
    · have e : (({ m with place := nx } : Mc).act .back) = { m with place := m.places.getD (m.places.length - 1) 0, places := m.places.dropLast } := if_neg z
      rw [e]
      refine ⟨?_, rfl, by decide⟩
      show _ ∈ (if m.places = [] then [] else [m.places.getD (m.places.length - 1) 0])
      rw [if_neg z]
      exact List.mem_singleton.mpr rfl
  | go k t =>
    refine ⟨?_, ?_, ?_⟩
    · show (if goB ({ m with place := nx } : Mc) k then ({ m with place := t } : Mc) else ({ m with place := nx } : Mc)).place ∈ (if k = 0 then [t] else [nx, t])
      by_cases z : k = 0
      · subst z
        rw [if_pos rfl]
        exact List.mem_singleton.mpr rfl
      · rw [if_neg z]
        split
        · exact List.mem_cons_of_mem _ (List.mem_singleton.mpr rfl)
        · exact List.mem_cons_self
    · show (if goB ({ m with place := nx } : Mc) k then ({ m with place := t } : Mc) else ({ m with place := nx } : Mc)).places = m.places
      split <;> rfl
    · match k with
      | 0 => exact ne "go" "halt" (by decide)
      | 1 => exact ne "zero" "halt" (by decide)
      | 2 => exact ne "nonzero" "halt" (by decide)
      | 3 => exact ne "less" "halt" (by decide)
      | 4 => exact ne "notless" "halt" (by decide)
  | call t =>
    by_cases z : m.places.length = 16
    · have e : (({ m with place := nx } : Mc).act (.call t)) = { m with place := nx, fin := some "deep" } := if_pos z
      rw [e] at hf
      cases hf
    · have e : (({ m with place := nx } : Mc).act (.call t)) = { m with places := m.places ++ [nx], place := t } := if_neg z
      rw [e]
      exact ⟨List.mem_singleton.mpr rfl, rfl, ne "call" "halt" (by decide)⟩
  | keep r =>
    refine ⟨?_, ?_, ne "keep" "halt" (by decide)⟩
    · simp only [Mc.act]; split <;> exact List.mem_singleton.mpr rfl
    · simp only [Mc.act]; split <;> rfl
  | take r =>
    refine ⟨?_, ?_, ne "take" "halt" (by decide)⟩
    · simp only [Mc.act]; split <;> exact List.mem_singleton.mpr rfl
    · simp only [Mc.act]; split <;> rfl
  | inn r =>
    refine ⟨?_, ?_, ne "in" "halt" (by decide)⟩
    · simp only [Mc.act]; split <;> exact List.mem_singleton.mpr rfl
    · simp only [Mc.act]; split <;> rfl
  | sum a r s =>
    refine ⟨List.mem_singleton.mpr rfl, rfl, ?_⟩
    cases a with
    | true => exact ne "add" "halt" (by decide)
    | false => exact ne "sub" "halt" (by decide)
  | bits k r s =>
    refine ⟨List.mem_singleton.mpr rfl, rfl, ?_⟩
    match k with
    | 0 => exact ne "and" "halt" (by decide)
    | 1 => exact ne "or" "halt" (by decide)
    | 2 => exact ne "xor" "halt" (by decide)
  | _ => exact ⟨List.mem_singleton.mpr rfl, rfl, by simp only [Op.word]; decide⟩
/-- how a row may end a run -/
def endsP : List (Str × List Str) := [("halt", ["halt"]), ("deep", ["call", "keep"]), ("bare", ["back", "take"])]
theorem end_right {m : Mc} {op : Op} (h : m.fin = none) {f : Str} (hf : (m.act op).fin = some f) : ∃ ws, endsP.lookup f = some ws ∧ op.word ∈ ws := by
  have no : m.fin ≠ some f := by
    rw [h]
    exact fun z => nomatch z
  have hit : ∀ (g : Str) (ws : List Str) (wd : Str), (some g : Option Str) = some f → endsP.lookup g = some ws → wd ∈ ws → ∃ ws, endsP.lookup f = some ws ∧ wd ∈ ws := fun g ws wd e l w => by
    cases e
    exact ⟨ws, l, w⟩
  cases op with
  | halt => exact hit "halt" ["halt"] "halt" hf (by decide +kernel) (by decide)
  | back =>
    by_cases z : m.places = []
    · have e : m.act .back = { m with fin := some "bare" } := if_pos z
      rw [e] at hf
      exact hit "bare" ["back", "take"] "back" hf (by decide +kernel) (by decide)
    · have e : m.act .back = { m with place := m.places.getD (m.places.length - 1) 0, places := m.places.dropLast } := if_neg z
      rw [e] at hf
      exact absurd hf no
  | call t =>
    by_cases z : m.places.length = 16
    · have e : m.act (.call t) = { m with fin := some "deep" } := if_pos z
      rw [e] at hf
      exact hit "deep" ["call", "keep"] "call" hf (by decide +kernel) (by decide)
    · have e : m.act (.call t) = { m with places := m.places ++ [m.place], place := t } := if_neg z
      rw [e] at hf
      exact absurd hf no
  | keep r =>
    by_cases z : m.kept.length = 16
    · have e : m.act (.keep r) = { m with fin := some "deep" } := if_pos z
      rw [e] at hf
      exact hit "deep" ["call", "keep"] "keep" hf (by decide +kernel) (by decide)
    · have e : m.act (.keep r) = { m with kept := m.kept ++ [m.box r] } := if_neg z
      rw [e] at hf
      exact absurd hf no
  | take r =>
    by_cases z : m.kept = []
    · have e : m.act (.take r) = { m with fin := some "bare" } := if_pos z
      rw [e] at hf
      exact hit "bare" ["back", "take"] "take" hf (by decide +kernel) (by decide)
    · have e : m.act (.take r) = { m.put r (m.kept.getD (m.kept.length - 1) 0) with kept := m.kept.dropLast } := if_neg z
      rw [e] at hf
      exact absurd hf no
  | go k t =>
    have e : (m.act (.go k t)).fin = m.fin := by simp only [Mc.act]; split <;> rfl
    rw [e] at hf
    exact absurd hf no
  | inn r =>
    have e : (m.act (.inn r)).fin = m.fin := by simp only [Mc.act]; split <;> rfl
    rw [e] at hf
    exact absurd hf no
  | _ => exact absurd hf no
section
variable {ns is : List Int}
/-- the last turn, not late -/
theorem last_turn {steps : Int} {j : Nat} (T : Turns ns is steps (j + 1)) : (st ns is steps (j + 1)).1.fin = some ("late" : Str) ∨ ((opAt ns (st ns is steps j).1.place = none) ∧ (st ns is steps (j + 1)).1.fin = some ("broken" : Str)) ∨
    ∃ op n f ws, opAt ns (st ns is steps j).1.place = some (op, n) ∧ (st ns is steps (j + 1)).1.fin = some f ∧ endsP.lookup f = some ws ∧ op.word ∈ ws ∧ f ≠ "late" := by
  have hf := T.fin
  have hn := T.on j (Nat.lt_succ_self _)
  rw [st_succ] at hf ⊢
  rcases step_cases ns steps (st ns is steps j) with ⟨_, c⟩ | ⟨_, ⟨b, c⟩ | ⟨op, n, b, c⟩⟩
  · exact .inl (by rw [c])
  · exact .inr (.inl ⟨b, by rw [c]⟩)
  · rw [c] at hf ⊢
    cases e : (({ (st ns is steps j).1 with place := (st ns is steps j).1.place + n } : Mc).act op).fin with
    | none =>
      have hf2 : (({ (st ns is steps j).1 with place := (st ns is steps j).1.place + n } : Mc).act op).fin.isSome = true := hf
      rw [e] at hf2
      cases hf2
    | some f =>
      obtain ⟨ws, h1, h2⟩ := end_right (m := { (st ns is steps j).1 with place := (st ns is steps j).1.place + n }) hn e
      refine .inr (.inr ⟨op, n, f, ws, b, rfl, h1, h2, fun z => ?_⟩)
      rw [z] at e
      exact (act_late (m := { (st ns is steps j).1 with place := (st ns is steps j).1.place + n }) (op := op) hn).1 e
/-- turns are alike as long as none is late -/
theorem st_alike {a b : Int} : ∀ i : Nat, (i : Int) ≤ a → (i : Int) ≤ b → st ns is a i = st ns is b i
  | 0, _, _ => rfl
  | i + 1, ha, hb => by
    have ih := st_alike (a := a) (b := b) i (by omega) (by omega)
    rw [st_succ, st_succ, ih]
    have n1 : ¬ a < (((st ns is b i).2 ++ [(st ns is b i).1.place]).length : Int) := by
      rw [List.length_append, st_len]
      show ¬ a < ((i + 1 : Nat) : Int)
      omega
    have n2 : ¬ b < (((st ns is b i).2 ++ [(st ns is b i).1.place]).length : Int) := by
      rw [List.length_append, st_len]
      show ¬ b < ((i + 1 : Nat) : Int)
      omega
    cases o : opAt ns (st ns is b i).1.place with
    | none => rw [step_broken n1 o, step_broken n2 o]
    | some x => rw [step_act n1 (op := x.1) (n := x.2) o, step_act n2 (op := x.1) (n := x.2) o]
theorem st_outs {steps : Int} : ∀ {i j : Nat}, i ≤ j → (st ns is steps i).1.outs <+: (st ns is steps j).1.outs := by
  intro i j h
  induction h with
  | refl => exact List.prefix_rfl
  | step _ ih => exact ih.trans (step_pre ns steps _).1
/-- fewer steps -/
theorem cut_right {far : Int} {j : Nat} (T : Turns ns is 150 j) (h0 : 0 ≤ far) (h1 : far ≤ 150) : (runOf ns is far).2 = (st ns is 150 j).2.take (far + 1).toNat ∧ (runOf ns is far).1.outs <+: (st ns is 150 j).1.outs ∧
    (((runOf ns is far).1.fin = (st ns is 150 j).1.fin ∧ (runOf ns is far).1.outs = (st ns is 150 j).1.outs ∧ (j : Int) ≤ far) ∨ ((runOf ns is far).1.fin = some ("late" : Str) ∧ far < j)) := by
  obtain ⟨i, U⟩ := turns_of (ns := ns) (is := is) h0
  by_cases hj : (j : Int) ≤ far
  · -- the whole run
    have e : st ns is far j = st ns is 150 j := st_alike j hj (by omega)
    have ij : i = j := by
      rcases Nat.lt_trichotomy i j with z | z | z
      · have f := U.fin
        rw [st_alike (ns := ns) (is := is) (a := far) (b := 150) i (by omega) (by omega)] at f
        rw [T.on i z] at f
        cases f
      · exact z
      · have f := U.on j z
        rw [e] at f
        have g := T.fin
        rw [f] at g
        cases g
    subst ij
    rw [U.run, e]
    refine ⟨(List.take_of_length_le (by rw [st_len]; omega)).symm, List.prefix_rfl, .inl ⟨rfl, rfl, hj⟩⟩
  · -- cut
    obtain ⟨k, rfl⟩ : ∃ k : Nat, far = (k : Int) := ⟨far.toNat, by omega⟩
    have kj : k < j := by omega
    have e : st ns is (k : Int) k = st ns is 150 k := st_alike k (by omega) (by omega)
    have ik : i = k + 1 := by
      rcases Nat.lt_trichotomy i (k + 1) with z | z | z
      · have f := U.fin
        rw [st_alike (ns := ns) (is := is) (a := (k : Int)) (b := 150) i (by omega) (by omega)] at f
        rw [T.on i (by omega)] at f
        cases f
      · exact z
      · have := U.most
        omega
    subst ik
    have l : st ns is (k : Int) (k + 1) = ({ (st ns is 150 k).1 with fin := some "late" }, (st ns is 150 k).2 ++ [(st ns is 150 k).1.place]) := by
      rw [st_late (by omega), e]
    rw [U.run, l]
    refine ⟨?_, st_outs (Nat.le_of_lt kj), .inr ⟨rfl, by omega⟩⟩
    show (st ns is 150 k).2 ++ [(st ns is 150 k).1.place] = _
    rw [show ((k : Int) + 1).toNat = k + 1 by omega, st_came k, st_came j, ← List.map_take, List.take_range, Nat.min_eq_left (by omega), List.range_succ, List.map_append]
    rfl
end
end Rl
namespace Rl
open PySem PySem.Spec PyProof.Rows L2
section
variable {K : PySem.W.Frag} {w : World}
abbrev restW : List Str := ["halt", "rest", "set", "copy", "add", "sub", "and", "or", "xor", "test", "testn", "load", "loadn", "store", "storen", "in", "out", "keep", "take"]
/-- rows by how they go on -/
theorem op_view (op : Op) : (∃ t, op = .go 0 t) ∨ (∃ k t, op = .go k t ∧ k ≠ 0 ∧ goW k ∈ (["zero", "nonzero", "less", "notless"] : List Str)) ∨ (∃ t, op = .call t) ∨ op = .back ∨
    ((op.word ≠ "go" ∧ op.word ∉ (["zero", "nonzero", "less", "notless"] : List Str) ∧ op.word ≠ "call" ∧ op.word ≠ "back") ∧ ∀ nx pl, goalsP op nx pl = [nx] ∧ placesP op nx pl = pl) := by
  have oth : ∀ wd : Str, wd ∈ restW → wd ≠ "go" ∧ wd ∉ (["zero", "nonzero", "less", "notless"] : List Str) ∧ wd ≠ "call" ∧ wd ≠ "back" := by decide
  cases op with
  | back => exact .inr (.inr (.inr (.inl rfl)))
  | call t => exact .inr (.inr (.inl ⟨t, rfl⟩))
  | go k t =>
    match k with
    | 0 => exact .inl ⟨t, rfl⟩
    | 1 => exact .inr (.inl ⟨1, t, rfl, by decide, by decide⟩)
    | 2 => exact .inr (.inl ⟨2, t, rfl, by decide, by decide⟩)
    | 3 => exact .inr (.inl ⟨3, t, rfl, by decide, by decide⟩)
    | 4 => exact .inr (.inl ⟨4, t, rfl, by decide, by decide⟩)
  | sum a r s =>
    refine .inr (.inr (.inr (.inr ⟨oth _ ?_, fun _ _ => ⟨rfl, rfl⟩⟩)))
    cases a with
    | true => exact (by decide : ("add" : Str) ∈ restW)
    | false => exact (by decide : ("sub" : Str) ∈ restW)
  | bits k r s =>
    refine .inr (.inr (.inr (.inr ⟨oth _ ?_, fun _ _ => ⟨rfl, rfl⟩⟩)))
    match k with
    | 0 => exact (by decide : ("and" : Str) ∈ restW)
    | 1 => exact (by decide : ("or" : Str) ∈ restW)
    | 2 => exact (by decide : ("xor" : Str) ∈ restW)
  | _ => exact .inr (.inr (.inr (.inr ⟨oth _ (by simp only [Op.word]; decide), fun _ _ => ⟨rfl, rfl⟩⟩)))
end
end Rl
namespace Rl
open PySem PySem.Spec PyProof.Rows L2 NdefX LamX
/-! ## k22: a run stands in found rows, in the part of its entry -/
section
variable {ns F : List Int} {pl : List Int} {p e n t g : Int} {oc : List (Int × Int)} {op : Op}
theorem word_of (op : Op) : wordOf op.data = op.word := by
  obtain ⟨⟨ds, h⟩, _⟩ := op_data op
  rw [h]
  rfl
theorem behind_op (hb : By ns) (h : opAt ns p = some (op, n)) : behind ns p = if op.word ∈ endsT then none else some (p + n) := by
  unfold behind
  rw [(opAt_data hb h).1]
  show (if wordOf op.data ∈ endsT then none else some (p + n)) = _
  rw [word_of]
theorem tgt_op (hb : By ns) (h : opAt ns p = some (op, n)) : tgt ns p = if op.word ∈ tgtT then some (numOf op.data) else none := by
  unfold tgt
  rw [(opAt_data hb h).1]
  show (if wordOf op.data ∈ tgtT then some (numOf op.data) else none) = _
  rw [word_of]
theorem call_op (hb : By ns) (h : opAt ns p = some (op, n)) : isCall ns p = decide (op.word = "call") := by
  unfold isCall
  rw [(opAt_data hb h).1]
  show decide (wordOf op.data = "call") = _
  rw [word_of]
/-- a run at a place: what was kept, the entry, the open calls -/
structure AtR (ns F : List Int) (pl : List Int) (p e : Int) (oc : List (Int × Int)) : Prop where
  pls : pl = oc.map Prod.snd
  fnd : p ∈ F
  ent : Entr ns F e
  prt : Rch (NxG ns) e p
  all : ∀ q ∈ oc, Entr ns F q.1 ∧ Rch (NxG ns) q.1 q.2 ∧ q.2 ∈ F
theorem nxG_A {a k : Int} (h : NxG ns a k) : NxA ns a k := h.imp id fun z => z.2
theorem Fnd.on {a k : Int} (hF : Fnd ns F) (h : a ∈ F) (x : NxA ns a k) : k ∈ F := (hF.2 k).mpr (((hF.2 a).mp h).on x)
theorem AtR.next (hF : Fnd ns F) (A : AtR ns F pl p e oc) (h : NxG ns p g) : AtR ns F pl g e oc := ⟨A.pls, hF.on A.fnd (nxG_A h), A.ent, A.prt.on h, A.all⟩
theorem AtR.call (hb : By ns) (hF : Fnd ns F) (A : AtR ns F pl p e oc) (ho : opAt ns p = some (.call t, n)) : AtR ns F (pl ++ [p + n]) t t (oc ++ [(e, p + n)]) := by
  have hbe : behind ns p = some (p + n) := by
    rw [behind_op hb ho, if_neg (show (Op.call t).word ∉ endsT from (by decide : ("call" : Str) ∉ endsT))]
  have ht : tgt ns p = some t := by
    rw [tgt_op hb ho, if_pos (show (Op.call t).word ∈ tgtT from (by decide : ("call" : Str) ∈ tgtT))]
    rfl
  have hc : isCall ns p = true := by
    rw [call_op hb ho]
    rfl
  refine ⟨by rw [A.pls, List.map_append]; rfl, hF.on A.fnd (.inr ht), .inr ⟨p, A.fnd, hc, ht⟩, .here, fun q hq => ?_⟩
  rcases List.mem_append.mp hq with hq | hq
  · exact A.all q hq
  · rw [List.mem_singleton.mp hq]
    exact ⟨A.ent, A.prt.on (.inl hbe), hF.on A.fnd (.inl hbe)⟩
theorem AtR.back (A : AtR ns F pl p e oc) (hne : pl ≠ []) : ∃ oc' e' r, oc = oc' ++ [(e', r)] ∧ pl.getD (pl.length - 1) 0 = r ∧ AtR ns F pl.dropLast r e' oc' := by
  rcases List.eq_nil_or_concat oc with h | ⟨oc', q, h⟩
  · have := A.pls
    rw [h] at this
    exact absurd this hne
  · obtain ⟨e', r⟩ := q
    rw [List.concat_eq_append] at h
    have hpl : pl = oc'.map Prod.snd ++ [r] := by
      rw [A.pls, h, List.map_append]
      rfl
    have hq := A.all (e', r) (by rw [h]; exact List.mem_append_right _ (List.mem_singleton.mpr rfl))
    refine ⟨oc', e', r, h, ?_, ?_, hq.2.2, hq.1, hq.2.1, fun x hx => A.all x (by rw [h]; exact List.mem_append_left _ hx)⟩
    · rw [hpl, List.length_append, List.length_singleton, Nat.add_sub_cancel, List.getD_eq_getElem?_getD, List.getElem?_append_right (Nat.le_refl _), Nat.sub_self]
      rfl
    · rw [hpl, List.dropLast_concat]
/-- a row that is no call, no back goes on within its part -/
theorem nx_other (hb : By ns) (ho : opAt ns p = some (op, n)) (hc : op.word ≠ "call") (hk : op.word ≠ "back") (hh : op.word ≠ "halt") (hg : g ∈ goalsP op (p + n) pl) : NxG ns p g ∧ placesP op (p + n) pl = pl := by
  have ic : isCall ns p = false := by
    rw [call_op hb ho, decide_eq_false hc]
  have iff3 : ∀ k : Str, k ∈ endsT → k = "halt" ∨ k = "back" ∨ k = "go" := fun k h => by
    simp only [endsT, List.mem_cons, List.not_mem_nil, or_false] at h
    exact h
  rcases op_view op with ⟨t, rfl⟩ | ⟨k, t, rfl, hk0, hw⟩ | ⟨t, rfl⟩ | rfl | ⟨⟨n1, n2, n3, n4⟩, hgo⟩
  · refine ⟨.inr ⟨ic, ?_⟩, rfl⟩
    rw [tgt_op hb ho, if_pos (show (Op.go 0 t).word ∈ tgtT from (by decide : ("go" : Str) ∈ tgtT))]
    have : g ∈ [t] := hg
    rw [List.mem_singleton.mp this]
    rfl
  · have he : (Op.go k t).word ∉ endsT := fun z => by
      have hw' : ∀ wd ∈ (["zero", "nonzero", "less", "notless"] : List Str), wd ∉ endsT := by decide
      exact hw' _ hw z
    have ht : (Op.go k t).word ∈ tgtT := by
      have hw' : ∀ wd ∈ (["zero", "nonzero", "less", "notless"] : List Str), wd ∈ tgtT := by decide
      exact hw' _ hw
    have hg' : g ∈ [p + n, t] := by
      have e : goalsP (.go k t) (p + n) pl = [p + n, t] := if_neg hk0
      rw [e] at hg
      exact hg
    refine ⟨?_, rfl⟩
    rcases List.mem_cons.mp hg' with rfl | hg'
    · refine .inl ?_
      rw [behind_op hb ho, if_neg he]
    · rw [List.mem_singleton.mp hg']
      refine .inr ⟨ic, ?_⟩
      rw [tgt_op hb ho, if_pos ht]
      rfl
  · exact absurd rfl hc
  · exact absurd rfl hk
  · obtain ⟨e1, e2⟩ := hgo (p + n) pl
    refine ⟨.inl ?_, e2⟩
    rw [e1] at hg
    rw [behind_op hb ho, if_neg (fun z => (iff3 _ z).elim hh fun z => z.elim n4 n1), List.mem_singleton.mp hg]
end
end Rl
namespace Rl
open PySem PySem.Spec PyProof.Rows L2 NdefX LamX
/-! ## k22: its own promise; dicts made of told pairs -/
def sp_law_right (K : PySem.W.Frag) (_ : World) : Sp := fun vs H Q _ => ∃ (c d : V) (ns is : List Int), vs = [c, d] ∧ Code K H c ns ∧ Code K H d is ∧ By ns ∧ By is ∧ ns.length ≤ 250 ∧ is.length ≤ 1000 ∧ TabsN (NT K) H ∧
  ∀ H', ExtN H H' → TabsN (NT K) H' → Q (.bl true) H'
theorem len_law_right {K : PySem.W.Frag} {w : World} {vs : List V} {H : Hp} {Q : VK} {E : XK} (h : sp_law_right K w vs H Q E) : vs.length = 2 := by
  obtain ⟨_, _, _, _, rfl, _⟩ := h
  rfl
section
variable {κ : Type} [DecidableEq κ]
theorem merge_none : ∀ {r acc : List (Key × V)} {k : Key}, k ∉ r.map Prod.fst → valV (mergeK acc r) k = valV acc k
  | [], _, _, _ => rfl
  | p :: r, acc, k, h => by
    rw [List.map_cons, List.mem_cons, not_or] at h
    show valV (mergeK (putK acc p.1 p.2) r) k = _
    rw [merge_none h.2, valV_put, if_neg h.1]
theorem merge_some : ∀ {r acc : List (Key × V)} {k : Key} {v : V}, (r.map Prod.fst).Nodup → valV r k = some v → valV (mergeK acc r) k = some v
  | [], _, _, _, _, h => by
    rw [valV_nil] at h
    cases h
  | p :: r, acc, k, v, hn, h => by
    rw [List.map_cons, List.nodup_cons] at hn
    show valV (mergeK (putK acc p.1 p.2) r) k = _
    by_cases e : p.1 = k
    · rw [valV_pos e] at h
      subst e
      rw [merge_none hn.1, valV_put, if_pos rfl, h]
    · rw [valV_neg e] at h
      exact merge_some hn.2 h
end
/-- a dict that has what R tells for some numbers -/
def DHas (H : Hp) (d : Addr) (es : List Int) (R : Int → V → Prop) : Prop := ∃ kvs, H d = some (.dK kvs) ∧ ∀ e ∈ es, ∃ v, valV kvs (Sum.inl e) = some v ∧ R e v
section
variable {K : PySem.W.Frag} {H H' : Hp} {Q : VK}
theorem pairs_gen {R : Int → V → Prop} : ∀ {es : List Int} {xs : List V}, xs.length = es.length → (∀ (j : Nat) (x : V) (e : Int), xs[j]? = some x → es[j]? = some e → ∃ q v, x = .ref q ∧ SqT K H q [.int e, v] ∧ R e v) →
    ∃ (ps : List Addr) (kvs : List (Key × V)), xs = ps.map V.ref ∧ Paired (fun p kv => SqT K H p [kV kv.1, kv.2]) ps kvs ∧ kvs.map Prod.fst = es.map Sum.inl ∧ ∀ e ∈ es, ∃ v, valV kvs (Sum.inl e) = some v ∧ R e v
  | [], [], _, _ => ⟨[], [], rfl, .nil, rfl, fun _ h => nomatch h⟩
  | [], _ :: _, h, _ => by simp at h
  | _ :: _, [], h, _ => by simp at h
  | e :: es, x :: xs, h, f => by
    obtain ⟨q, v, rfl, hq, hR⟩ := f 0 x e rfl rfl
    obtain ⟨ps, kvs, rfl, hp, hk, hv⟩ := pairs_gen (es := es) (xs := xs) (by simpa using h) fun j y d h1 h2 => f (j + 1) y d (by simpa using h1) (by simpa using h2)
    refine ⟨q :: ps, (Sum.inl e, v) :: kvs, rfl, .cons hq hp, by rw [List.map_cons, List.map_cons, hk], fun a ha => ?_⟩
    by_cases z : e = a
    · subst z
      exact ⟨v, valV_pos rfl, hR⟩
    · rcases List.mem_cons.mp ha with y | ha
      · exact absurd y.symm z
      · obtain ⟨u, hu, r⟩ := hv a ha
        refine ⟨u, ?_, r⟩
        rw [valV_neg (fun y => z (Sum.inl.inj y))]
        exact hu
/-- dict(pairs), no two keys alike -/
theorem R.dictP {a : Addr} {xs : List V} {es : List Int} {R : Int → V → Prop} (h : SqL K H a xs) (hl : xs.length = es.length) (hn : es.Pairwise (· < ·)) (f : ∀ (j : Nat) (x : V) (e : Int), xs[j]? = some x → es[j]? = some e → ∃ q v, x = .ref q ∧ SqT K H q [.int e, v] ∧ R e v)
    (q : ∀ d H', H d = none → Same H H' → DHas H' d es R → Q (.ref d) H') : rDictP K [.ref a] H Q := by
  obtain ⟨ps, kvs, rfl, hp, hk, hv⟩ := pairs_gen hl f
  refine ⟨a, ps, kvs, rfl, h, hp, fun d hd => q d _ hd (same_upd hd) ⟨_, upd_same, fun e he => ?_⟩⟩
  obtain ⟨v, hv, r⟩ := hv e he
  refine ⟨v, merge_some ?_ hv, r⟩
  rw [hk]
  refine (List.nodup_iff_pairwise_ne.mpr ?_)
  rw [List.pairwise_map]
  exact hn.imp fun z y => by
    have := Sum.inl.inj y
    omega
theorem DHas.mono {d : Addr} {es : List Int} {R R' : Int → V → Prop} (h : DHas H d es R) (e : ∀ kvs, H d = some (.dK kvs) → H' d = some (.dK kvs)) (m : ∀ a v, R a v → R' a v) : DHas H' d es R' := by
  obtain ⟨kvs, g, f⟩ := h
  exact ⟨kvs, e _ g, fun a ha => by
    obtain ⟨v, hv, r⟩ := f a ha
    exact ⟨v, hv, m a v r⟩⟩
theorem DHas.nin {d : Addr} {es : List Int} {R : Int → V → Prop} {k : Int} (h : DHas H d es R) (hk : k ∈ es) (q : Q (.bl false) H) : ∃ a o, V.ref d = .ref a ∧ DGet H a (.int k) o ∧ Q (.bl (!o.isSome)) H := by
  obtain ⟨kvs, g, f⟩ := h
  obtain ⟨v, hv, _⟩ := f k hk
  refine ⟨d, _, rfl, DGet.k (k := Sum.inl k) g, ?_⟩
  rw [hv]
  exact q
theorem DHas.get {d : Addr} {es : List Int} {R : Int → V → Prop} {k : Int} (h : DHas H d es R) (hk : k ∈ es) (q : ∀ v, R k v → Q v H) : ∃ a v, V.ref d = .ref a ∧ DGet H a (.int k) (some v) ∧ Q v H := by
  obtain ⟨kvs, g, f⟩ := h
  obtain ⟨v, hv, r⟩ := f k hk
  exact Rl.R.dgetV (k := Sum.inl k) g rfl hv (q v r)
/-- a row, as found_rows has it -/
def rowV (ns : List Int) (a : Int) : PyData := match rowAt ns a with
  | some (l, _) => .tuple l
  | none => .none
/-- what the law asks, in the heap -/
structure Fc (K : PySem.W.Frag) (H : Hp) (c : V) (e fd pd lo : Addr) (ns F es came : List Int) : Prop where
  code : Code K H c ns
  came : SqL K H e (came.map V.int)
  fk : DHas H fd F fun a v => Dp K H v (rowV ns a)
  pk : DHas H pd es fun a v => ∃ l L, v = .ref l ∧ H l = some (.lst (L.map V.int)) ∧ Part ns a L
  lo : H lo = some (.lst ((lostL ns F).map V.int))
theorem Fc.same {c : V} {e fd pd lo : Addr} {ns F es came : List Int} (f : Fc K H c e fd pd lo ns F es came) (s : Same H H') : Fc K H' c e fd pd lo ns F es came :=
  ⟨f.code.mono s, SqL.mono s f.came, f.fk.mono (fun _ z => s _ _ z) fun _ _ z => Dp.mono s z, f.pk.mono (fun _ z => s _ _ z) fun _ _ ⟨l, L, h1, h2, h3⟩ => ⟨l, L, h1, s _ _ h2, h3⟩, s _ _ f.lo⟩
end
end Rl
namespace Rl
open PySem PySem.Spec PyProof.Rows L2 NdefX LamX
/-! ## k22: rows compared -/
theorem so_box22 {r : Nat} (h : r < 4) : PyData.strOk (bxN r) = true := (by decide +kernel : ∀ r : Fin 4, PyData.strOk (bxN r.val) = true) ⟨r, h⟩
theorem so_go22 : ∀ k : Fin 5, PyData.strOk (goW k) = true := by decide +kernel
theorem so_bits22 : ∀ k : Fin 3, PyData.strOk (bitsW k) = true := by decide +kernel
theorem so_words22 : ∀ z ∈ (["halt", "back", "rest", "set", "copy", "add", "sub", "test", "testn", "load", "loadn", "store", "storen", "call", "in", "out", "keep", "take"] : List Str), PyData.strOk z = true := by decide +kernel
structure LayZ (ds : List PyData) : Prop where
  c : PyData.canLayAll0 ds = true
  d : PyData.depthAll ds = 0
theorem LayZ.nil : LayZ [] := ⟨by simp only [PyData.canLayAll0], by simp only [PyData.depthAll]⟩
theorem LayZ.str {s : Str} {ds : List PyData} (h : PyData.strOk s = true) (r : LayZ ds) : LayZ (.str s :: ds) := ⟨by simp only [PyData.canLayAll0, PyData.canLay0, h, r.c, Bool.and_self], by simp only [PyData.depthAll, PyData.depth, r.d, Nat.max_self]⟩
theorem LayZ.int {i : Int} {ds : List PyData} (r : LayZ ds) : LayZ (.int i :: ds) := ⟨by simp only [PyData.canLayAll0, PyData.canLay0, r.c, Bool.and_self], by simp only [PyData.depthAll, PyData.depth, r.d, Nat.max_self]⟩
theorem op_lay {op : Op} (h : op.Ok) : LayZ op.data := by
  have wd : ∀ {z : Str}, z ∈ (["halt", "back", "rest", "set", "copy", "add", "sub", "test", "testn", "load", "loadn", "store", "storen", "call", "in", "out", "keep", "take"] : List Str) → PyData.strOk z = true := fun {z} hz => so_words22 z hz
  cases op with
  | halt => exact .str (wd (by decide)) .nil
  | back => exact .str (wd (by decide)) .nil
  | rest => exact .str (wd (by decide)) .nil
  | set r n => exact .str (wd (by decide)) (.str (so_box22 h.1) (.int .nil))
  | copy r s => exact .str (wd (by decide)) (.str (so_box22 h.1) (.str (so_box22 h.2) .nil))
  | sum a r s =>
    cases a with
    | true => exact .str (wd (z := "add") (by decide)) (.str (so_box22 h.1) (.str (so_box22 h.2) .nil))
    | false => exact .str (wd (z := "sub") (by decide)) (.str (so_box22 h.1) (.str (so_box22 h.2) .nil))
  | bits k r s => exact .str (so_bits22 k) (.str (so_box22 h.1) (.str (so_box22 h.2) .nil))
  | test r s => exact .str (wd (by decide)) (.str (so_box22 h.1) (.str (so_box22 h.2) .nil))
  | testn r n => exact .str (wd (by decide)) (.str (so_box22 h.1) (.int .nil))
  | load r s => exact .str (wd (by decide)) (.str (so_box22 h.1) (.str (so_box22 h.2) .nil))
  | loadn r n => exact .str (wd (by decide)) (.str (so_box22 h.1) (.int .nil))
  | store r s => exact .str (wd (by decide)) (.str (so_box22 h.1) (.str (so_box22 h.2) .nil))
  | storen r n => exact .str (wd (by decide)) (.str (so_box22 h.1) (.int .nil))
  | go k t => exact .str (so_go22 k) (.int .nil)
  | call t => exact .str (wd (by decide)) (.int .nil)
  | inn r => exact .str (wd (by decide)) (.str (so_box22 h) .nil)
  | out r => exact .str (wd (by decide)) (.str (so_box22 h) .nil)
  | keep r => exact .str (wd (by decide)) (.str (so_box22 h) .nil)
  | take r => exact .str (wd (by decide)) (.str (so_box22 h) .nil)
theorem op_shaped {op : Op} (h : op.Ok) : SeqAt.shaped (.tuple op.data) = true := by
  have g := op_lay h
  unfold SeqAt.shaped
  simp only [PyData.canLay0, PyData.depth, g.c, g.d]
  decide
/-- the call's goal, or none -/
noncomputable def goalV (ns is : List Int) (j i : Nat) : V := if i + 1 < j then .int (st ns is 150 (i + 1)).1.place else .non
theorem goal_at {ns is : List Int} {j i : Nat} (h : i < j) : ((((st ns is 150 j).2.drop 1).map V.int) ++ [V.non])[i]? = some (goalV ns is j i) := by
  unfold goalV
  have hl : (((st ns is 150 j).2.drop 1).map V.int).length = j - 1 := by rw [List.length_map, List.length_drop, st_len]
  by_cases z : i + 1 < j
  · rw [if_pos z, List.getElem?_append_left (by rw [hl]; omega), List.getElem?_map, List.getElem?_drop, Nat.add_comm 1 i, st_at z]
    rfl
  · rw [if_neg z, List.getElem?_append_right (by rw [hl]; omega), hl, show i - (j - 1) = 0 by omega]
    rfl
/-- an open call: the entry, and where it goes back to -/
def ocD (q : Int × Int) : PyData := .tuple [.int q.1, .list [.int q.2]]
section
variable {K : PySem.W.Frag} {w : World} {vs : List V} {H H' : Hp} {Q : VK} {E : XK}
theorem stood_lost {ns F : List Int} {a m k : Int} {l : List PyData} (ha : a ∈ F) (hr : rowAt ns a = some (l, m)) (h0 : a ≤ k) (h1 : k < a + m) : k ∉ lostL ns F := fun h => by
  unfold lostL at h
  have hs := (List.mem_filter.mp h).2
  have : stood ns F k = true := by
    unfold stood
    refine List.any_eq_true.mpr ⟨a, ha, ?_⟩
    rw [hr]
    exact decide_eq_true ⟨h0, h1⟩
  rw [this] at hs
  cases hs
/-- none of the bytes that a row stands in is lost -/
theorem noLost {σ : L2.St} {ns F : List Int} {a m : Int} {ls lo : Addr} (hs : H ls = some (.lst ((R.rgI a (a + m)).map V.int))) (hlo : H lo = some (.lst ((lostL ns F).map V.int))) (hm : ∀ k, a ≤ k → k < a + m → k ∉ lostL ns F) (hm2 : m ≤ 1000) (h12 : σ[12]? = some (some (.ref ls))) (h5 : ∀ x : V, ((wipe σ [13]).set 13 (some x))[5]? = some (some (.ref lo))) (h13 : ∀ x : V, ((wipe σ [13]).set 13 (some x))[13]? = some (some x)) (hw : ∀ x, wipe ((wipe σ [13]).set 13 (some x)) [13] = wipe σ [13]) {QB : Bool → Hp → Prop} (q : ∀ H', Same H H' → QB false H') :
    tTest (tOp (rNeA K) (tLc (iSeq K (tVar 12)) (gName 13) (tTest (tOp ((rIn K false)) (tVar 13) (tVar 5))) (tVar 13) [13]) (tLst tNil)) σ H QB := by
  refine R.test (R.op (R.lc (R.seqIter (R.var ?_ h12))))
  have hl : (R.rgI a (a + m)).length < sizeLine := by
    unfold R.rgI
    rw [List.length_map, List.length_range, sizeLine_eq]
    omega
  refine R.lcFMI (fun _ => false) id (SqL.of hs) hl hw ?_ ?_ ?_
  · intro x H1 hx s1 QB' qb
    have hx2 := mem_rgI.mp hx
    refine R.test (R.op (R.var (R.var (R.inInts (.inl (SqL.of (s1 _ _ hlo))) ?_) (h5 _)) (h13 _)))
    rw [decide_eq_false (hm x hx2.1 hx2.2)]
    exact R.bl qb
  · intro x H1 hx hp
    cases hp
  intro D H2 hD s2 gD
  rw [show (List.filter (fun _ => false) (R.rgI a (a + m))) = [] by simp] at gD
  refine R.lst (R.nil ⟨by k_caughtN0, fun l hl2 => ?_⟩)
  have s3 : Same H2 (upd H2 l (.lst [])) := same_upd hl2
  refine R.neD (SqL.ints (ns := []) (SqL.of (s3 _ _ gD))) (SqL.ints (ns := []) (SqL.of upd_same)) (shaped_ints []) (shaped_ints []) ?_
  rw [eqv_ints]
  exact R.bl (q _ (s2.trans s3))
end
end Rl
namespace Rl
open PySem PySem.Spec PyProof.Rows L2 NdefX LamX
/-! ## k22: a run, looked at turn by turn -/
section
variable {K : PySem.W.Frag} {w : World} {vs : List V} {H H' : Hp} {Q : VK} {E : XK}
theorem callV22 {σ : L2.St} {sp : Sp} {dvs : List V} {t : TA} (q : t σ H fun vs H1 => sp (vs ++ dvs) H1 Q E) : tCall sp dvs E t σ H Q := q
/-- where the run goes on, by the row's word -/
theorem last22 {c : V} {e fd pd lo lp : Addr} {v10 v11 v12 : Option V} {ns F es came : List Int} {pl : List Int} {p en : Int} {oc : List (Int × Int)} {xs : List V} {g : V} {wd : Str} {H0 : Hp} {nx bk ct : L2.St → Hp → Prop} {rt : VK} {v1 v15 : Option V}
    (hb : By ns) (hF : Fnd ns F) (hE : ∀ k, k ∈ es ↔ Entr ns F k) (s0 : Same H0 H) (n0 : H0 lp = none) (fc : Fc K H0 c e fd pd lo ns F es came) (A : AtR ns F pl p en oc) (glp : H lp = some (.lst xs)) (doc : DpAll K (but lp H) xs (oc.map ocD)) (loc : oc.length ≤ 200)
    (hg : g = .non ∨ ∃ op n z, g = .int z ∧ opAt ns p = some (op, n) ∧ wd = op.word ∧ op.word ≠ "halt" ∧ z ∈ goalsP op (p + n) pl ∧ (op = .back → pl ≠ []))
    (q : ∀ en' oc' xs' H' v15, (∀ op n z, g = .int z → opAt ns p = some (op, n) → AtR ns F (placesP op (p + n) pl) z en' oc') → Same H0 H' → H' lp = some (.lst xs') → DpAll K (but lp H') xs' (oc'.map ocD) → oc'.length ≤ oc.length + 1 →
      nx [some c, v1, some (.ref e), some (.ref fd), some (.ref pd), some (.ref lo), some (.ref lp), some (.int en'), some (.int p), some g, v10, v11, v12, none, some (.str wd), v15] H') :
    (tIfS (tAnd (tTest (tOp (rNotN) (tVar 9) (tC .non))) (tTest (tOp (rEqA K) (tVar 14) (tC (.str "call"))))) (tSeq (tDrop (tBM K "list" rAppend (tVar 6) (tCons (tTup (tCons (tVar 7) (tCons (tCall (sp_goes_on K w) [] E0 (tCons (tVar 0) (tCons (tVar 8) tNil))) tNil))) tNil))) (tSeq (tAsg (tVar 9) (gName 7)) (tIfS (tB (tDNotIn (tVar 9) (tVar 4))) (tRet (tC (.bl false))) tNext))) (tIfS (tAnd (tTest (tOp (rNotN) (tVar 9) (tC .non))) (tTest (tOp (rEqA K) (tVar 14) (tC (.str "back"))))) (tSeq (tAsg (tBM0 K "list" rPop (tVar 6)) (gTup K 2 (gCons (gName 7) (gCons (gName 15) gNil)))) (tIfS (tTest (tOp (rNeA K) (tVar 15) (tLst (tCons (tVar 9) tNil)))) (tRet (tC (.bl false))) tNext)) (tIfS (tAnd (tTest (tOp (rNotN) (tVar 9) (tC .non))) (tTest (tOp ((rIn K true)) (tVar 9) (tCall (sp_goes_on K w) [] E0 (tCons (tVar 0) (tCons (tVar 8) tNil)))))) (tRet (tC (.bl false))) tNext)))
      ⟨nx, rt, bk, ct⟩ [some c, v1, some (.ref e), some (.ref fd), some (.ref pd), some (.ref lo), some (.ref lp), some (.int en), some (.int p), some g, v10, v11, v12, none, some (.str wd), v15] H := by
  rcases hg with rfl | ⟨op, n, z, rfl, ho, rfl, hh, hz, hbk⟩
  · refine R.ifS (R.and' (R.test (R.op (R.var (R.c (R.notNn (R.bl (R.iF (R.iF ?_)))))))))
    refine R.ifS (R.and' (R.test (R.op (R.var (R.c (R.notNn (R.bl (R.iF (R.iF ?_)))))))))
    refine R.ifS (R.and' (R.test (R.op (R.var (R.c (R.notNn (R.bl (R.iF (R.iF (R.next ?_))))))))))
    exact q en oc xs H v15 (fun _ _ _ e => nomatch e) s0 glp doc (Nat.le_succ _)
  have fcH := fc.same s0
  have lx : xs.length = oc.length := by
    rw [DpAll.length doc]
    exact List.length_map ..
  -- what goes_on tells
  have goes : ∀ {H1 : Hp} {σ : L2.St} {QV : VK}, Code K H1 c ns → σ[0]? = some (some c) → σ[8]? = some (some (.int p)) → (∀ (pp : Addr) (H2 : Hp) (L : List Int), Same H1 H2 → H1 pp = none → H2 pp = some (.lst (L.map V.int)) → Goes ns p L → QV (.ref pp) H2) → tCall (sp_goes_on K w) [] E0 (tCons (tVar 0) (tCons (tVar 8) tNil)) σ H1 QV := fun hc h0 h8 qq =>
    R.call (R.cons (R.var (R.cons (R.var (R.nil ⟨c, ns, p, rfl, hc, hb, qq⟩) h8)) h0))
  by_cases hc : op.word = "call"
  · -- a call
    have op_call : ∃ t, op = .call t := by
      rcases op_view op with ⟨t, rfl⟩ | ⟨k, t, rfl, hk0, hw⟩ | ⟨t, rfl⟩ | rfl | ⟨⟨n1, n2, n3, n4⟩, hgo⟩
      · exact absurd hc (by decide : ("go" : Str) ≠ "call")
      · have hw' : ∀ wd ∈ (["zero", "nonzero", "less", "notless"] : List Str), wd ≠ "call" := by decide
        exact absurd hc (hw' _ hw)
      · exact ⟨t, rfl⟩
      · exact absurd hc (by decide : ("back" : Str) ≠ "call")
      · exact absurd hc n3
    obtain ⟨t, rfl⟩ := op_call
    obtain rfl : z = t := List.mem_singleton.mp hz
    have A2 := A.call hb hF ho
    have hbe : behind ns p = some (p + n) := by
      rw [behind_op hb ho, if_neg (show (Op.call z).word ∉ endsT from (by decide : ("call" : Str) ∉ endsT))]
    have hic : isCall ns p = true := by
      rw [call_op hb ho]
      rfl
    refine R.ifS (R.and' (R.test (R.op (R.var (R.c (R.notNi (R.bl (R.iT (R.test (R.op (R.var (R.c (R.eqS (R.bl (R.iDT rfl ?_)))))))))))))))
    refine R.seq (R.drop (R.bm (R.var (R.tyL glp (R.cons (R.tup (R.cons (R.var (R.cons (goes fcH.code rfl rfl fun pp H2 L s2 np gp hG => R.nil ⟨by k_caughtN0, fun T hT => R.nil ?_⟩))))))))))
    have s3 := same_upd (o := .tup [.int en, .ref pp]) hT
    have eL : L = [p + n] := by
      refine sorted_uniq hG.1 (List.pairwise_singleton ..) fun k => ?_
      rw [hG.2 k, hbe, hic, List.mem_singleton]
      constructor
      · rintro (h | h)
        · exact (Option.some.inj h).symm
        · cases h.1
      · rintro rfl
        exact .inl rfl
    subst eL
    have glp2 := s3 _ _ (s2 _ _ glp)
    refine R.append glp2 (Nat.lt_of_le_of_lt (m := 200) (by omega) (by decide)) ?_
    have npp : pp ≠ lp := fun y => by rw [y, glp] at np; cases np
    have nT : T ≠ lp := fun y => by rw [y, s2 _ _ glp] at hT; cases hT
    have sb : ∀ {o : HO}, Same (but lp H) (but lp (upd (upd H2 T (.tup [.int en, .ref pp])) lp o)) := fun {o} x u hu => by
      obtain ⟨hx, hu⟩ := but_of hu
      exact but_get hx (upd_mut hx (s3 _ _ (s2 _ _ hu)))
    refine R.seq (R.asg (R.var (R.gName ?_)))
    have doc2 : DpAll K (but lp (upd (upd H2 T (.tup [.int en, .ref pp])) lp (.lst (xs ++ [.ref T])))) (xs ++ [.ref T]) ((oc ++ [(en, p + n)]).map ocD) := by
      rw [List.map_append]
      refine dpAll_app22 (DpAll.mono sb doc) (.cons (.tup (SqT.of (but_get nT (upd_mut nT upd_same))) (.cons (.int _) (.cons (.lst (SqL.of (but_get npp (upd_mut npp (s3 _ _ gp)))) (.cons (.int _) .nil)) .nil))) .nil)
    have s4 : Same H0 (upd (upd H2 T (.tup [.int en, .ref pp])) lp (.lst (xs ++ [.ref T]))) := Same.mut n0 (s0.trans (s2.trans s3))
    obtain ⟨kvs, gk, fk⟩ := (fc.same s4).pk
    obtain ⟨u, hu, _⟩ := fk z ((hE z).mpr A2.ent)
    refine R.ifS (R.tB' (R.dnot (R.var (R.var ⟨pd, _, rfl, DGet.k (k := Sum.inl z) gk, ?_⟩))))
    rw [hu]
    refine ⟨false, rfl, R.iF (R.next ?_)⟩
    exact q z _ _ _ _ (fun op' n' z' e1 e2 => by
      rw [ho] at e2
      cases e2
      cases e1
      exact A2) s4 upd_same doc2 (by rw [List.length_append]; exact Nat.le_refl _)
  by_cases hk : op.word = "back"
  · have op_back : op = .back := by
      rcases op_view op with ⟨t, rfl⟩ | ⟨k, t, rfl, hk0, hw⟩ | ⟨t, rfl⟩ | rfl | ⟨⟨n1, n2, n3, n4⟩, hgo⟩
      · exact absurd hk (by decide : ("go" : Str) ≠ "back")
      · have hw' : ∀ wd ∈ (["zero", "nonzero", "less", "notless"] : List Str), wd ≠ "back" := by decide
        exact absurd hk (hw' _ hw)
      · exact absurd hk (by decide : ("call" : Str) ≠ "back")
      · rfl
      · exact absurd hk n4
    subst op_back
    have hne := hbk rfl
    obtain ⟨oc', e', r, rfl, hr, A2⟩ := A.back hne
    have hz' : z = r := by
      have : z ∈ (if pl = [] then [] else [pl.getD (pl.length - 1) 0]) := hz
      rw [if_neg hne, hr] at this
      exact List.mem_singleton.mp this
    subst hz'
    refine R.ifS (R.and' (R.test (R.op (R.var (R.c (R.notNi (R.bl (R.iT (R.test (R.op (R.var (R.c (R.eqS (R.bl (R.iDF hc ?_)))))))))))))))
    refine R.ifS (R.and' (R.test (R.op (R.var (R.c (R.notNi (R.bl (R.iT (R.test (R.op (R.var (R.c (R.eqS (R.bl (R.iDT rfl ?_)))))))))))))))
    rw [List.map_append] at doc
    obtain ⟨ys, x, rfl, d1, d2⟩ := dpAll_snoc22 doc
    obtain ⟨T, us, rfl, hT, hu⟩ := dp_tup d2
    cases hu with
    | cons a b =>
      cases a
      cases b with
      | cons b c2 =>
        cases c2
        obtain ⟨l, zs, rfl, hl, hzs⟩ := dp_lst b
        cases hzs with
        | cons a b =>
          cases a
          cases b
          have bs : ∀ {o : HO}, Same (but lp H) (upd H lp o) := fun {o} x u hu => by
            obtain ⟨hx, hu⟩ := but_of hu
            exact upd_mut hx hu
          have bb : ∀ {o : HO}, Same (but lp H) (but lp (upd H lp o)) := fun {o} x u hu => by
            obtain ⟨hx, hu⟩ := but_of hu
            exact but_get hx (upd_mut hx hu)
          refine R.seq (R.asg (R.bm0 (R.var (R.tyL glp ⟨lp, ys ++ [.ref T], .ref T, rfl, rfl, glp, ?_, R.gPairT (SqT.mono bs hT) ?_⟩))))
          · rw [List.length_append, List.length_singleton, Nat.add_sub_cancel, List.getElem?_append_right (Nat.le_refl _), Nat.sub_self]
            rfl
          rw [List.dropLast_concat]
          refine R.ifS (R.test (R.op (R.var (R.lst (R.cons (R.var (R.nil ⟨by k_caughtN0, fun m hm => ?_⟩)))))))
          have s5 := same_upd (o := .lst [.int z]) hm
          refine R.neD (SqL.ints (ns := [z]) (SqL.mono s5 (SqL.mono bs hl))) (SqL.ints (ns := [z]) (SqL.of upd_same)) (shaped_ints [z]) (shaped_ints [z]) ?_
          rw [eqv_ints]
          refine R.bl (R.iF (R.next ?_))
          have sb : Same (but lp (upd H lp (.lst ys))) (but lp (upd (upd H lp (.lst ys)) m (.lst [.int z]))) := fun x u hu => by
            obtain ⟨hx, hu⟩ := but_of hu
            exact but_get hx (s5 _ _ hu)
          exact q e' oc' ys _ _ (fun op' n' z' e1 e2 => by
            rw [ho] at e2
            cases e2
            cases e1
            exact A2) ((Same.mut n0 s0).trans s5) (s5 _ _ upd_same) (DpAll.mono sb (DpAll.mono bb d1)) (by rw [List.length_append]; omega)
  -- within the part
  obtain ⟨hN, hpl⟩ := nx_other hb ho hc hk hh hz
  refine R.ifS (R.and' (R.test (R.op (R.var (R.c (R.notNi (R.bl (R.iT (R.test (R.op (R.var (R.c (R.eqS (R.bl (R.iDF hc ?_)))))))))))))))
  refine R.ifS (R.and' (R.test (R.op (R.var (R.c (R.notNi (R.bl (R.iT (R.test (R.op (R.var (R.c (R.eqS (R.bl (R.iDF hk ?_)))))))))))))))
  refine R.ifS (R.and' (R.test (R.op (R.var (R.c (R.notNi (R.bl (R.iT (R.test (R.op (R.var (goes fcH.code rfl rfl fun pp H2 L s2 np gp hG => ?_)))))))))))) 
  refine R.ninInts (.inl (SqL.of gp)) ?_
  rw [decide_eq_true ((hG.2 z).mpr hN)]
  refine R.bl (R.iF (R.next ?_))
  have sb : Same (but lp H) (but lp H2) := fun x u hu => by
    obtain ⟨hx, hu⟩ := but_of hu
    exact but_get hx (s2 _ _ hu)
  exact q en oc xs H2 _ (fun op' n' z' e1 e2 => by
    rw [ho] at e2
    cases e2
    cases e1
    rw [hpl]
    exact A.next hF hN) (s0.trans s2) (s2 _ _ glp) (DpAll.mono sb doc) (Nat.le_succ _)
where
  dpAll_app22 : ∀ {H : Hp} {xs ys : List V} {ds es : List PyData}, DpAll K H xs ds → DpAll K H ys es → DpAll K H (xs ++ ys) (ds ++ es)
    | _, _, _, _, _, .nil, h => h
    | _, _, _, _, _, .cons a r, h => .cons a (dpAll_app22 r h)
  dpAll_snoc22 : ∀ {H : Hp} {xs : List V} {ds : List PyData} {d : PyData}, DpAll K H xs (ds ++ [d]) → ∃ ys x, xs = ys ++ [x] ∧ DpAll K H ys ds ∧ Dp K H x d
    | _, _, [], _, .cons a .nil => ⟨[], _, rfl, .nil, a⟩
    | _, _, _ :: _, _, .cons a r => by
      obtain ⟨ys, x, rfl, h1, h2⟩ := dpAll_snoc22 r
      exact ⟨_ :: ys, x, rfl, .cons a h1, h2⟩
end
end Rl
namespace Rl
open PySem PySem.Spec PyProof.Rows L2 NdefX LamX
/-- _law_right: slots 0 _law_code_here, 1 _law_given, 2 _law_came, 3 _law_found, 4 _law_parts, 5 _law_lost, 6 _law_open_calls, 7 _law_entry, 8 _law_at, 9 _law_goal, 10 _law_row, 11 _law_plain, 12 _law_stood, 13 _law_place, 14 _law_word, 15 _law_places -/
def t_law_right (K : PySem.W.Frag) (w : World) : TS :=
  (tSeq (tAsg (tCallN 2 1 (sp_traced K w) gVc E0 (tCons (tVar 0) (tCons (tVar 1) tNil)) (tCons (tC (.int 150)) tNil)) (gName 2)) (tSeq (tAsg (tCB (rDictP K) (tCons (tCall (sp_found_rows K w) [] E0 (tCons (tVar 0) tNil)) tNil)) (gName 3)) (tSeq (tAsg (tCB (rDictP K) (tCons (tCall (sp_parts_of K w) [] E0 (tCons (tVar 0) tNil)) tNil)) (gName 4)) (tSeq (tAsg (tCall (sp_lost_bytes K w) [] E0 (tCons (tVar 0) tNil)) (gName 5)) (tSeq (tAsg (tLst tNil) (gName 6)) (tSeq (tAsg (tC (.int 0)) (gName 7)) (tSeq (tFor (RZ.iZipA K (tCons (tVar 2) (tCons (tOp (rAddA K) (tSl (rSlA K) (tVar 2) (tPart (tC (.int 1))) tNoPart) (tLst (tCons (tC .non) tNil))) tNil))) (gTup K 2 (gCons (gName 8) (gCons (gName 9) gNil))) (tSeq (tAsg (tCall (sp_row_at K w) [] E0 (tCons (tVar 0) (tCons (tVar 8) tNil))) (gName 10)) (tSeq (tAsg (tIf (tTest (tOp (rIsN) (tVar 10) (tC .non))) (tC .non) (tOp (rIx K) (tVar 10) (tC (.int 0)))) (gName 11)) (tSeq (tIfS (tOr (tB (tDNotIn (tVar 8) (tVar 3))) (tOr (tTest (tOp ((rIn K true)) (tVar 8) (tDGet (tVar 4) (tVar 7)))) (tTest (tOp (rNeA K) (tDGet (tVar 3) (tVar 8)) (tVar 11))))) (tRet (tC (.bl false))) tNext) (tSeq (tAsg (tLstRg (tRg2 (tVar 8) (tOp (rAddA K) (tVar 8) (tIf (tTest (tOp (rIsN) (tVar 10) (tC .non))) (tC (.int 0)) (tOp (rIx K) (tVar 10) (tC (.int 1))))))) (gName 12)) (tSeq (tIfS (tTest (tOp (rNeA K) (tLc (iSeq K (tVar 12)) (gName 13) (tTest (tOp ((rIn K false)) (tVar 13) (tVar 5))) (tVar 13) [13]) (tLst tNil))) (tRet (tC (.bl false))) tNext) (tSeq (tAsg (tIf (tTest (tOp (rIsN) (tVar 10) (tC .non))) (tC (.str "none")) (tOp (rIx K) (tOp (rIx K) (tVar 10) (tC (.int 0))) (tC (.int 0)))) (gName 14)) (tIfS (tAnd (tTest (tOp (rNotN) (tVar 9) (tC .non))) (tTest (tOp (rEqA K) (tVar 14) (tC (.str "call"))))) (tSeq (tDrop (tBM K "list" rAppend (tVar 6) (tCons (tTup (tCons (tVar 7) (tCons (tCall (sp_goes_on K w) [] E0 (tCons (tVar 0) (tCons (tVar 8) tNil))) tNil))) tNil))) (tSeq (tAsg (tVar 9) (gName 7)) (tIfS (tB (tDNotIn (tVar 9) (tVar 4))) (tRet (tC (.bl false))) tNext))) (tIfS (tAnd (tTest (tOp (rNotN) (tVar 9) (tC .non))) (tTest (tOp (rEqA K) (tVar 14) (tC (.str "back"))))) (tSeq (tAsg (tBM0 K "list" rPop (tVar 6)) (gTup K 2 (gCons (gName 7) (gCons (gName 15) gNil)))) (tIfS (tTest (tOp (rNeA K) (tVar 15) (tLst (tCons (tVar 9) tNil)))) (tRet (tC (.bl false))) tNext)) (tIfS (tAnd (tTest (tOp (rNotN) (tVar 9) (tC .non))) (tTest (tOp ((rIn K true)) (tVar 9) (tCall (sp_goes_on K w) [] E0 (tCons (tVar 0) (tCons (tVar 8) tNil)))))) (tRet (tC (.bl false))) tNext)))))))))) (tRet (tC (.bl true))))))))))
abbrev N_law_right : List Str := ["_law_code_here", "_law_given", "_law_came", "_law_found", "_law_parts", "_law_lost", "_law_open_calls", "_law_entry", "_law_at", "_law_goal", "_law_row", "_law_plain", "_law_stood", "_law_place", "_law_word", "_law_places"]

/-- law: slots 0 _law_script, 1 _law_reel_here, 2 _law_k, 3 _law_code_here -/
def t_law (K : PySem.W.Frag) (w : World) : TS :=
  (tSeq (tAsg (tCall (sp_law_reel K w) [] E0 (tCons (tVar 0) tNil)) (gName 1)) (tSeq (tFor (iRng1 (tCons (tOp (rAddA K) (tC (.int 1)) (tCB (rMin2) (tCons (tCB (rLenA K) (tCons (tVar 0) tNil)) (tCons (tC (.int 20)) tNil)))) tNil)) (gName 2) (tSeq (tAsg (tIf (tTest (tOp (rEqA K) (tCall (sp_law_draw K w) [] E0 (tCons (tVar 1) (tCons (tC (.int 4)) tNil))) (tC (.int 0)))) (tCall (sp_law_blocks K w) [] E0 (tCons (tVar 1) tNil)) (tCall (sp_law_code K w) [] E0 (tCons (tVar 1) tNil))) (gName 3)) (tIfS (tNot (tB (tCall (sp_law_right K w) [] E0 (tCons (tVar 3) (tCons (tCall (sp_law_inputs K w) [] E0 (tCons (tVar 1) tNil)) tNil))))) (tRet (tC (.bl false))) tNext))) (tRet (tC (.bl true)))))
abbrev N_law : List Str := ["_law_script", "_law_reel_here", "_law_k", "_law_code_here"]

end Rl
namespace Rl
open PySem PySem.Spec PyProof.Rows L2 NdefX LamX
section
variable {K : PySem.W.Frag} {w : World} {vs : List V} {H H' : Hp} {Q : VK} {E : XK}
theorem pure_law_right {F : Prop} (_ : F) (h : sp_law_right K w vs H Q E) : t_law_right K w { nx := fun _ H' => Q .non H', rt := Q } (start N_law_right vs) H := by
  obtain ⟨c, dd, ns, is, rfl, hc, hd, hb, hi, hl, hil, hT, q⟩ := h
  unfold t_law_right
  -- the run
  refine R.seq (R.asg (R.callN (R.cons (R.var (R.cons (R.var (R.nil (R.cons (R.c (R.nil ⟨rfl, rfl, c, dd, ns, is, 150, rfl, ⟨hc, hb, hd, hi, by omega, hil, by decide, by decide⟩, fun e H1 s1 ge _ => R.gName ?_⟩))))))))))
  obtain ⟨j, T⟩ := turns_of (ns := ns) (is := is) (steps := 150) (by decide)
  rw [T.run] at ge
  have T1 := TabsN.same hT s1
  have hc1 := hc.mono s1
  have x1 := ExtN.ofSame s1
  -- found rows
  refine R.seq (R.asg (R.cb (R.cons (R.call (R.cons (R.var (R.nil ⟨c, ns, rfl, hc1, hb, by omega, T1, fun p2 H2 xs2 L2 x2 T2 np2 gp2 d2 hF => R.nil ?_⟩)))))))
  have hc2 := ExtN.code x2 hc1
  have ge2 := ExtN.sqL x2 (SqL.of (K := K) ge)
  have l2 : xs2.length = L2.length := by
    rw [DpAll.length d2]
    exact List.length_map ..
  refine R.dictP (es := L2) (R := fun a v => Dp K H2 v (rowV ns a)) (SqL.of gp2) l2 hF.1 (fun i x a hx ha => ?_) fun fd H3 nfd s3 hfd => R.gName ?_
  · obtain ⟨d, hd', dp⟩ := Rl.DpAll.get d2 hx
    rw [List.getElem?_map, ha] at hd'
    cases Option.some.inj hd'
    obtain ⟨q1, us, rfl, hq1, hu⟩ := dp_tup (show Dp K H2 x (.tuple [.int a, rowV ns a]) from dp)
    cases hu with
    | cons a1 r1 =>
      cases a1
      cases r1 with
      | cons a2 r2 =>
        cases r2
        exact ⟨q1, _, rfl, hq1, a2⟩
  have T3 := TabsN.same T2 s3
  have hc3 := hc2.mono s3
  have hfd3 : DHas H3 fd L2 fun a v => Dp K H3 v (rowV ns a) := hfd.mono (fun _ z => z) fun _ _ z => Dp.mono s3 z
  -- the parts
  refine R.seq (R.asg (R.cb (R.cons (R.call (R.cons (R.var (R.nil ⟨c, ns, rfl, hc3, hb, by omega, T3, fun p4 H4 xs4 es x4 T4 np4 gp4 hE hI => R.nil ?_⟩)))))))
  obtain ⟨L4, hF4, pE, mE⟩ := hE
  obtain rfl : L4 = L2 := hF4.uniq hF
  have hc4 := ExtN.code x4 hc3
  have ge4 := ExtN.sqL x4 (SqL.mono s3 ge2)
  have hfd4 : DHas H4 fd L4 fun a v => Dp K H4 v (rowV ns a) := hfd3.mono (fun _ z => x4 _ _ z fun _ y => nomatch y) fun _ _ z => ExtN.dp x4 z
  refine R.dictP (es := es) (R := fun a v => ∃ l L, v = .ref l ∧ H4 l = some (.lst (L.map V.int)) ∧ Part ns a L) (SqL.of gp4) hI.1 pE (fun i x a hx ha => ?_) fun pd H5 npd s5 hpd => R.gName ?_
  · obtain ⟨q1, l1, e1, L1, he1, rfl, hq1, hl1, hP, _, _, _⟩ := hI.2 i x hx
    rw [ha] at he1
    cases he1
    exact ⟨q1, .ref l1, rfl, SqT.of hq1, l1, L1, rfl, hl1, hP⟩
  have T5 := TabsN.same T4 s5
  have hc5 := hc4.mono s5
  -- the lost bytes
  refine R.seq (R.asg (R.call (R.cons (R.var (R.nil ⟨c, ns, rfl, hc5, hb, by omega, T5, fun lo H6 L6 x6 T6 nlo glo hF6 => R.gName ?_⟩)))))
  obtain rfl : L6 = L4 := hF6.uniq hF
  have fc6 : Fc K H6 c e fd pd lo ns L6 es (st ns is 150 j).2 := ⟨ExtN.code x6 hc5, ExtN.sqL x6 (SqL.mono s5 ge4), hfd4.mono (fun _ z => x6 _ _ (s5 _ _ z) fun _ y => nomatch y) fun _ _ z => ExtN.dp x6 (Dp.mono s5 z), hpd.mono (fun _ z => x6 _ _ z fun _ y => nomatch y) fun _ _ ⟨l, L, h1, h2, h3⟩ => ⟨l, L, h1, (x6 _ _ (s5 _ _ h2) fun _ y => nomatch y), h3⟩, glo⟩
  have x06 : ExtN H H6 := ExtN.trans (ExtN.trans (ExtN.trans (ExtN.trans (ExtN.trans x1 x2) (ExtN.ofSame s3)) x4) (ExtN.ofSame s5)) x6
  clear hc hd hT s1 ge T1 hc1 x1 x2 T2 np2 gp2 d2 hc2 ge2 l2 nfd s3 hfd T3 hc3 hfd3 x4 T4 np4 gp4 hI hc4 ge4 hfd4 npd s5 hpd T5 hc5 x6 nlo glo hF6 hF4
  -- the turns
  refine R.seq (R.asg (R.lst (R.nil ⟨by k_caughtN0, fun lp hlp => R.gName (R.seq (R.asg (R.c (R.gName ?_))))⟩)))
  have s7 := same_upd (o := .lst []) hlp
  have g7 : (upd H6 lp (.lst [])) lp = some (.lst []) := upd_same
  generalize upd H6 lp (.lst []) = H7 at s7 g7 ⊢
  refine R.seq (R.for' (R.zip' (R.cons (R.var (R.cons (R.op (R.sl (R.var (R.part (R.c (R.exI (R.noPart (R.slFromI (fc6.same s7).came (by decide) fun l2 hl2 => ?_)))))))))))))
  have s8 := same_upd (o := .lst ((List.drop (1 : Int).toNat (st ns is 150 j).2).map V.int)) hl2
  have g82 : (upd H7 l2 (.lst ((List.drop (1 : Int).toNat (st ns is 150 j).2).map V.int))) l2 = some _ := upd_same
  have g8 := s8 _ _ g7
  generalize upd H7 l2 (.lst ((List.drop (1 : Int).toNat (st ns is 150 j).2).map V.int)) = H8 at s8 g82 g8 ⊢
  refine R.lst (R.cons (R.c (R.nil ⟨by k_caughtN0, fun l3 hl3 => ?_⟩)))
  have s9 := same_upd (o := .lst [.non]) hl3
  have g93 : (upd H8 l3 (.lst [.non])) l3 = some _ := upd_same
  have g92 := s9 _ _ g82
  have g9 := s9 _ _ g8
  generalize upd H8 l3 (.lst [.non]) = H9 at s9 g93 g92 g9 ⊢
  have jm : j ≤ 151 := by have := T.most; omega
  refine R.cat g92 g93 (by rw [List.length_map, List.length_drop, st_len, sizeLine_eq]; show j - 1 + 1 ≤ _; omega) fun l4 hl4 => ?_
  have s10 := same_upd (o := .lst ((List.drop (1 : Int).toNat (st ns is 150 j).2).map V.int ++ [.non])) hl4
  have g104 : (upd H9 l4 (.lst ((List.drop (1 : Int).toNat (st ns is 150 j).2).map V.int ++ [.non]))) l4 = some _ := upd_same
  have g10 := s10 _ _ g9
  have n4 : H7 l4 = none := (s8.trans s9).free hl4
  generalize upd H9 l4 (.lst ((List.drop (1 : Int).toNat (st ns is 150 j).2).map V.int ++ [.non])) = H10 at s10 g104 g10 ⊢
  have n4p : l4 ≠ lp := fun y => by rw [y, g7] at n4; cases n4
  have s610 : Same H6 H10 := s7.trans (s8.trans (s9.trans s10))
  refine R.nil ⟨e, l4, _, _, rfl, .inl ⟨(fc6.same s610).came, SqL.of g104, ?_⟩⟩
  have one := T.one
  have sB6 : Same H6 (but lp H10) := fun b o h => but_get (fun y => by rw [y, hlp] at h; cases h) (s610 _ _ h)
  have kB := but_get n4p g104
  have nB : (but lp H10) lp = none := but_none
  have fcB := fc6.same sB6
  have xB : ExtN H (but lp H10) := ExtN.trans x06 (ExtN.ofSame sB6)
  have TB := TabsN.same T6 sB6
  have sB : Same (but lp H10) H10 := but_same
  generalize but lp H10 = B at sB6 kB nB fcB xB TB sB
  refine R.loop (walk_zip (n := j) (by rw [List.length_append, List.length_map, List.length_map, List.length_drop, st_len]; show j = min j (j - 1 + 1); omega))
    (fun i σ H' => ∃ (v8 v9 v10 v11 v12 v14 v15 : Option V) (en : Int) (oc : List (Int × Int)) (xs : List V), σ = [some c, some dd, some (.ref e), some (.ref fd), some (.ref pd), some (.ref lo), some (.ref lp), some (.int en), v8, v9, v10, v11, v12, none, v14, v15] ∧ Same B H' ∧ H' lp = some (.lst xs) ∧ DpAll K (but lp H') xs (oc.map ocD) ∧ oc.length ≤ i ∧ (i < j → AtR ns L6 (st ns is 150 i).1.places (st ns is 150 i).1.place en oc))
    ⟨_, _, _, _, _, _, _, 0, [], [], rfl, sB, g10, .nil, Nat.le_refl _, fun _ => ⟨rfl, (hF.2 0).mpr .here, .inl rfl, .here, fun _ h => nomatch h⟩⟩ (fun i σ H' _ ⟨_, _, _, _, _, _, _, _, _, _, _, s, _⟩ => ⟨(fcB.same s).came, SqL.of (s _ _ kB)⟩) ?_ ?_
  · clear s7 s8 g82 g8 g7 s9 g93 g92 g9 s10 g104 g10 hl2 hl3 hl4 s610 sB6 fc6 sB
    rintro i x σ H11 H12 hij ⟨v8, v9, v10, v11, v12, v14, v15, en, oc, xs, rfl, s11, g11, doc, loc, hA⟩ ⟨T2, x1, y1, rfl, hT2, rfl, hx, hy⟩
    dsimp only at hx hy
    have ei : x1 = .int (st ns is 150 i).1.place := by
      rw [List.getElem?_map, st_at hij] at hx
      exact (Option.some.inj hx).symm
    have ej : y1 = goalV ns is j i := by
      rw [show (1 : Int).toNat = 1 from rfl, goal_at hij] at hy
      exact (Option.some.inj hy).symm
    subst ei ej
    refine R.gPair upd_same ?_
    have A := hA hij
    have st12 := same_upd (o := .tup [.int (st ns is 150 i).1.place, goalV ns is j i]) hT2
    have s12 : Same B _ := s11.trans st12
    have g12 := st12 _ _ g11
    have bt : Same (but lp H11) (but lp (upd H11 T2 (.tup [.int (st ns is 150 i).1.place, goalV ns is j i]))) := fun x u hu => by
      obtain ⟨hx, hu⟩ := but_of hu
      exact but_get hx (st12 _ _ hu)
    have doc12 := DpAll.mono bt doc
    generalize upd H11 T2 (.tup [.int (st ns is 150 i).1.place, goalV ns is j i]) = H12 at s12 g12 doc12 ⊢
    clear g11 s11 hT2 hx hy st12 bt doc
    -- the row
    refine R.seq (R.asg (R.call (R.cons (R.var (R.cons (R.var (R.nil ⟨c, ns, (st ns is 150 i).1.place, rfl, (fcB.same s12).code, hb, fun v H13 s13 hv => R.gName ?_⟩)))))))
    have s13' := s12.trans s13
    have g13 := s13 _ _ g12
    have mb : ∀ {Ha Hb : Hp}, Same Ha Hb → Same (but lp Ha) (but lp Hb) := fun s x u hu => by
      obtain ⟨hx, hu⟩ := but_of hu
      exact but_get hx (s _ _ hu)
    have doc13 := DpAll.mono (mb s13) doc12
    clear g12 doc12 s12
    -- the end of a turn
    have nxt : ∀ {v8 v9 v10 v11 v12 v14 : Option V} (en' : Int) (oc' : List (Int × Int)) (xs' : List V) (H' : Hp) (v15 : Option V), (∀ op n z, goalV ns is j i = .int z → opAt ns (st ns is 150 i).1.place = some (op, n) → AtR ns L6 (placesP op ((st ns is 150 i).1.place + n) (st ns is 150 i).1.places) z en' oc') → Same B H' → H' lp = some (.lst xs') → DpAll K (but lp H') xs' (oc'.map ocD) → oc'.length ≤ oc.length + 1 →
      ∃ (v8' v9' v10' v11' v12' v14' v15' : Option V) (en : Int) (oc : List (Int × Int)) (xs : List V), [some c, some dd, some (.ref e), some (.ref fd), some (.ref pd), some (.ref lo), some (.ref lp), some (.int en'), v8, v9, v10, v11, v12, none, v14, v15] = [some c, some dd, some (.ref e), some (.ref fd), some (.ref pd), some (.ref lo), some (.ref lp), some (.int en), v8', v9', v10', v11', v12', none, v14', v15'] ∧ Same B H' ∧ H' lp = some (.lst xs) ∧ DpAll K (but lp H') xs (oc.map ocD) ∧ oc.length ≤ i + 1 ∧ (i + 1 < j → AtR ns L6 (st ns is 150 (i + 1)).1.places (st ns is 150 (i + 1)).1.place en oc) := fun {v8 v9 v10 v11 v12 v14} en' oc' xs' H' v15 hA' h1 h2 h3 h4 => ⟨_, _, _, _, _, _, _, en', oc', xs', rfl, h1, h2, h3, by omega, fun hij' => by
        obtain ⟨op, n, ho, hst⟩ := st_on T hij'
        have gr := goes_right (m := (st ns is 150 i).1) (op := op) (nx := (st ns is 150 i).1.place + n) (T.on i hij) (by
          have := T.on (i + 1) hij'
          rw [hst] at this
          exact this)
        have hg : goalV ns is j i = .int (st ns is 150 (i + 1)).1.place := if_pos hij'
        have := hA' op n _ hg ho
        have hp : (st ns is 150 (i + 1)).1.places = placesP op ((st ns is 150 i).1.place + n) (st ns is 150 i).1.places := by
          rw [hst]
          exact gr.2.1
        rw [hp]
        exact this⟩
    have hgoal : ∀ op n, opAt ns (st ns is 150 i).1.place = some (op, n) → goalV ns is j i = .non ∨ ∃ op' n' z, goalV ns is j i = .int z ∧ opAt ns (st ns is 150 i).1.place = some (op', n') ∧ op.word = op'.word ∧ op'.word ≠ "halt" ∧ z ∈ goalsP op' ((st ns is 150 i).1.place + n') (st ns is 150 i).1.places ∧ (op' = .back → (st ns is 150 i).1.places ≠ []) := fun op n ho => by
      by_cases hij' : i + 1 < j
      · obtain ⟨op', n', ho', hst⟩ := st_on T hij'
        rw [ho] at ho'
        cases ho'
        have fin1 : (({ (st ns is 150 i).1 with place := (st ns is 150 i).1.place + n } : Mc).act op).fin = none := by
          have := T.on (i + 1) hij'
          rw [hst] at this
          exact this
        have gr := goes_right (m := (st ns is 150 i).1) (op := op) (nx := (st ns is 150 i).1.place + n) (T.on i hij) fin1
        refine .inr ⟨op, n, (st ns is 150 (i + 1)).1.place, if_pos hij', ho, rfl, gr.2.2, ?_, fun hbk hne => ?_⟩
        · rw [hst]
          exact gr.1
        · subst hbk
          have e : (({ (st ns is 150 i).1 with place := (st ns is 150 i).1.place + n } : Mc).act .back) = { (st ns is 150 i).1 with place := (st ns is 150 i).1.place + n, fin := some "bare" } := if_pos hne
          rw [e] at fin1
          cases fin1
      · exact .inl (if_neg hij')
    generalize hgv : goalV ns is j i = gv at nxt hgoal ⊢
    have few := (Fnd.few hb (by omega) hF).2 _ A.fnd
    have few0 : 0 ≤ (st ns is 150 i).1.place ∧ (st ns is 150 i).1.place < 1300 := few
    obtain ⟨kvp, lq, Lq, gkp, ⟨hvp, hlq⟩, hPart⟩ : ∃ kvs l L, H13 pd = some (.dK kvs) ∧ (valV kvs (Sum.inl en) = some (.ref l) ∧ H13 l = some (.lst (L.map V.int))) ∧ Part ns en L := by
      obtain ⟨kvs, gk, fk⟩ := (fcB.same s13').pk
      obtain ⟨u, hu, l, L, rfl, h1, h2⟩ := fk en ((mE en).mpr A.ent)
      exact ⟨kvs, l, L, gk, ⟨hu, h1⟩, h2⟩
    obtain ⟨kvf, gkf, fkf⟩ := (fcB.same s13').fk
    obtain ⟨u, hvf, du⟩ := fkf _ A.fnd
    have hlo := (fcB.same s13').lo
    have inP : (st ns is 150 i).1.place ∈ Lq := (hPart.2 _).mpr A.prt
    have hat := A.fnd
    generalize hp : (st ns is 150 i).1.place = p at A few0 hvf du inP hat hv hgoal nxt ⊢
    have loc2 : oc.length ≤ 200 := by omega
    have dg : DGet H13 pd (.int en) (some (.ref lq)) := by
      rw [← hvp]
      exact DGet.k (k := Sum.inl en) gkp
    have df : DGet H13 fd (.int p) (some u) := by
      rw [← hvf]
      exact DGet.k (k := Sum.inl p) gkf
    have if1 : ∀ {nx bk ct : L2.St → Hp → Prop} {rt : VK} {v12 v14 : Option V} (v10 v11 : V), (∀ QV : VK, QV (.bl false) H13 → rNeA K u v11 H13 QV) → nx [some c, some dd, some (.ref e), some (.ref fd), some (.ref pd), some (.ref lo), some (.ref lp), some (.int en), some (.int p), some gv, some v10, some v11, v12, none, v14, v15] H13 →
        tIfS (tOr (tB (tDNotIn (tVar 8) (tVar 3))) (tOr (tTest (tOp ((rIn K true)) (tVar 8) (tDGet (tVar 4) (tVar 7)))) (tTest (tOp (rNeA K) (tDGet (tVar 3) (tVar 8)) (tVar 11))))) (tRet (tC (.bl false))) tNext ⟨nx, rt, bk, ct⟩ [some c, some dd, some (.ref e), some (.ref fd), some (.ref pd), some (.ref lo), some (.ref lp), some (.int en), some (.int p), some gv, some v10, some v11, v12, none, v14, v15] H13 := fun {nx bk ct rt v12 v14} v10 v11 hne qn => by
      refine R.ifS (R.or' (R.tB' (R.dnot (R.var (R.var ⟨fd, _, rfl, DGet.k (k := Sum.inl p) gkf, ?_⟩)))))
      rw [hvf]
      refine ⟨false, rfl, R.iF (R.or' (R.test (R.op (R.var (R.dget (R.var (R.var ⟨pd, _, rfl, dg, R.ninInts (.inl (SqL.of hlq)) ?_⟩)))))))⟩
      rw [decide_eq_true inP]
      exact R.bl (R.iF (R.test (R.op (R.dget (R.var (R.var ⟨fd, _, rfl, df, R.var (hne _ (R.bl (R.iF (R.next qn))))⟩))))))
    cases hr : rowAt ns p with
    | none =>
      rw [hr] at hv
      have hv : Dp K H13 v .none := hv
      cases hv
      have du : Dp K H13 u .none := by
        have := du
        unfold rowV at this
        rw [hr] at this
        exact this
      cases du
      refine R.seq (R.asg (R.ifE (R.test (R.op (R.var (R.c (R.isNn (R.bl (R.iT (R.c (R.gName ?_)))))))))))
      refine R.seq (if1 .non .non (fun QV qv => R.neD (.non) (.non) (by decide +kernel) (by decide +kernel) (by rw [show PyData.eqv .none .none = true by decide +kernel]; exact qv)) ?_)
      refine R.seq (R.asg (R.lstRg (R.rg2 (R.var (R.op (R.var (R.ifE (R.test (R.op (R.var (R.c (R.isNn (R.bl (R.iT (R.c (R.addI (R.exII ⟨?_, fun ls hls => R.gName ?_⟩)))))))))))))))))
      · exact RgOk.of_le (by omega) (by omega) (by omega) (by omega)
      have s14 := same_upd (o := .lst ((R.rgI p (p + 0)).map V.int)) hls
      have g14 : (upd H13 ls (.lst ((R.rgI p (p + 0)).map V.int))) ls = some _ := upd_same
      generalize upd H13 ls (.lst ((R.rgI p (p + 0)).map V.int)) = H14 at s14 g14 ⊢
      refine R.seq (R.ifS (noLost (ns := ns) (F := L6) (m := 0) g14 (s14 _ _ hlo) (fun k h0 h1 => by omega) (by decide) rfl (fun _ => rfl) (fun _ => rfl) (fun _ => rfl) fun H15 s15 => R.iF (R.next ?_)))
      refine R.seq (R.asg (R.ifE (R.test (R.op (R.var (R.c (R.isNn (R.bl (R.iT (R.c (R.gName ?_)))))))))))
      refine last22 (K := K) (w := w) hb hF mE (s13'.trans (s14.trans s15)) nB fcB A ((s14.trans s15) _ _ g13) (DpAll.mono (mb (s14.trans s15)) doc13) loc2 ?_ fun en' oc' xs' H' v15 hA h1 h2 h3 h4 => nxt en' oc' xs' H' v15 hA h1 h2 h3 h4
      by_cases hij' : i + 1 < j
      · obtain ⟨op', n', ho', _⟩ := st_on T hij'
        rw [hp, opAt_none hr] at ho'
        cases ho'
      · refine .inl ?_
        rw [← hgv]
        exact if_neg hij'
    | some lm =>
      obtain ⟨l, m⟩ := lm
      obtain ⟨op, ho, rfl, hok⟩ := opAt_some hb hr
      have rr := row_range hr
      rw [hr] at hv
      obtain ⟨pr, us, rfl, hpr, hus⟩ := dp_tup (show Dp K H13 v (.tuple [.tuple op.data, .int m]) from hv)
      cases hus with
      | cons a1 r1 =>
        cases r1 with
        | cons a2 r2 =>
          cases r2
          cases a2
          obtain ⟨pp, ws, rfl, hpp, hws⟩ := dp_tup a1
          have du : Dp K H13 u (.tuple op.data) := by
            have := du
            unfold rowV at this
            rw [hr] at this
            exact this
          obtain ⟨⟨ds, hds⟩, _⟩ := op_data op
          obtain ⟨z0, zs, rfl, rfl⟩ : ∃ z zs, ws = z :: zs ∧ z = .str op.word := by
            rw [hds] at hws
            cases hws with
            | cons y0 yt => exact ⟨_, _, rfl, dp_str y0⟩
          refine R.seq (R.asg (R.ifE (R.test (R.op (R.var (R.c (R.isNr (R.bl (R.iF (R.op (R.var (R.c (R.ixT0 hpr (R.gName ?_))))))))))))))
          refine R.seq (if1 _ _ (fun QV qv => R.neD du a1 (op_shaped hok) (op_shaped hok) (by rw [SeqAt.eqv_refl _ (SeqAt.canLay_of_shaped (op_shaped hok))]; exact qv)) ?_)
          refine R.seq (R.asg (R.lstRg (R.rg2 (R.var (R.op (R.var (R.ifE (R.test (R.op (R.var (R.c (R.isNr (R.bl (R.iF (R.op (R.var (R.c (R.ixT1 hpr (R.addI (R.exII ⟨?_, fun ls hls => R.gName ?_⟩))))))))))))))))))))
          · exact RgOk.of_le (by omega) (by omega) (by omega) (by omega)
          have s14 := same_upd (o := .lst ((R.rgI p (p + m)).map V.int)) hls
          have g14 : (upd H13 ls (.lst ((R.rgI p (p + m)).map V.int))) ls = some _ := upd_same
          generalize upd H13 ls (.lst ((R.rgI p (p + m)).map V.int)) = H14 at s14 g14 ⊢
          refine R.seq (R.ifS (noLost (ns := ns) (F := L6) (m := m) g14 (s14 _ _ hlo) (fun k h0 h1 => stood_lost hat hr h0 h1) (by omega) rfl (fun _ => rfl) (fun _ => rfl) (fun _ => rfl) fun H15 s15 => R.iF (R.next ?_)))
          have s145 := s14.trans s15
          refine R.seq (R.asg (R.ifE (R.test (R.op (R.var (R.c (R.isNr (R.bl (R.iF (R.op (R.op (R.var (R.c (R.ixT0 (SqT.mono s145 hpr) (R.c (R.ixT0 (SqT.mono s145 hpp) (R.gName ?_)))))))))))))))))
          exact last22 (K := K) (w := w) hb hF mE (s13'.trans s145) nB fcB A (s145 _ _ g13) (DpAll.mono (mb s145) doc13) loc2 (hgoal op m ho) fun en' oc' xs' H' v15 hA h1 h2 h3 h4 => nxt en' oc' xs' H' v15 hA h1 h2 h3 h4
  · rintro σ H11 ⟨v8, v9, v10, v11, v12, v14, v15, en, oc, xs, rfl, s11, g11, doc, loc, hA⟩
    exact R.ret (R.c (q _ (ExtN.trans xB (ExtN.ofSame s11)) (TabsN.same TB s11)))
end
end Rl
namespace Rl
open PySem PySem.Spec PyProof.Rows L2 NdefX LamX
/-- what the head tells -/
structure K22F (K : PySem.W.Frag) (w : World) : Prop where
  o : OldF K w
  ends : ∀ H, SqT K H (He.ga K "ENDS") [.str "halt", .str "back", .str "go"]
section
variable {K : PySem.W.Frag} {w : World} {vs : List V} {H H' : Hp} {Q : VK} {E : XK}
theorem pure_law {F : Prop} (_ : F) (h : sp_law K w vs H Q E) : t_law K w { nx := fun _ H' => Q .non H', rt := Q } (start N_law vs) H := by
  obtain ⟨s, ns, rfl, hs, hl, hT, q⟩ := h
  unfold t_law
  k_caught0
  refine ⟨s, ns, rfl, hs, hl, fun r H1 e1 nr hR => ?_⟩
  have T1 := TabsN.same hT e1
  have hs1 := SqL.mono e1 hs
  k_caught0
  refine R.rng1v (by split <;> omega) (by split <;> omega) ?_
  refine R.forR (fun i σ H' => (∃ v2 v3, σ = [some (.ref s), some (.ref r), v2, v3]) ∧ TabsN (NT K) H' ∧ Reel H' r S0) ⟨⟨_, _, rfl⟩, T1, hR⟩ ?_ ?_
  · clear hR T1 hs1 nr e1 hs
    rintro i σ H1 hi ⟨⟨v2, v3, rfl⟩, hT, hR⟩
    refine R.seq (R.joinS (fun σ H' => ∃ (v2 : Option V) (c : Addr) (ds : List Int), σ = [some (.ref s), some (.ref r), v2, some (.ref c)] ∧ TabsN (NT K) H' ∧ c ≠ r ∧ Reel H' r S0 ∧ H' c = some (.lst (List.map V.int ds)) ∧ By ds ∧ 1 ≤ ds.length ∧ ds.length ≤ 250) ?_ fun N key => ?_)
    rotate_left
    · k_caught0
      refine ⟨r, 4, S0, rfl, hR, by decide, by decide, fun d H3 f3 hR3 d0 d1 => ?_⟩
      have T3 := TabsN.fx hT hR f3
      k_caught0
      refine R.iD (fun _ => ?_) (fun _ => ?_)
      · k_caught0
        refine ⟨r, S0, rfl, hR3, fun p H4 ds hp np f4 hR4 gp hby h1 h2 => ?_⟩
        k_caught0
        exact key _ _ ⟨_, p, ds, rfl, TabsN.fx T3 hR3 f4, np, hR4.zero, gp, hby, h1, h2⟩
      · k_caught0
        refine ⟨r, S0, rfl, hR3, fun p H4 ds hp np f4 hR4 gp hby h1 h2 => ?_⟩
        k_caught0
        exact key _ _ ⟨_, p, ds, rfl, TabsN.fx T3 hR3 f4, np, hR4.zero, gp, hby, h1, h2⟩
    clear hT hR
    rintro σ H3 ⟨v2, c, ds, rfl, hT, nc, hR, gc, hby, h1, h2⟩
    refine R.ifS (R.not' (R.tB' (R.call (R.cons (R.var (R.cons (R.call (R.cons (R.var (R.nil ⟨r, S0, rfl, hR, fun p H4 es hp np f4 hR4 gp hbe e1 => R.nil ?_⟩))))))))))
    have T4 := TabsN.fx hT hR f4
    refine ⟨.ref c, .ref p, ds, es, rfl, SqL.code (SqL.of (f4.at nc gc)), SqL.code (SqL.of gp), hby, hbe, h2, by omega, T4, fun H5 x5 T5 => R.bl (R.iF (R.next ?_))⟩
    exact ⟨⟨_, _, rfl⟩, T5, Reel.extN hR4.zero x5 fun _ z => z.elim⟩
  · rintro σ H1 ⟨⟨v2, v3, rfl⟩, hT, hR⟩
    exact R.ret (R.c (q _))
end
end Rl
namespace Rl
open PySem PySem.Spec PyProof.Rows L2 NdefX LamX
/-! ## the walk of each def -/
def bodyAt : Stmt → Nat → Stmt
  | .ClassDef _ _ _ body _ _ _ _ _ _ _, j => body.getD j (.Pass ⟨0, 0, 0, 0⟩)
  | s, _ => s
abbrev s_short_row : Stmt := top 13
abbrev s_long_row : Stmt := top 14
abbrev s_row_at : Stmt := top 15
abbrev s_Old_init : Stmt := bodyAt (top 16) 0
abbrev s_Old_marks : Stmt := bodyAt (top 16) 1
abbrev s_done_alone : Stmt := top 17
abbrev s_done_set : Stmt := top 18
abbrev s_done_sum : Stmt := top 19
abbrev s_done_bits : Stmt := top 20
abbrev s_done_test : Stmt := top 21
abbrev s_done_load : Stmt := top 22
abbrev s_done_store : Stmt := top 23
abbrev s_done_go : Stmt := top 24
abbrev s_done_call : Stmt := top 25
abbrev s_done_in : Stmt := top 26
abbrev s_done_out : Stmt := top 27
abbrev s_done_keep : Stmt := top 28
abbrev s_done_take : Stmt := top 29
abbrev s_whole_run : Stmt := top 31
abbrev s_traced : Stmt := top 32
abbrev s_behind_and_target : Stmt := top 35
abbrev s_is_call : Stmt := top 37
abbrev s_goes_on : Stmt := top 36
abbrev s_all_from : Stmt := top 38
abbrev s_found_places : Stmt := top 39
abbrev s_found_rows : Stmt := top 40
abbrev s_lost_bytes : Stmt := top 41
abbrev s_parts_of : Stmt := top 42
abbrev s_law_reel : Stmt := top 44
abbrev s_law_draw : Stmt := top 45
abbrev s_law_any_row : Stmt := top 46
abbrev s_law_code : Stmt := top 47
abbrev s_law_inputs : Stmt := top 48
abbrev s_law_blocks : Stmt := top 50
abbrev s_law_right : Stmt := top 49
abbrev s_law : Stmt := top 51

structure Bl (mg : Str → Option Value) : Prop where
  b_dict : mg "dict" = none
  b_int : mg "int" = none
  b_len : mg "len" = none
  b_list : mg "list" = none
  b_min : mg "min" = none
  b_range : mg "range" = none
  b_sorted : mg "sorted" = none
  b_sum : mg "sum" = none
  b_zip : mg "zip" = none
structure Cn (K : PySem.W.Frag) (mg : Str → Option Value) : Prop where
  c_ALONE : mg "ALONE" = some (.ref (He.ga K "ALONE"))
  c_BOXES : ∃ t, mg "BOXES" = some (.str "abcd" t)
  c_BYTES : ∃ t, mg "BYTES" = some (.int 256 t)
  c_CELLS : ∃ t, mg "CELLS" = some (.int 64 t)
  c_DOERS : mg "DOERS" = some (.ref (He.ga K "DOERS"))
  c_ENDS : mg "ENDS" = some (.ref (He.ga K "ENDS"))
  c_JUMPS : ∃ t, mg "JUMPS" = some (.int 14 t)
  c_MOST_KEPT : ∃ t, mg "MOST_KEPT" = some (.int 16 t)
  c_SINGLE : mg "SINGLE" = some (.ref (He.ga K "SINGLE"))
  c_SINGLES : ∃ t, mg "SINGLES" = some (.int 15 t)
  c_TARGETS : mg "TARGETS" = some (.ref (He.ga K "TARGETS"))
  c_WORDS_OF_NUMBERED : mg "WORDS_OF_NUMBERED" = some (.ref (He.ga K "WORDS_OF_NUMBERED"))
  c_WORDS_OF_PAIRS : mg "WORDS_OF_PAIRS" = some (.ref (He.ga K "WORDS_OF_PAIRS"))

section
variable {P : Program} {w : World} {K : PySem.W.Frag} {mg : Str → Option Value} {base : Heap}
theorem sc_short_row : FnScope N_short_row ["first"] (defScope s_short_row) := ⟨rfl, rfl, rfl, by decide +kernel, rfl, by decide +kernel, by decide +kernel⟩
theorem cl_short_row (B : Bl mg) (C : Cn K mg) (F : K22F K w) {f : Addr} {fd : FuncData} (D : FnP K "short_row" s_short_row f fd) (hm : mg "short_row" = some (.ref f)) (hb : Binds K fd ["first"] []) : Cl P w K mg base 1 "short_row" (sp_short_row K w) :=
  cl_of D hm hb sc_short_row (fun vs H Q E h => len_short_row h) fun cdv A outer s H vs Q E hr h => ⟨t_short_row K w, PSs.nox (pss_cons (ps_par3 (i := 1) (j := 2) (l := 3) (by rfl) sc_short_row.nd rfl rfl rfl (by decide) (by decide) (by decide) rfl rfl rfl (pa_cons (pe_op op_shrA (pv 0) pe_int) (pa_cons (pe_ix ix_seq (pe_gcn rfl C.c_BOXES) (pe_op op_andA (pe_op op_shrA (pv 0) pe_int) pe_int) (fun _ _ => rfl)) (pa_cons (pe_op op_andA (pv 0) pe_int) pa_nil))) (by rfl))
      (pss_cons (ps_if (pt_cmpR op_ltA (pv 0) (pe_callB call_lenA (by rfl) B.b_len (by decide +kernel) (pa_cons (pe_glob rfl C.c_ALONE rfl) pa_nil)) (nomark _))
      (pss_one (ps_ret (pe_tup (pa_cons (pe_ix ix_seq (pe_glob rfl C.c_ALONE rfl) (pv 0) (fun _ _ => rfl)) pa_nil))))
      pss_nil)
      (pss_cons (ps_if (pt_cmpR (op_eqA hr.units) (pv 1) (pe_gcn rfl C.c_SINGLES) (nomark _))
      (pss_one (ps_ret (pe_tup (pa_cons (pe_ix ix_seq (pe_glob rfl C.c_SINGLE rfl) (pv 3) (fun _ _ => rfl)) (pa_cons (pv 2) pa_nil)))))
      pss_nil)
      (pss_cons (ps_if (pt_cmpR op_inKD (pv 1) (pe_glob rfl C.c_WORDS_OF_PAIRS rfl) rfl)
      (pss_one (ps_ret (pe_tup (pa_cons (pe_ix ix_KD (pe_glob rfl C.c_WORDS_OF_PAIRS rfl) (pv 1) (fun _ _ => rfl)) (pa_cons (pv 2) (pa_cons (pe_ix ix_seq (pe_gcn rfl C.c_BOXES) (pv 3) (fun _ _ => rfl)) pa_nil))))))
      pss_nil)
      (pss_one (ps_ret pe_non)))))), pure_short_row F.o.mach h⟩

theorem sc_long_row : FnScope N_long_row ["first", "n"] (defScope s_long_row) := ⟨rfl, rfl, rfl, by decide +kernel, rfl, by decide +kernel, by decide +kernel⟩
theorem cl_long_row (B : Bl mg) (C : Cn K mg) (F : K22F K w) {f : Addr} {fd : FuncData} (D : FnP K "long_row" s_long_row f fd) (hm : mg "long_row" = some (.ref f)) (hb : Binds K fd ["first", "n"] []) : Cl P w K mg base 1 "long_row" (sp_long_row K w) :=
  cl_of D hm hb sc_long_row (fun vs H Q E h => len_long_row h) fun cdv A outer s H vs Q E hr h => ⟨t_long_row K w, PSs.nox (pss_cons (ps_par3 (i := 2) (j := 3) (l := 4) (by rfl) sc_long_row.nd rfl rfl rfl (by decide) (by decide) (by decide) rfl rfl rfl (pa_cons (pe_op op_shrA (pv 0) pe_int) (pa_cons (pe_ix ix_seq (pe_gcn rfl C.c_BOXES) (pe_op op_andA (pe_op op_shrA (pv 0) pe_int) pe_int) (fun _ _ => rfl)) (pa_cons (pe_op op_andA (pv 0) pe_int) pa_nil))) (by rfl))
      (pss_cons (ps_if (PW.pt (pw_and (pt_cmpR (op_eqA hr.units) (pv 2) (pe_gcn rfl C.c_JUMPS) (nomark _)) (pw_and1 (pt_cmpR op_ltA (pv 4) (pe_callB call_lenA (by rfl) B.b_len (by decide +kernel) (pa_cons (pe_glob rfl C.c_TARGETS rfl) pa_nil)) (nomark _)))))
      (pss_one (ps_ret (pe_tup (pa_cons (pe_ix ix_seq (pe_glob rfl C.c_TARGETS rfl) (pv 4) (fun _ _ => rfl)) (pa_cons (pv 1) pa_nil)))))
      pss_nil)
      (pss_cons (ps_if (PW.pt (pw_and (pt_cmpR op_inKD (pv 2) (pe_glob rfl C.c_WORDS_OF_NUMBERED rfl) rfl) (pw_and1 (pt_cmpR (op_eqA hr.units) (pe_op op_andA (pv 4) pe_int) pe_int (nomark _)))))
      (pss_one (ps_ret (pe_tup (pa_cons (pe_ix ix_KD (pe_glob rfl C.c_WORDS_OF_NUMBERED rfl) (pv 2) (fun _ _ => rfl)) (pa_cons (pv 3) (pa_cons (pv 1) pa_nil))))))
      pss_nil)
      (pss_one (ps_ret pe_non))))), pure_long_row F.o.mach h⟩

theorem sc_row_at : FnScope N_row_at ["code", "address"] (defScope s_row_at) := ⟨rfl, rfl, rfl, by decide +kernel, rfl, by decide +kernel, by decide +kernel⟩
theorem cl_row_at (B : Bl mg) (C : Cn K mg) (F : K22F K w) (c_short_row : Cl P w K mg base 1 "short_row" (sp_short_row K w)) (c_long_row : Cl P w K mg base 1 "long_row" (sp_long_row K w)) {f : Addr} {fd : FuncData} (D : FnP K "row_at" s_row_at f fd) (hm : mg "row_at" = some (.ref f)) (hb : Binds K fd ["code", "address"] []) : Cl P w K mg base 2 "row_at" (sp_row_at K w) :=
  cl_of D hm hb sc_row_at (fun vs H Q E h => len_row_at h) fun cdv A outer s H vs Q E hr h => ⟨t_row_at K w, PSs.nox (pss_cons (ps_if (pt_not (pt_chain op_leA op_ltA pe_int (pv 1) (pe_callB call_lenA (by rfl) B.b_len (by decide +kernel) (pa_cons (pv 0) pa_nil))))
      (pss_one (ps_ret pe_non))
      pss_nil)
      (pss_cons (ps_set (i := 2) sc_row_at.nd rfl (.inl rfl) (pe_cl c_short_row hr (by decide) rfl (pa_cons (pe_ix ix_seq (pv 0) (pv 1) (fun _ _ => rfl)) pa_nil)))
      (pss_cons (ps_if (pt_cmpR op_notN1 (pv 2) pe_non (nomark _))
      (pss_one (ps_ret (pe_tup (pa_cons (pv 2) (pa_cons pe_int pa_nil)))))
      pss_nil)
      (pss_cons (ps_set (i := 2) sc_row_at.nd rfl (.inl rfl) (pe_ifExp (pt_cmpR op_ltA (pe_op op_addA (pv 1) pe_int) (pe_callB call_lenA (by rfl) B.b_len (by decide +kernel) (pa_cons (pv 0) pa_nil)) (nomark _)) (pe_cl c_long_row hr (by decide) rfl (pa_cons (pe_ix ix_seq (pv 0) (pv 1) (fun _ _ => rfl)) (pa_cons (pe_ix ix_seq (pv 0) (pe_op op_addA (pv 1) pe_int) (fun _ _ => rfl)) pa_nil))) pe_non))
      (pss_one (ps_ret (pe_ifExp (pt_cmpR op_notN1 (pv 2) pe_non (nomark _)) (pe_tup (pa_cons (pv 2) (pa_cons pe_int pa_nil))) pe_non))))))), pure_row_at F.o.mach h⟩

theorem sc_Old_init : FnScope N_Old_init ["self", "inputs"] (defScope s_Old_init) := ⟨rfl, rfl, rfl, by decide +kernel, rfl, by decide +kernel, by decide +kernel⟩
theorem fo_Old_init (B : Bl mg) (C : Cn K mg) (F : K22F K w) {f : Addr} {fd : FuncData} {dvs : List V} {kws : List (Str × V)} (D : FunD K "__init__" "Old.__init__" (defArgs s_Old_init) (defBody s_Old_init) (defScope s_Old_init) dvs kws f fd) : FnOk P w K mg base CX0 1 f fd ["self", "inputs"] (sp_Old_init K w) :=
  fo_of D sc_Old_init (fun vs H Q E h => len_Old_init h) fun cdv A outer s H vs Q E hr h => ⟨t_Old_init K w, PSs.nox (pss_cons (ps_fld (pv 0) (pe_dc (own := [("box", 2)]) (g := (gName 2)) rfl sc_Old_init.nd (pi_str (pe_gcn rfl C.c_BOXES)) (blkOk_by (by kernel_rfl)) (fun _ _ _ _ _ => (pg_name (i := 2) sc_Old_init.nd rfl (.inl rfl))) (fun _ _ _ _ _ => pts_nil) (fun _ _ _ _ _ => (pv 2)) (fun _ _ _ _ _ => pe_int)) rfl)
      (pss_cons (ps_fld (pv 0) (pe_op op_mulA (pe_lst (pa_cons pe_int pa_nil)) (pe_gcn rfl C.c_CELLS)) rfl)
      (pss_cons (ps_fld (pv 0) pe_bl rfl)
      (pss_cons (ps_fld (pv 0) pe_bl rfl)
      (pss_cons (ps_fld (pv 0) (pe_lst pa_nil) rfl)
      (pss_cons (ps_fld (pv 0) (pe_lst pa_nil) rfl)
      (pss_cons (ps_fld (pv 0) (pe_callTy call_listA (by rfl) B.b_list (by decide +kernel) (pa_cons (pv 1) pa_nil)) rfl)
      (pss_cons (ps_fld (pv 0) (pe_lst pa_nil) rfl)
      (pss_cons (ps_fld (pv 0) pe_int rfl)
      (pss_one (ps_fld (pv 0) pe_non rfl))))))))))), pure_Old_init F.o.old h⟩

theorem sc_Old_marks : FnScope N_Old_marks ["self", "zero", "less"] (defScope s_Old_marks) := ⟨rfl, rfl, rfl, by decide +kernel, rfl, by decide +kernel, by decide +kernel⟩
theorem fo_Old_marks (B : Bl mg) (C : Cn K mg) (F : K22F K w) {f : Addr} {fd : FuncData} {dvs : List V} {kws : List (Str × V)} (D : FunD K "marks" "Old.marks" (defArgs s_Old_marks) (defBody s_Old_marks) (defScope s_Old_marks) dvs kws f fd) : FnOk P w K mg base CX0 1 f fd ["self", "zero", "less"] (sp_Old_marks K w) :=
  fo_of D sc_Old_marks (fun vs H Q E h => len_Old_marks h) fun cdv A outer s H vs Q E hr h => ⟨t_Old_marks K w, PSs.nox (pss_cons (ps_fld (pv 0) (pv 1) rfl)
      (pss_one (ps_fld (pv 0) (pv 2) rfl))), pure_Old_marks F.o.old h⟩

theorem sc_done_alone : FnScope N_done_alone ["old", "row"] (defScope s_done_alone) := ⟨rfl, rfl, rfl, by decide +kernel, rfl, by decide +kernel, by decide +kernel⟩
theorem cl_done_alone (B : Bl mg) (C : Cn K mg) (F : K22F K w) {f : Addr} {fd : FuncData} (D : FnP K "done_alone" s_done_alone f fd) (hm : mg "done_alone" = some (.ref f)) (hb : Binds K fd ["old", "row"] []) : Cl P w K mg base 1 "done_alone" (sp_done_alone K w) :=
  cl_of D hm hb sc_done_alone (fun vs H Q E h => len_done_alone h) fun cdv A outer s H vs Q E hr h => ⟨t_done_alone K w, PSs.nox (pss_one (ps_if (pt_cmpR (op_eqA hr.units) (pe_ix ix_seq (pv 1) pe_int (fun _ _ => rfl)) pe_str (nomark _))
      (pss_one (ps_fld (pv 0) pe_str rfl))
      (pss_one (ps_if (PW.pt (pw_and (pt_cmpR (op_eqA hr.units) (pe_ix ix_seq (pv 1) pe_int (fun _ _ => rfl)) pe_str (nomark _)) (pw_and1 (pt_cmpR (op_eqA hr.units) (pe_fld (pv 0) rfl) (pe_lst pa_nil) (nomark _)))))
      (pss_one (ps_fld (pv 0) pe_str rfl))
      (pss_one (ps_if (pt_cmpR (op_eqA hr.units) (pe_ix ix_seq (pv 1) pe_int (fun _ _ => rfl)) pe_str (nomark _))
      (pss_one (ps_fld (pv 0) (pe_bm0 PySem.F.plainAttrs_list PySem.F.slot_list_pop PySem.F.type_list_pop mt_pop (pe_fld (pv 0) rfl)) rfl))
      pss_nil)))))), pure_done_alone F.o.old h⟩

theorem sc_done_set : FnScope N_done_set ["old", "row"] (defScope s_done_set) := ⟨rfl, rfl, rfl, by decide +kernel, rfl, by decide +kernel, by decide +kernel⟩
theorem cl_done_set (B : Bl mg) (C : Cn K mg) (F : K22F K w) {f : Addr} {fd : FuncData} (D : FnP K "done_set" s_done_set f fd) (hm : mg "done_set" = some (.ref f)) (hb : Binds K fd ["old", "row"] []) : Cl P w K mg base 1 "done_set" (sp_done_set K w) :=
  cl_of D hm hb sc_done_set (fun vs H Q E h => len_done_set h) fun cdv A outer s H vs Q E hr h => ⟨t_done_set K w, PSs.nox (pss_cons (ps_asg (pv 1) (pg_tup rfl (pgs_cons (pg_name (i := 2) sc_done_set.nd rfl (.inl rfl)) (pgs_cons (pg_name (i := 3) sc_done_set.nd rfl (.inl rfl)) (pgs_cons (pg_name (i := 4) sc_done_set.nd rfl (.inl rfl)) pgs_nil)))))
      (pss_one (ps_dput (hu_of hr) (pe_fld (pv 0) rfl) (pv 3) (pe_ifExp (pt_cmpR (op_eqA hr.units) (pv 2) pe_str (nomark _)) (pv 4) (pe_dget (hu_of hr) (pe_fld (pv 0) rfl) (pv 4) (fun _ _ => rfl))) rfl))), pure_done_set F.o.old h⟩

theorem sc_done_sum : FnScope N_done_sum ["old", "row"] (defScope s_done_sum) := ⟨rfl, rfl, rfl, by decide +kernel, rfl, by decide +kernel, by decide +kernel⟩
theorem cl_done_sum (B : Bl mg) (C : Cn K mg) (F : K22F K w) (m_Old_marks : ClM P w K mg base 1 (He.ga K "Old") "marks" (sp_Old_marks K w)) {f : Addr} {fd : FuncData} (D : FnP K "done_sum" s_done_sum f fd) (hm : mg "done_sum" = some (.ref f)) (hb : Binds K fd ["old", "row"] []) : Cl P w K mg base 2 "done_sum" (sp_done_sum K w) :=
  cl_of D hm hb sc_done_sum (fun vs H Q E h => len_done_sum h) fun cdv A outer s H vs Q E hr h => ⟨t_done_sum K w, PSs.nox (pss_cons (ps_asg (pv 1) (pg_tup rfl (pgs_cons (pg_name (i := 2) sc_done_sum.nd rfl (.inl rfl)) (pgs_cons (pg_name (i := 3) sc_done_sum.nd rfl (.inl rfl)) (pgs_cons (pg_name (i := 4) sc_done_sum.nd rfl (.inl rfl)) pgs_nil)))))
      (pss_cons (ps_set (i := 5) sc_done_sum.nd rfl (.inl rfl) (pe_ifExp (pt_cmpR (op_eqA hr.units) (pv 2) pe_str (nomark _)) (pe_op op_addA (pe_dget (hu_of hr) (pe_fld (pv 0) rfl) (pv 3) (fun _ _ => rfl)) (pe_dget (hu_of hr) (pe_fld (pv 0) rfl) (pv 4) (fun _ _ => rfl))) (pe_op op_subA (pe_dget (hu_of hr) (pe_fld (pv 0) rfl) (pv 3) (fun _ _ => rfl)) (pe_dget (hu_of hr) (pe_fld (pv 0) rfl) (pv 4) (fun _ _ => rfl)))))
      (pss_cons (ps_dput (hu_of hr) (pe_fld (pv 0) rfl) (pv 3) (pe_op op_modA (pv 5) (pe_gcn rfl C.c_BYTES)) rfl)
      (pss_one (ps_expr (pe_clm m_Old_marks hr (by decide) (pv 0) (pa_cons (pe_cmpR (op_eqA hr.units) (pe_op op_modA (pv 5) (pe_gcn rfl C.c_BYTES)) pe_int (nomark _)) (pa_cons (pe_not (pe_chain op_leA op_ltA pe_int (pv 5) (pe_gcn rfl C.c_BYTES))) pa_nil)))))))), pure_done_sum F.o.old h⟩

theorem sc_done_bits : FnScope N_done_bits ["old", "row"] (defScope s_done_bits) := ⟨rfl, rfl, rfl, by decide +kernel, rfl, by decide +kernel, by decide +kernel⟩
theorem cl_done_bits (B : Bl mg) (C : Cn K mg) (F : K22F K w) (m_Old_marks : ClM P w K mg base 1 (He.ga K "Old") "marks" (sp_Old_marks K w)) {f : Addr} {fd : FuncData} (D : FnP K "done_bits" s_done_bits f fd) (hm : mg "done_bits" = some (.ref f)) (hb : Binds K fd ["old", "row"] []) : Cl P w K mg base 2 "done_bits" (sp_done_bits K w) :=
  cl_of D hm hb sc_done_bits (fun vs H Q E h => len_done_bits h) fun cdv A outer s H vs Q E hr h => ⟨t_done_bits K w, PSs.nox (pss_cons (ps_asg (pv 1) (pg_tup rfl (pgs_cons (pg_name (i := 2) sc_done_bits.nd rfl (.inl rfl)) (pgs_cons (pg_name (i := 3) sc_done_bits.nd rfl (.inl rfl)) (pgs_cons (pg_name (i := 4) sc_done_bits.nd rfl (.inl rfl)) pgs_nil)))))
      (pss_cons (ps_par (i := 5) (j := 6) (by rfl) sc_done_bits.nd rfl rfl (by decide) rfl rfl (pa_cons (pe_dget (hu_of hr) (pe_fld (pv 0) rfl) (pv 3) (fun _ _ => rfl)) (pa_cons (pe_dget (hu_of hr) (pe_fld (pv 0) rfl) (pv 4) (fun _ _ => rfl)) pa_nil)) (by rfl))
      (pss_cons (ps_dput (hu_of hr) (pe_fld (pv 0) rfl) (pv 3) (pe_dget (hu_of hr) (pe_disp (pps_cons pe_str (pe_op op_andA (pv 5) (pv 6)) (pps_cons pe_str (pe_op op_orA (pv 5) (pv 6)) (pps_cons pe_str (pe_op op_xorA (pv 5) (pv 6)) pps_nil))) (by rfl) (by rfl) (fun z => by cases z) (by decide)) (pv 2) (fun _ _ => rfl)) rfl)
      (pss_one (ps_expr (pe_clm m_Old_marks hr (by decide) (pv 0) (pa_cons (pe_cmpR (op_eqA hr.units) (pe_dget (hu_of hr) (pe_fld (pv 0) rfl) (pv 3) (fun _ _ => rfl)) pe_int (nomark _)) (pa_cons pe_bl pa_nil)))))))), pure_done_bits F.o.old h⟩

theorem sc_done_test : FnScope N_done_test ["old", "row"] (defScope s_done_test) := ⟨rfl, rfl, rfl, by decide +kernel, rfl, by decide +kernel, by decide +kernel⟩
theorem cl_done_test (B : Bl mg) (C : Cn K mg) (F : K22F K w) (m_Old_marks : ClM P w K mg base 1 (He.ga K "Old") "marks" (sp_Old_marks K w)) {f : Addr} {fd : FuncData} (D : FnP K "done_test" s_done_test f fd) (hm : mg "done_test" = some (.ref f)) (hb : Binds K fd ["old", "row"] []) : Cl P w K mg base 2 "done_test" (sp_done_test K w) :=
  cl_of D hm hb sc_done_test (fun vs H Q E h => len_done_test h) fun cdv A outer s H vs Q E hr h => ⟨t_done_test K w, PSs.nox (pss_cons (ps_asg (pv 1) (pg_tup rfl (pgs_cons (pg_name (i := 2) sc_done_test.nd rfl (.inl rfl)) (pgs_cons (pg_name (i := 3) sc_done_test.nd rfl (.inl rfl)) (pgs_cons (pg_name (i := 4) sc_done_test.nd rfl (.inl rfl)) pgs_nil)))))
      (pss_cons (ps_set (i := 5) sc_done_test.nd rfl (.inl rfl) (pe_ifExp (pt_cmpR (op_eqA hr.units) (pv 2) pe_str (nomark _)) (pe_dget (hu_of hr) (pe_fld (pv 0) rfl) (pv 4) (fun _ _ => rfl)) (pv 4)))
      (pss_one (ps_expr (pe_clm m_Old_marks hr (by decide) (pv 0) (pa_cons (pe_cmpR (op_eqA hr.units) (pe_dget (hu_of hr) (pe_fld (pv 0) rfl) (pv 3) (fun _ _ => rfl)) (pv 5) (nomark _)) (pa_cons (pe_cmpR op_ltA (pe_dget (hu_of hr) (pe_fld (pv 0) rfl) (pv 3) (fun _ _ => rfl)) (pv 5) (nomark _)) pa_nil))))))), pure_done_test F.o.old h⟩

theorem sc_done_load : FnScope N_done_load ["old", "row"] (defScope s_done_load) := ⟨rfl, rfl, rfl, by decide +kernel, rfl, by decide +kernel, by decide +kernel⟩
theorem cl_done_load (B : Bl mg) (C : Cn K mg) (F : K22F K w) {f : Addr} {fd : FuncData} (D : FnP K "done_load" s_done_load f fd) (hm : mg "done_load" = some (.ref f)) (hb : Binds K fd ["old", "row"] []) : Cl P w K mg base 1 "done_load" (sp_done_load K w) :=
  cl_of D hm hb sc_done_load (fun vs H Q E h => len_done_load h) fun cdv A outer s H vs Q E hr h => ⟨t_done_load K w, PSs.nox (pss_cons (ps_asg (pv 1) (pg_tup rfl (pgs_cons (pg_name (i := 2) sc_done_load.nd rfl (.inl rfl)) (pgs_cons (pg_name (i := 3) sc_done_load.nd rfl (.inl rfl)) (pgs_cons (pg_name (i := 4) sc_done_load.nd rfl (.inl rfl)) pgs_nil)))))
      (pss_one (ps_dput (hu_of hr) (pe_fld (pv 0) rfl) (pv 3) (pe_ix ix_seq (pe_fld (pv 0) rfl) (pe_op op_modA (pe_ifExp (pt_cmpR (op_eqA hr.units) (pv 2) pe_str (nomark _)) (pe_dget (hu_of hr) (pe_fld (pv 0) rfl) (pv 4) (fun _ _ => rfl)) (pv 4)) (pe_gcn rfl C.c_CELLS)) (fun _ _ => rfl)) rfl))), pure_done_load F.o.old h⟩

theorem sc_done_store : FnScope N_done_store ["old", "row"] (defScope s_done_store) := ⟨rfl, rfl, rfl, by decide +kernel, rfl, by decide +kernel, by decide +kernel⟩
theorem cl_done_store (B : Bl mg) (C : Cn K mg) (F : K22F K w) {f : Addr} {fd : FuncData} (D : FnP K "done_store" s_done_store f fd) (hm : mg "done_store" = some (.ref f)) (hb : Binds K fd ["old", "row"] []) : Cl P w K mg base 1 "done_store" (sp_done_store K w) :=
  cl_of D hm hb sc_done_store (fun vs H Q E h => len_done_store h) fun cdv A outer s H vs Q E hr h => ⟨t_done_store K w, PSs.nox (pss_cons (ps_asg (pv 1) (pg_tup rfl (pgs_cons (pg_name (i := 2) sc_done_store.nd rfl (.inl rfl)) (pgs_cons (pg_name (i := 3) sc_done_store.nd rfl (.inl rfl)) (pgs_cons (pg_name (i := 4) sc_done_store.nd rfl (.inl rfl)) pgs_nil)))))
      (pss_one (ps_if (pt_cmpR (op_eqA hr.units) (pv 2) pe_str (nomark _))
      (pss_one (ps_asg (pe_dget (hu_of hr) (pe_fld (pv 0) rfl) (pv 4) (fun _ _ => rfl)) (pg_sub (pe_fld (pv 0) rfl) (pe_op op_modA (pe_dget (hu_of hr) (pe_fld (pv 0) rfl) (pv 3) (fun _ _ => rfl)) (pe_gcn rfl C.c_CELLS)) set_list)))
      (pss_one (ps_asg (pe_dget (hu_of hr) (pe_fld (pv 0) rfl) (pv 3) (fun _ _ => rfl)) (pg_sub (pe_fld (pv 0) rfl) (pe_op op_modA (pv 4) (pe_gcn rfl C.c_CELLS)) set_list)))))), pure_done_store F.o.old h⟩

theorem sc_done_go : FnScope N_done_go ["old", "row"] (defScope s_done_go) := ⟨rfl, rfl, rfl, by decide +kernel, rfl, by decide +kernel, by decide +kernel⟩
theorem cl_done_go (B : Bl mg) (C : Cn K mg) (F : K22F K w) {f : Addr} {fd : FuncData} (D : FnP K "done_go" s_done_go f fd) (hm : mg "done_go" = some (.ref f)) (hb : Binds K fd ["old", "row"] []) : Cl P w K mg base 1 "done_go" (sp_done_go K w) :=
  cl_of D hm hb sc_done_go (fun vs H Q E h => len_done_go h) fun cdv A outer s H vs Q E hr h => ⟨t_done_go K w, PSs.nox (pss_cons (ps_asg (pv 1) (pg_tup rfl (pgs_cons (pg_name (i := 2) sc_done_go.nd rfl (.inl rfl)) (pgs_cons (pg_name (i := 3) sc_done_go.nd rfl (.inl rfl)) pgs_nil))))
      (pss_cons (ps_set (i := 4) sc_done_go.nd rfl (.inl rfl) (pe_disp (pps_cons pe_str pe_bl (pps_cons pe_str (pe_fld (pv 0) rfl) (pps_cons pe_str (pe_not (pe_fld (pv 0) rfl)) (pps_cons pe_str (pe_fld (pv 0) rfl) (pps_cons pe_str (pe_not (pe_fld (pv 0) rfl)) pps_nil))))) (by rfl) (by rfl) (fun z => by cases z) (by decide)))
      (pss_one (ps_if (pt_val (pe_dget (hu_of hr) (pv 4) (pv 2) (fun _ _ => rfl)) (by intro _; rfl))
      (pss_one (ps_fld (pv 0) (pv 3) rfl))
      pss_nil)))), pure_done_go F.o.old h⟩

theorem sc_done_call : FnScope N_done_call ["old", "row"] (defScope s_done_call) := ⟨rfl, rfl, rfl, by decide +kernel, rfl, by decide +kernel, by decide +kernel⟩
theorem cl_done_call (B : Bl mg) (C : Cn K mg) (F : K22F K w) {f : Addr} {fd : FuncData} (D : FnP K "done_call" s_done_call f fd) (hm : mg "done_call" = some (.ref f)) (hb : Binds K fd ["old", "row"] []) : Cl P w K mg base 1 "done_call" (sp_done_call K w) :=
  cl_of D hm hb sc_done_call (fun vs H Q E h => len_done_call h) fun cdv A outer s H vs Q E hr h => ⟨t_done_call K w, PSs.nox (pss_one (ps_if (pt_cmpR (op_eqA hr.units) (pe_callB call_lenA (by rfl) B.b_len (by decide +kernel) (pa_cons (pe_fld (pv 0) rfl) pa_nil)) (pe_gcn rfl C.c_MOST_KEPT) (nomark _))
      (pss_one (ps_fld (pv 0) pe_str rfl))
      (pss_cons (ps_expr (pe_bm PySem.F.plainAttrs_list PySem.F.slot_list_append PySem.F.type_list_append mt_append (pe_fld (pv 0) rfl) (pa_cons (pe_fld (pv 0) rfl) pa_nil)))
      (pss_one (ps_fld (pv 0) (pe_ix ix_seq (pv 1) pe_int (fun _ _ => rfl)) rfl))))), pure_done_call F.o.old h⟩

theorem sc_done_in : FnScope N_done_in ["old", "row"] (defScope s_done_in) := ⟨rfl, rfl, rfl, by decide +kernel, rfl, by decide +kernel, by decide +kernel⟩
theorem cl_done_in (B : Bl mg) (C : Cn K mg) (F : K22F K w) {f : Addr} {fd : FuncData} (D : FnP K "done_in" s_done_in f fd) (hm : mg "done_in" = some (.ref f)) (hb : Binds K fd ["old", "row"] []) : Cl P w K mg base 1 "done_in" (sp_done_in K w) :=
  cl_of D hm hb sc_done_in (fun vs H Q E h => len_done_in h) fun cdv A outer s H vs Q E hr h => ⟨t_done_in K w, PSs.nox (pss_one (ps_dput (hu_of hr) (pe_fld (pv 0) rfl) (pe_ix ix_seq (pv 1) pe_int (fun _ _ => rfl)) (pe_ifExp (pt_cmpR (op_neA hr.units) (pe_fld (pv 0) rfl) (pe_lst pa_nil) (nomark _)) (pe_bm PySem.F.plainAttrs_list PySem.F.slot_list_pop PySem.F.type_list_pop mt_popAt (pe_fld (pv 0) rfl) (pa_cons pe_int pa_nil)) pe_int) rfl)), pure_done_in F.o.old h⟩

theorem sc_done_out : FnScope N_done_out ["old", "row"] (defScope s_done_out) := ⟨rfl, rfl, rfl, by decide +kernel, rfl, by decide +kernel, by decide +kernel⟩
theorem cl_done_out (B : Bl mg) (C : Cn K mg) (F : K22F K w) {f : Addr} {fd : FuncData} (D : FnP K "done_out" s_done_out f fd) (hm : mg "done_out" = some (.ref f)) (hb : Binds K fd ["old", "row"] []) : Cl P w K mg base 1 "done_out" (sp_done_out K w) :=
  cl_of D hm hb sc_done_out (fun vs H Q E h => len_done_out h) fun cdv A outer s H vs Q E hr h => ⟨t_done_out K w, PSs.nox (pss_one (ps_expr (pe_bm PySem.F.plainAttrs_list PySem.F.slot_list_append PySem.F.type_list_append mt_append (pe_fld (pv 0) rfl) (pa_cons (pe_dget (hu_of hr) (pe_fld (pv 0) rfl) (pe_ix ix_seq (pv 1) pe_int (fun _ _ => rfl)) (fun _ _ => rfl)) pa_nil)))), pure_done_out F.o.old h⟩

theorem sc_done_keep : FnScope N_done_keep ["old", "row"] (defScope s_done_keep) := ⟨rfl, rfl, rfl, by decide +kernel, rfl, by decide +kernel, by decide +kernel⟩
theorem cl_done_keep (B : Bl mg) (C : Cn K mg) (F : K22F K w) {f : Addr} {fd : FuncData} (D : FnP K "done_keep" s_done_keep f fd) (hm : mg "done_keep" = some (.ref f)) (hb : Binds K fd ["old", "row"] []) : Cl P w K mg base 1 "done_keep" (sp_done_keep K w) :=
  cl_of D hm hb sc_done_keep (fun vs H Q E h => len_done_keep h) fun cdv A outer s H vs Q E hr h => ⟨t_done_keep K w, PSs.nox (pss_one (ps_if (pt_cmpR (op_eqA hr.units) (pe_callB call_lenA (by rfl) B.b_len (by decide +kernel) (pa_cons (pe_fld (pv 0) rfl) pa_nil)) (pe_gcn rfl C.c_MOST_KEPT) (nomark _))
      (pss_one (ps_fld (pv 0) pe_str rfl))
      (pss_one (ps_expr (pe_bm PySem.F.plainAttrs_list PySem.F.slot_list_append PySem.F.type_list_append mt_append (pe_fld (pv 0) rfl) (pa_cons (pe_dget (hu_of hr) (pe_fld (pv 0) rfl) (pe_ix ix_seq (pv 1) pe_int (fun _ _ => rfl)) (fun _ _ => rfl)) pa_nil)))))), pure_done_keep F.o.old h⟩

theorem sc_done_take : FnScope N_done_take ["old", "row"] (defScope s_done_take) := ⟨rfl, rfl, rfl, by decide +kernel, rfl, by decide +kernel, by decide +kernel⟩
theorem cl_done_take (B : Bl mg) (C : Cn K mg) (F : K22F K w) {f : Addr} {fd : FuncData} (D : FnP K "done_take" s_done_take f fd) (hm : mg "done_take" = some (.ref f)) (hb : Binds K fd ["old", "row"] []) : Cl P w K mg base 1 "done_take" (sp_done_take K w) :=
  cl_of D hm hb sc_done_take (fun vs H Q E h => len_done_take h) fun cdv A outer s H vs Q E hr h => ⟨t_done_take K w, PSs.nox (pss_one (ps_if (pt_cmpR (op_eqA hr.units) (pe_fld (pv 0) rfl) (pe_lst pa_nil) (nomark _))
      (pss_one (ps_fld (pv 0) pe_str rfl))
      (pss_one (ps_dput (hu_of hr) (pe_fld (pv 0) rfl) (pe_ix ix_seq (pv 1) pe_int (fun _ _ => rfl)) (pe_bm0 PySem.F.plainAttrs_list PySem.F.slot_list_pop PySem.F.type_list_pop mt_pop (pe_fld (pv 0) rfl)) rfl)))), pure_done_take F.o.old h⟩

theorem sc_whole_run : FnScope N_whole_run ["code", "inputs", "steps"] (defScope s_whole_run) := ⟨rfl, rfl, rfl, by decide +kernel, rfl, by decide +kernel, by decide +kernel⟩
theorem cl_whole_run (B : Bl mg) (C : Cn K mg) (F : K22F K w) (c_row_at : Cl P w K mg base 2 "row_at" (sp_row_at K w)) (mk_Old : ClK P w K mg base 1 "Old" (He.ga K "Old") (sp_Old_init K w)) (c_dd : ∀ nm sp, DD K w nm = some sp → Cl P w K mg base 2 nm sp ∧ mg nm = some (.ref (He.ga K nm))) {f : Addr} {fd : FuncData} (D : FnP K "whole_run" s_whole_run f fd) (hm : mg "whole_run" = some (.ref f)) (hb : Binds K fd ["code", "inputs", "steps"] []) : Cl P w K mg base 3 "whole_run" (sp_whole_run K w) :=
  cl_of D hm hb sc_whole_run (fun vs H Q E h => len_whole_run h) fun cdv A outer s H vs Q E hr h => ⟨t_whole_run K w, PSs.nox (pss_cons (ps_set (i := 3) sc_whole_run.nd rfl (.inl rfl) (pe_clk mk_Old hr (by decide) rfl (pa_cons (pv 1) pa_nil)))
      (pss_cons (ps_set (i := 4) sc_whole_run.nd rfl (.inl rfl) (pe_lst pa_nil))
      (pss_cons (ps_while PassesOwn.never (pt_cmpR op_isN1 (pe_fld (pv 3) rfl) pe_non (nomark _))
      (pss_cons (ps_expr (pe_bm PySem.F.plainAttrs_list PySem.F.slot_list_append PySem.F.type_list_append mt_append (pv 4) (pa_cons (pe_fld (pv 3) rfl) pa_nil)))
      (pss_cons (ps_set (i := 5) sc_whole_run.nd rfl (.inl rfl) (pe_cl c_row_at hr (by decide) rfl (pa_cons (pv 0) (pa_cons (pe_fld (pv 3) rfl) pa_nil))))
      (pss_one (ps_if (pt_cmpR op_gtA (pe_callB call_lenA (by rfl) B.b_len (by decide +kernel) (pa_cons (pv 4) pa_nil)) (pv 2) (nomark _))
      (pss_one (ps_fld (pv 3) pe_str rfl))
      (pss_one (ps_if (pt_cmpR op_isN1 (pv 5) pe_non (nomark _))
      (pss_one (ps_fld (pv 3) pe_str rfl))
      (pss_cons (ps_asg (pv 5) (pg_tup rfl (pgs_cons (pg_name (i := 6) sc_whole_run.nd rfl (.inl rfl)) (pgs_cons (pg_name (i := 7) sc_whole_run.nd rfl (.inl rfl)) pgs_nil))))
      (pss_cons (ps_fldaug (pv 3) (pv 7) in_add)
      (pss_cons (ps_set (i := 8) sc_whole_run.nd rfl (.inl rfl) (pe_ix ix_KD (pe_glob rfl C.c_DOERS rfl) (pe_ix ix_seq (pv 6) pe_int (fun _ _ => rfl)) (fun _ _ => rfl)))
      (pss_one (ps_expr (pe_callD c_dd hr (by decide) rfl (.inl rfl) (pa_cons (pv 3) (pa_cons (pv 6) pa_nil)))))))))))))))
      (pss_one (ps_ret (pe_tup (pa_cons (pv 3) (pa_cons (pv 4) pa_nil)))))))), pure_whole_run F.o.old F.o.doers h⟩

theorem sc_traced : FnScope N_traced ["code", "inputs", "steps"] (defScope s_traced) := ⟨rfl, rfl, rfl, by decide +kernel, rfl, by decide +kernel, by decide +kernel⟩
theorem fo_traced (B : Bl mg) (C : Cn K mg) (F : K22F K w) (c_whole_run : Cl P w K mg base 3 "whole_run" (sp_whole_run K w)) {f : Addr} {fd : FuncData} {dvs : List V} {kws : List (Str × V)} (D : FunD K "traced" "traced" (defArgs s_traced) (defBody s_traced) (defScope s_traced) dvs kws f fd) : FnOk P w K mg base CX0 4 f fd ["code", "inputs", "steps"] (sp_traced K w) :=
  fo_of D sc_traced (fun vs H Q E h => len_traced h) fun cdv A outer s H vs Q E hr h => ⟨t_traced K w, PSs.nox (pss_cons (ps_asg (pe_cl c_whole_run hr (by decide) rfl (pa_cons (pv 0) (pa_cons (pv 1) (pa_cons (pv 2) pa_nil)))) (pg_tup rfl (pgs_cons (pg_name (i := 3) sc_traced.nd rfl (.inl rfl)) (pgs_cons (pg_name (i := 4) sc_traced.nd rfl (.inl rfl)) pgs_nil))))
      (pss_one (ps_ret (pv 4)))), pure_traced  h⟩

theorem sc_behind_and_target : FnScope N_behind_and_target ["code", "address"] (defScope s_behind_and_target) := ⟨rfl, rfl, rfl, by decide +kernel, rfl, by decide +kernel, by decide +kernel⟩
theorem cl_behind_and_target (B : Bl mg) (C : Cn K mg) (F : K22F K w) (c_row_at : Cl P w K mg base 2 "row_at" (sp_row_at K w)) {f : Addr} {fd : FuncData} (D : FnP K "behind_and_target" s_behind_and_target f fd) (hm : mg "behind_and_target" = some (.ref f)) (hb : Binds K fd ["code", "address"] []) : Cl P w K mg base 3 "behind_and_target" (sp_behind_and_target K w) :=
  cl_of D hm hb sc_behind_and_target (fun vs H Q E h => len_behind_and_target h) fun cdv A outer s H vs Q E hr h => ⟨t_behind_and_target K w, PSs.nox (pss_cons (ps_set (i := 2) sc_behind_and_target.nd rfl (.inl rfl) (pe_cl c_row_at hr (by decide) rfl (pa_cons (pv 0) (pa_cons (pv 1) pa_nil))))
      (pss_cons (ps_if (pt_cmpR op_isN1 (pv 2) pe_non (nomark _))
      (pss_one (ps_ret (pe_tup (pa_cons pe_non (pa_cons pe_non pa_nil)))))
      pss_nil)
      (pss_cons (ps_asg (pv 2) (pg_tup rfl (pgs_cons (pg_name (i := 3) sc_behind_and_target.nd rfl (.inl rfl)) (pgs_cons (pg_name (i := 4) sc_behind_and_target.nd rfl (.inl rfl)) pgs_nil))))
      (pss_cons (ps_set (i := 5) sc_behind_and_target.nd rfl (.inl rfl) (pe_ifExp (pt_cmpR op_in_seq (pe_ix ix_seq (pv 3) pe_int (fun _ _ => rfl)) (pe_glob rfl C.c_ENDS rfl) rfl) pe_non (pe_op op_addA (pv 1) (pv 4))))
      (pss_one (ps_ret (pe_tup (pa_cons (pv 5) (pa_cons (pe_ifExp (pt_cmpR op_in_seq (pe_ix ix_seq (pv 3) pe_int (fun _ _ => rfl)) (pe_glob rfl C.c_TARGETS rfl) rfl) (pe_ix ix_seq (pv 3) pe_int (fun _ _ => rfl)) pe_non) pa_nil))))))))), pure_behind_and_target ⟨F.o.mach, F.ends⟩ h⟩

theorem sc_is_call : FnScope N_is_call ["code", "address"] (defScope s_is_call) := ⟨rfl, rfl, rfl, by decide +kernel, rfl, by decide +kernel, by decide +kernel⟩
theorem cl_is_call (B : Bl mg) (C : Cn K mg) (F : K22F K w) (c_row_at : Cl P w K mg base 2 "row_at" (sp_row_at K w)) {f : Addr} {fd : FuncData} (D : FnP K "is_call" s_is_call f fd) (hm : mg "is_call" = some (.ref f)) (hb : Binds K fd ["code", "address"] []) : Cl P w K mg base 3 "is_call" (sp_is_call K w) :=
  cl_of D hm hb sc_is_call (fun vs H Q E h => len_is_call h) fun cdv A outer s H vs Q E hr h => ⟨t_is_call K w, PSs.nox (pss_cons (ps_set (i := 2) sc_is_call.nd rfl (.inl rfl) (pe_cl c_row_at hr (by decide) rfl (pa_cons (pv 0) (pa_cons (pv 1) pa_nil))))
      (pss_one (ps_ret (L2.pe_and (pe_cmpR op_notN1 (pv 2) pe_non (nomark _)) (pe_one (pe_cmpR (op_eqA hr.units) (pe_ix ix_seq (pe_ix ix_seq (pv 2) pe_int (fun _ _ => rfl)) pe_int (fun _ _ => rfl)) pe_str (nomark _))))))), pure_is_call F h⟩

theorem sc_goes_on : FnScope N_goes_on ["code", "address"] (defScope s_goes_on) := ⟨rfl, rfl, rfl, by decide +kernel, rfl, by decide +kernel, by decide +kernel⟩
theorem cl_goes_on (B : Bl mg) (C : Cn K mg) (F : K22F K w) (c_behind_and_target : Cl P w K mg base 3 "behind_and_target" (sp_behind_and_target K w)) (c_is_call : Cl P w K mg base 3 "is_call" (sp_is_call K w)) {f : Addr} {fd : FuncData} (D : FnP K "goes_on" s_goes_on f fd) (hm : mg "goes_on" = some (.ref f)) (hb : Binds K fd ["code", "address"] []) : Cl P w K mg base 4 "goes_on" (sp_goes_on K w) :=
  cl_of D hm hb sc_goes_on (fun vs H Q E h => len_goes_on h) fun cdv A outer s H vs Q E hr h => ⟨t_goes_on K w, PSs.nox (pss_cons (ps_asg (pe_cl c_behind_and_target hr (by decide) rfl (pa_cons (pv 0) (pa_cons (pv 1) pa_nil))) (pg_tup rfl (pgs_cons (pg_name (i := 2) sc_goes_on.nd rfl (.inl rfl)) (pgs_cons (pg_name (i := 3) sc_goes_on.nd rfl (.inl rfl)) pgs_nil))))
      (pss_cons (ps_if (pt_val (pe_cl c_is_call hr (by decide) rfl (pa_cons (pv 0) (pa_cons (pv 1) pa_nil))) (by intro _; rfl))
      (pss_one (ps_set (i := 3) sc_goes_on.nd rfl (.inl rfl) pe_non))
      pss_nil)
      (pss_one (ps_ret (pe_callB (cr_sortedSet rfl) (by rfl) B.b_sorted (by decide +kernel) (pa_cons (pe_scI (own := [("place", 4)]) (g := (gName 4)) rfl sc_goes_on.nd (pi_seq (pe_tup (pa_cons (pv 2) (pa_cons (pv 3) pa_nil)))) (blkOk_by (by kernel_rfl)) (fun _ _ _ _ _ => (pg_name (i := 4) sc_goes_on.nd rfl (.inl rfl))) (fun _ _ _ _ _ => (pts_one (pt_cmpR op_notN1 (pv 4) pe_non (nomark _)))) (fun _ _ _ _ _ => (pv 4))) pa_nil)))))), pure_goes_on F h⟩

theorem sc_found_places_onward : NScope N_found_places_onward ["address"] ["code"] (C8.fnScope on_found_places) := nscope_by (by decide +kernel)
theorem nok_found_places_onward (B : Bl mg) (C : Cn K mg) (F : K22F K w) (c_behind_and_target : Cl P w K mg base 3 "behind_and_target" (sp_behind_and_target K w)) (f : Addr) (cl : List (Str × Addr)) (c2 : Addr) : NOk P w K mg base CX0 4 f (NF.of on_found_places "onward" on_q_found_places cl c2) ["address"] ["code"] (spCap (sp_found_places_onward K w)) :=
  nok_of sc_found_places_onward (fun doc pm ctv us hl => match us, hl with | [_], _ => rfl) (fun ws vs H Q E h => len_on h) fun A outer s H vs ws Q E hr hf hc hw h => ⟨t_found_places_onward K w, PSs.nox (pss_one (ps_ret (pe_lc (own := [("place", 2)]) (g := (gName 2)) rfl sc_found_places_onward.nd (pi_seq (pe_cl c_behind_and_target hr (by decide) rfl (pa_cons (pv 1) (pa_cons (pv 0) pa_nil)))) (blkOk_by (by kernel_rfl)) (fun _ _ _ _ _ => (pg_name (i := 2) sc_found_places_onward.nd rfl (.inl rfl))) (fun _ _ _ _ _ => (pts_one (pt_cmpR op_notN1 (pv 2) pe_non (nomark _)))) (fun _ _ _ _ _ => (pv 2))))), pure_found_places_onward F h⟩

theorem sc_parts_of_onward : NScope N_parts_of_onward ["address"] ["code"] (C8.fnScope on_parts_of) := nscope_by (by decide +kernel)
theorem nok_parts_of_onward (B : Bl mg) (C : Cn K mg) (F : K22F K w) (c_goes_on : Cl P w K mg base 4 "goes_on" (sp_goes_on K w)) (f : Addr) (cl : List (Str × Addr)) (c2 : Addr) : NOk P w K mg base CX0 5 f (NF.of on_parts_of "onward" on_q_parts_of cl c2) ["address"] ["code"] (spCap (sp_parts_of_onward K w)) :=
  nok_of sc_parts_of_onward (fun doc pm ctv us hl => match us, hl with | [_], _ => rfl) (fun ws vs H Q E h => len_on h) fun A outer s H vs ws Q E hr hf hc hw h => ⟨t_parts_of_onward K w, PSs.nox (pss_one (ps_ret (pe_cl c_goes_on hr (by decide) rfl (pa_cons (pv 1) (pa_cons (pv 0) pa_nil))))), pure_parts_of_onward F h⟩

theorem sc_all_from : FnScope N_all_from ["first", "onward"] (defScope s_all_from) := ⟨rfl, rfl, rfl, by decide +kernel, rfl, by decide +kernel, by decide +kernel⟩
theorem cl_all_from (B : Bl mg) (C : Cn K mg) (F : K22F K w) (c_on : ∀ (f : Addr) (F : NF) (sp : Addr → Sp), OnP K F sp → NOk P w K mg base CX0 5 f F ["address"] ["code"] (spCap sp)) {f : Addr} {fd : FuncData} (D : FnP K "all_from" s_all_from f fd) (hm : mg "all_from" = some (.ref f)) (hb : Binds K fd ["first", "onward"] []) : Cl P w K mg base 6 "all_from" (sp_all_from K w) :=
  cl_of D hm hb sc_all_from (fun vs H Q E h => len_all_from h) fun cdv A outer s H vs Q E hr h => ⟨t_all_from K w, PSs.nox (pss_cons (ps_set (i := 2) sc_all_from.nd rfl (.inl rfl) (pe_disp (pps_cons (pv 0) pe_bl pps_nil) (by rfl) (by rfl) (fun z => by cases z) (by decide)))
      (pss_cons (ps_set (i := 3) sc_all_from.nd rfl (.inl rfl) (pe_lst (pa_cons (pv 0) pa_nil)))
      (pss_cons (ps_while PassesOwn.never (pt_cmpR (op_neA hr.units) (pv 3) (pe_lst pa_nil) (nomark _))
      (pss_one (ps_for PassesOwn.never rfl (pi_seq (pe_callH c_on hr (by decide) rfl (.inl rfl) (pa_cons (pe_bm0 PySem.F.plainAttrs_list PySem.F.slot_list_pop PySem.F.type_list_pop mt_pop (pv 3)) pa_nil))) (pg_name (i := 4) sc_all_from.nd rfl (.inl rfl))
      (pss_one (ps_if (pt_cmp (pc_dnotin (hu_of hr) (pv 4) (pv 2)) rfl)
      (pss_cons (ps_dput (hu_of hr) (pv 2) (pv 4) pe_bl rfl)
      (pss_one (ps_expr (pe_bm PySem.F.plainAttrs_list PySem.F.slot_list_append PySem.F.type_list_append mt_append (pv 3) (pa_cons (pv 4) pa_nil)))))
      pss_nil)))))
      (pss_one (ps_ret (pe_callB (cr_sortedD rfl) (by rfl) B.b_sorted (by decide +kernel) (pa_cons (pv 2) pa_nil))))))), pure_all_from F h⟩

theorem sc_found_places : FnScope N_found_places ["code"] (defScope s_found_places) := ⟨rfl, rfl, rfl, by decide +kernel, rfl, by decide +kernel, by decide +kernel⟩
theorem cl_found_places (B : Bl mg) (C : Cn K mg) (F : K22F K w) (c_all_from : Cl P w K mg base 6 "all_from" (sp_all_from K w)) (tb_found_places : TabB base mg (He.cT K ("found_places", none)).1 (nt_P_found_places K)) {fd : FuncData} (D : FnP K "found_places" s_found_places (He.fAd K ("found_places", none)) fd) (hm : mg "found_places" = some (.ref (He.fAd K ("found_places", none)))) (hb : Binds K fd ["code"] []) : Cl P w K mg base 7 "found_places" (sp_found_places K w) :=
  cl_ofC D hm hb sc_found_places (fun vs H Q E h => len_found_places h) fun A outer s H vs Q E hr h => ⟨t_found_places K w (s.heap.objs.size + 1), PSs.nox (pss_cons (ps_ndefW (i := 1) (T := NT K) (q := on_q_found_places) (cl := [("code", s.heap.objs.size + 1)]) rfl (by kernel_rfl) rfl tb_found_places rfl (nt_mem_found_places K) rfl (nt_one K) (by kernel_rfl) rfl rfl rfl sc_found_places.nd rfl (.inl rfl) (.inl rfl))
      (pss_one (ps_ret (pe_callC c_all_from hr (by decide) rfl (j := 0) rfl rfl rfl (Nat.lt_succ_self _) (pa_cons pe_int (pa_cons (pv 1) pa_nil)))))), pure_found_places F _ h⟩

theorem sc_found_rows : FnScope N_found_rows ["code"] (defScope s_found_rows) := ⟨rfl, rfl, rfl, by decide +kernel, rfl, by decide +kernel, by decide +kernel⟩
theorem cl_found_rows (B : Bl mg) (C : Cn K mg) (F : K22F K w) (c_found_places : Cl P w K mg base 7 "found_places" (sp_found_places K w)) (c_row_at : Cl P w K mg base 2 "row_at" (sp_row_at K w)) {f : Addr} {fd : FuncData} (D : FnP K "found_rows" s_found_rows f fd) (hm : mg "found_rows" = some (.ref f)) (hb : Binds K fd ["code"] []) : Cl P w K mg base 8 "found_rows" (sp_found_rows K w) :=
  cl_of D hm hb sc_found_rows (fun vs H Q E h => len_found_rows h) fun cdv A outer s H vs Q E hr h => ⟨t_found_rows K w, PSs.nox (pss_cons (ps_setLc (i := 1) (own := [("address", 2)]) (g := (gName 2)) rfl sc_found_rows.nd rfl rfl (sw_true rfl rfl rfl (by decide +kernel)) (pi_seq (pe_cl c_found_places hr (by decide) rfl (pa_cons (pv 0) pa_nil))) (blkOk_by (by kernel_rfl)) (fun _ _ _ _ _ => (pg_name (i := 2) sc_found_rows.nd rfl (.inl rfl))) (fun _ _ _ _ _ => pts_nil) (fun _ _ _ _ _ => (pe_tup (pa_cons (pv 2) (pa_cons (pe_cl c_row_at hr (by decide) rfl (pa_cons (pv 0) (pa_cons (pv 2) pa_nil))) pa_nil)))))
      (pss_one (ps_ret (pe_lc (own := [("address", 2), ("row", 3)]) (g := (gTup K 2 (gCons (gName 2) (gCons (gName 3) gNil)))) rfl sc_found_rows.nd (pi_seq (pv 1)) (blkOk_by (by kernel_rfl)) (fun _ _ _ _ _ => (pg_tup rfl (pgs_cons (pg_name (i := 2) sc_found_rows.nd rfl (.inl rfl)) (pgs_cons (pg_name (i := 3) sc_found_rows.nd rfl (.inl rfl)) pgs_nil)))) (fun _ _ _ _ _ => pts_nil) (fun _ _ _ _ _ => (pe_tup (pa_cons (pv 2) (pa_cons (pe_ifExp (pt_cmpR op_isN1 (pv 3) pe_non (nomark _)) pe_non (pe_ix ix_seq (pv 3) pe_int (fun _ _ => rfl))) pa_nil)))))))), pure_found_rows F h⟩

theorem sc_lost_bytes : FnScope N_lost_bytes ["code"] (defScope s_lost_bytes) := ⟨rfl, rfl, rfl, by decide +kernel, rfl, by decide +kernel, by decide +kernel⟩
theorem cl_lost_bytes (B : Bl mg) (C : Cn K mg) (F : K22F K w) (c_found_places : Cl P w K mg base 7 "found_places" (sp_found_places K w)) (c_row_at : Cl P w K mg base 2 "row_at" (sp_row_at K w)) {f : Addr} {fd : FuncData} (D : FnP K "lost_bytes" s_lost_bytes f fd) (hm : mg "lost_bytes" = some (.ref f)) (hb : Binds K fd ["code"] []) : Cl P w K mg base 8 "lost_bytes" (sp_lost_bytes K w) :=
  cl_of D hm hb sc_lost_bytes (fun vs H Q E h => len_lost_bytes h) fun cdv A outer s H vs Q E hr h => ⟨t_lost_bytes K w, PSs.nox (pss_cons (ps_set (i := 1) sc_lost_bytes.nd rfl (.inr rfl) pe_dnewK)
      (pss_cons (ps_for PassesOwn.never rfl (pi_seq (pe_cl c_found_places hr (by decide) rfl (pa_cons (pv 0) pa_nil))) (pg_name (i := 2) sc_lost_bytes.nd rfl (.inr rfl))
      (pss_cons (ps_set (i := 3) sc_lost_bytes.nd rfl (.inl rfl) (pe_cl c_row_at hr (by decide) rfl (pa_cons (pv 0) (pa_cons (pv 2) pa_nil))))
      (pss_one (ps_if (pt_cmpR op_notN1 (pv 3) pe_non (nomark _))
      (pss_one (ps_expr (pe_bm PySem.F.plainAttrs_dict PySem.F.slot_dict_update PySem.F.type_dict_update mt_update (pv 1) (pa_cons (pe_dc (own := [("k", 4)]) (g := (gName 4)) rfl sc_lost_bytes.nd (pi_range1 rfl B.b_range (pa_cons (pe_ix ix_seq (pv 3) pe_int (fun _ _ => rfl)) pa_nil)) (blkOk_by (by kernel_rfl)) (fun _ _ _ _ _ => (pg_name (i := 4) sc_lost_bytes.nd rfl (.inl rfl))) (fun _ _ _ _ _ => pts_nil) (fun _ _ _ _ _ => (pe_op op_addA (pv 2) (pv 4))) (fun _ _ _ _ _ => pe_bl)) pa_nil))))
      pss_nil))))
      (pss_one (ps_ret (pe_lc (own := [("address", 2)]) (g := (gName 2)) rfl sc_lost_bytes.nd (pi_range1 rfl B.b_range (pa_cons (pe_callB call_lenA (by rfl) B.b_len (by decide +kernel) (pa_cons (pv 0) pa_nil)) pa_nil)) (blkOk_by (by kernel_rfl)) (fun _ _ _ _ _ => (pg_name (i := 2) sc_lost_bytes.nd rfl (.inl rfl))) (fun _ _ _ _ _ => (pts_one (pt_cmp (pc_dnotin (hu_of hr) (pv 2) (pv 1)) rfl))) (fun _ _ _ _ _ => (pv 2))))))), pure_lost_bytes F h⟩

theorem sc_parts_of : FnScope N_parts_of ["code"] (defScope s_parts_of) := ⟨rfl, rfl, rfl, by decide +kernel, rfl, by decide +kernel, by decide +kernel⟩
theorem cl_parts_of (B : Bl mg) (C : Cn K mg) (F : K22F K w) (c_found_places : Cl P w K mg base 7 "found_places" (sp_found_places K w)) (c_is_call : Cl P w K mg base 3 "is_call" (sp_is_call K w)) (c_behind_and_target : Cl P w K mg base 3 "behind_and_target" (sp_behind_and_target K w)) (c_all_from : Cl P w K mg base 6 "all_from" (sp_all_from K w)) (tb_parts_of : TabB base mg (He.cT K ("parts_of", none)).1 (nt_P_parts_of K)) {fd : FuncData} (D : FnP K "parts_of" s_parts_of (He.fAd K ("parts_of", none)) fd) (hm : mg "parts_of" = some (.ref (He.fAd K ("parts_of", none)))) (hb : Binds K fd ["code"] []) : Cl P w K mg base 8 "parts_of" (sp_parts_of K w) :=
  cl_ofC D hm hb sc_parts_of (fun vs H Q E h => len_parts_of h) fun A outer s H vs Q E hr h => ⟨t_parts_of K w (s.heap.objs.size + 1) (refOf vs), PSs.nox (pss_cons (ps_set (i := 1) sc_parts_of.nd rfl (.inl rfl) (pe_disp (pps_cons pe_int pe_bl pps_nil) (by rfl) (by rfl) (fun z => by cases z) (by decide)))
      (pss_cons (ps_for PassesOwn.never rfl (pi_seq (pe_cl c_found_places hr (by decide) rfl (pa_cons (pv 0) pa_nil))) (pg_name (i := 2) sc_parts_of.nd rfl (.inl rfl))
      (pss_one (ps_if (pt_val (pe_cl c_is_call hr (by decide) rfl (pa_cons (pv 0) (pa_cons (pv 2) pa_nil))) (by intro _; rfl))
      (pss_cons (ps_asg (pe_cl c_behind_and_target hr (by decide) rfl (pa_cons (pv 0) (pa_cons (pv 2) pa_nil))) (pg_tup rfl (pgs_cons (pg_name (i := 3) sc_parts_of.nd rfl (.inl rfl)) (pgs_cons (pg_name (i := 4) sc_parts_of.nd rfl (.inl rfl)) pgs_nil))))
      (pss_one (ps_dput (hu_of hr) (pv 1) (pv 4) pe_bl rfl)))
      pss_nil)))
      (pss_cons (ps_ndefW (i := 5) (T := NT K) (q := on_q_parts_of) (cl := [("code", s.heap.objs.size + 1)]) rfl (by kernel_rfl) rfl tb_parts_of rfl (nt_mem_parts_of K) rfl (nt_one K) (by kernel_rfl) rfl rfl rfl sc_parts_of.nd rfl (.inr rfl) (.inl rfl))
      (pss_one (ps_ret (pe_lcS (j := 0) (a := refOf vs) (own := [("entry", 6)]) (g := (gName 6)) rfl sc_parts_of.nd (pi_seq (pe_callB (cr_sortedD rfl) (by rfl) B.b_sorted (by decide +kernel) (pa_cons (pv 1) pa_nil))) (blkOk_by (by kernel_rfl)) (fun _ _ _ _ _ => (pg_name (i := 6) sc_parts_of.nd rfl (.inl rfl))) (fun _ _ _ _ _ => pts_nil) (fun _ _ _ _ _ starts => (pe_tup (pa_cons (pv 6) (pa_cons (pe_callB' starts c_all_from hr (by decide) rfl rfl rfl rfl (Nat.lt_succ_self _) (pa_cons (pv 6) (pa_cons (pv 5) pa_nil))) pa_nil)))))))))), pure_parts_of F _ h⟩

theorem sc_law_reel : FnScope N_law_reel ["_law_script"] (defScope s_law_reel) := ⟨rfl, rfl, rfl, by decide +kernel, rfl, by decide +kernel, by decide +kernel⟩
theorem cl_law_reel (B : Bl mg) (C : Cn K mg) (F : K22F K w) {f : Addr} {fd : FuncData} (D : FnP K "_law_reel" s_law_reel f fd) (hm : mg "_law_reel" = some (.ref f)) (hb : Binds K fd ["_law_script"] []) : Cl P w K mg base 1 "_law_reel" (sp_law_reel K w) :=
  cl_of D hm hb sc_law_reel (fun vs H Q E h => len_law_reel h) fun cdv A outer s H vs Q E hr h => ⟨t_law_reel K w, PSs.nox (pss_cons (ps_set (i := 1) sc_law_reel.nd rfl (.inl rfl) (pe_op op_powA pe_int pe_int))
      (pss_cons (ps_for PassesOwn.never rfl (pi_seq (pe_slice sl_A (pv 0) po_none (po_some pe_int))) (pg_name (i := 2) sc_law_reel.nd rfl (.inl rfl))
      (pss_one (ps_set (i := 1) sc_law_reel.nd rfl (.inl rfl) (pe_op op_modA (pe_op op_addA (pe_op op_addA (pe_op op_mulA (pv 1) (pv 1)) (pe_op op_modA (pv 2) pe_int)) pe_int) (pe_op op_subA (pe_op op_mulA (pe_op op_powA pe_int pe_int) (pe_op op_powA pe_int pe_int)) pe_int)))))
      (pss_cons (ps_setLc (i := 3) (own := [("_law_cell", 2)]) (g := (gName 2)) rfl sc_law_reel.nd rfl rfl (sw_true rfl rfl rfl (by decide +kernel)) (pi_seq (pe_slice sl_A (pv 0) po_none (po_some pe_int))) (blkOk_by (by kernel_rfl)) (fun _ _ _ _ _ => (pg_name (i := 2) sc_law_reel.nd rfl (.inl rfl))) (fun _ _ _ _ _ => (pts_one (pt_cmpR op_geA (pv 2) (pe_op op_powA pe_int pe_int) (nomark _)))) (fun _ _ _ _ _ => (pe_op op_subA (pv 2) (pe_op op_powA pe_int pe_int))))
      (pss_one (ps_ret (pe_lst (pa_cons (pv 3) (pa_cons (pe_op op_addA (pe_lc (own := [("_law_cell", 2)]) (g := (gName 2)) rfl sc_law_reel.nd (pi_seq (pe_slice sl_A (pv 0) po_none (po_some pe_int))) (blkOk_by (by kernel_rfl)) (fun _ _ _ _ _ => (pg_name (i := 2) sc_law_reel.nd rfl (.inl rfl))) (fun _ _ _ _ _ => pts_nil) (fun _ _ _ _ _ => (pe_op op_modA (pv 2) pe_int))) (pe_lst (pa_cons pe_int pa_nil))) (pa_cons pe_int (pa_cons (pv 1) pa_nil)))))))))), pure_law_reel F h⟩

theorem sc_law_draw : FnScope N_law_draw ["_law_reel_here", "_law_many"] (defScope s_law_draw) := ⟨rfl, rfl, rfl, by decide +kernel, rfl, by decide +kernel, by decide +kernel⟩
theorem cl_law_draw (B : Bl mg) (C : Cn K mg) (F : K22F K w) {f : Addr} {fd : FuncData} (D : FnP K "_law_draw" s_law_draw f fd) (hm : mg "_law_draw" = some (.ref f)) (hb : Binds K fd ["_law_reel_here", "_law_many"] []) : Cl P w K mg base 1 "_law_draw" (sp_law_draw K w) :=
  cl_of D hm hb sc_law_draw (fun vs H Q E h => len_law_draw h) fun cdv A outer s H vs Q E hr h => ⟨t_law_draw K w, PSs.nox (pss_cons (ps_if (pt_cmpR (op_neA hr.units) (pe_ix ix_seq (pv 0) pe_int (fun _ _ => rfl)) (pe_lst pa_nil) (nomark _))
      (pss_cons (ps_set (i := 2) sc_law_draw.nd rfl (.inl rfl) (pe_ix ix_seq (pe_ix ix_seq (pv 0) pe_int (fun _ _ => rfl)) pe_int (fun _ _ => rfl)))
      (pss_cons (ps_asg (pe_op op_addA (pe_op op_mulA (pe_lst (pa_cons (pe_op op_divA (pv 2) (pv 1)) pa_nil)) (pe_callTy call_intA (by rfl) B.b_int (by decide +kernel) (pa_cons (pe_cmpR op_geA (pv 2) (pv 1) (nomark _)) pa_nil))) (pe_slice sl_A (pe_ix ix_seq (pv 0) pe_int (fun _ _ => rfl)) (po_some pe_int) po_none)) (pg_sub (pv 0) pe_int set_list))
      (pss_one (ps_ret (pe_op op_modA (pv 2) (pv 1))))))
      pss_nil)
      (pss_cons (ps_asg (pe_op op_addA (pe_ix ix_seq (pv 0) pe_int (fun _ _ => rfl)) pe_int) (pg_sub (pv 0) pe_int set_list))
      (pss_cons (ps_set (i := 3) sc_law_draw.nd rfl (.inl rfl) (pe_ix ix_seq (pe_ix ix_seq (pv 0) pe_int (fun _ _ => rfl)) (pe_op op_modA (pe_ix ix_seq (pv 0) pe_int (fun _ _ => rfl)) (pe_callB call_lenA (by rfl) B.b_len (by decide +kernel) (pa_cons (pe_ix ix_seq (pv 0) pe_int (fun _ _ => rfl)) pa_nil))) (fun _ _ => rfl)))
      (pss_cons (ps_set (i := 4) sc_law_draw.nd rfl (.inl rfl) (pe_op op_addA (pe_op op_addA (pe_op op_mulA (pe_ix ix_seq (pv 0) pe_int (fun _ _ => rfl)) (pe_ix ix_seq (pv 0) pe_int (fun _ _ => rfl))) (pe_op op_mulA (pe_op op_addA (pv 3) pe_int) pe_int)) (pe_op op_mulA (pe_ix ix_seq (pv 0) pe_int (fun _ _ => rfl)) pe_int)))
      (pss_cons (ps_asg (pe_op op_modA (pv 4) (pe_op op_subA (pe_op op_mulA (pe_op op_powA pe_int pe_int) (pe_op op_powA pe_int pe_int)) pe_int)) (pg_sub (pv 0) pe_int set_list))
      (pss_one (ps_ret (pe_op op_modA (pe_op op_divA (pe_ix ix_seq (pv 0) pe_int (fun _ _ => rfl)) (pe_op op_powA pe_int pe_int)) (pv 1))))))))), pure_law_draw F h⟩

theorem sc_law_any_row : FnScope N_law_any_row ["_law_reel_here", "_law_kind"] (defScope s_law_any_row) := ⟨rfl, rfl, rfl, by decide +kernel, rfl, by decide +kernel, by decide +kernel⟩
theorem cl_law_any_row (B : Bl mg) (C : Cn K mg) (F : K22F K w) (c_law_draw : Cl P w K mg base 1 "_law_draw" (sp_law_draw K w)) {f : Addr} {fd : FuncData} (D : FnP K "_law_any_row" s_law_any_row f fd) (hm : mg "_law_any_row" = some (.ref f)) (hb : Binds K fd ["_law_reel_here", "_law_kind"] []) : Cl P w K mg base 2 "_law_any_row" (sp_law_any_row K w) :=
  cl_of D hm hb sc_law_any_row (fun vs H Q E h => len_law_any_row h) fun cdv A outer s H vs Q E hr h => ⟨t_law_any_row K w, PSs.nox (pss_cons (ps_set (i := 2) sc_law_any_row.nd rfl (.inl rfl) (pe_lst (pa_cons pe_int (pa_cons pe_int (pa_cons pe_int (pa_cons pe_int (pa_cons pe_int (pa_cons pe_int (pa_cons pe_int (pa_cons pe_int (pa_cons pe_int pa_nil)))))))))))
      (pss_cons (ps_set (i := 3) sc_law_any_row.nd rfl (.inl rfl) (pe_lst (pa_cons pe_int (pa_cons pe_int (pa_cons pe_int (pa_cons pe_int (pa_cons pe_int (pa_cons pe_int (pa_cons pe_int (pa_cons pe_int pa_nil))))))))))
      (pss_cons (ps_set (i := 4) sc_law_any_row.nd rfl (.inl rfl) (pe_lst (pa_cons pe_int (pa_cons pe_int (pa_cons pe_int (pa_cons pe_int (pa_cons pe_int pa_nil)))))))
      (pss_cons (ps_set (i := 5) sc_law_any_row.nd rfl (.inl rfl) (pe_lst (pa_cons pe_int (pa_cons pe_int (pa_cons pe_int (pa_cons pe_int (pa_cons pe_int (pa_cons pe_int (pa_cons pe_int pa_nil)))))))))
      (pss_cons (ps_set (i := 6) sc_law_any_row.nd rfl (.inl rfl) (pe_ix ix_seq (pe_ix ix_seq (pe_lst (pa_cons (pv 2) (pa_cons (pv 3) (pa_cons (pv 4) (pa_cons (pv 5) pa_nil))))) (pv 1) (fun _ _ => rfl)) (pe_cl c_law_draw hr (by decide) rfl (pa_cons (pv 0) (pa_cons (pe_ix ix_seq (pe_lst (pa_cons pe_int (pa_cons pe_int (pa_cons pe_int (pa_cons pe_int pa_nil))))) (pv 1) (fun _ _ => rfl)) pa_nil))) (fun _ _ => rfl)))
      (pss_cons (ps_set (i := 7) sc_law_any_row.nd rfl (.inl rfl) (pe_op op_mulA pe_int (pe_cl c_law_draw hr (by decide) rfl (pa_cons (pv 0) (pa_cons pe_int pa_nil)))))
      (pss_cons (ps_if (pt_cmpR op_in_seq (pv 6) (pe_lst (pa_cons pe_int (pa_cons pe_int (pa_cons pe_int (pa_cons pe_int (pa_cons pe_int (pa_cons pe_int (pa_cons pe_int (pa_cons pe_int pa_nil))))))))) rfl)
      (pss_one (ps_ret (pe_ifExp (pt_cmpR op_ltA (pv 6) pe_int (nomark _)) (pe_lst (pa_cons (pv 6) pa_nil)) (pe_lst (pa_cons (pv 6) (pa_cons pe_int pa_nil))))))
      pss_nil)
      (pss_cons (ps_if (pt_cmpR op_in_seq (pv 6) (pe_lst (pa_cons pe_int (pa_cons pe_int (pa_cons pe_int (pa_cons pe_int pa_nil))))) rfl)
      (pss_one (ps_ret (pe_lst (pa_cons (pe_op op_addA (pv 6) (pv 7)) (pa_cons (pe_ix ix_seq (pe_lst (pa_cons (pe_cl c_law_draw hr (by decide) rfl (pa_cons (pv 0) (pa_cons pe_int pa_nil))) (pa_cons (pe_cl c_law_draw hr (by decide) rfl (pa_cons (pv 0) (pa_cons pe_int pa_nil))) pa_nil))) (pe_cl c_law_draw hr (by decide) rfl (pa_cons (pv 0) (pa_cons pe_int pa_nil))) (fun _ _ => rfl)) pa_nil)))))
      pss_nil)
      (pss_cons (ps_if (pt_cmpR op_geA (pv 6) pe_int (nomark _))
      (pss_one (ps_ret (pe_lst (pa_cons (pe_op op_addA (pe_op op_addA pe_int (pv 7)) (pe_op op_modA (pv 6) pe_int)) pa_nil))))
      pss_nil)
      (pss_one (ps_ret (pe_lst (pa_cons (pe_op op_addA (pe_op op_addA (pv 6) (pv 7)) (pe_cl c_law_draw hr (by decide) rfl (pa_cons (pv 0) (pa_cons pe_int pa_nil)))) pa_nil))))))))))))), pure_law_any_row F h⟩

theorem sc_law_code : FnScope N_law_code ["_law_reel_here"] (defScope s_law_code) := ⟨rfl, rfl, rfl, by decide +kernel, rfl, by decide +kernel, by decide +kernel⟩
theorem cl_law_code (B : Bl mg) (C : Cn K mg) (F : K22F K w) (c_law_draw : Cl P w K mg base 1 "_law_draw" (sp_law_draw K w)) (c_law_any_row : Cl P w K mg base 2 "_law_any_row" (sp_law_any_row K w)) {f : Addr} {fd : FuncData} (D : FnP K "_law_code" s_law_code f fd) (hm : mg "_law_code" = some (.ref f)) (hb : Binds K fd ["_law_reel_here"] []) : Cl P w K mg base 3 "_law_code" (sp_law_code K w) :=
  cl_of D hm hb sc_law_code (fun vs H Q E h => len_law_code h) fun cdv A outer s H vs Q E hr h => ⟨t_law_code K w, PSs.nox (pss_cons (ps_set (i := 1) sc_law_code.nd rfl (.inl rfl) (pe_lst pa_nil))
      (pss_cons (ps_set (i := 2) sc_law_code.nd rfl (.inl rfl) (pe_ix ix_seq (pe_lst (pa_cons pe_int (pa_cons pe_int (pa_cons pe_int (pa_cons pe_int (pa_cons pe_int (pa_cons pe_int pa_nil))))))) (pe_cl c_law_draw hr (by decide) rfl (pa_cons (pv 0) (pa_cons pe_int pa_nil))) (fun _ _ => rfl)))
      (pss_cons (ps_for PassesOwn.never rfl (pi_range1 rfl B.b_range (pa_cons (pe_op op_addA pe_int (pe_cl c_law_draw hr (by decide) rfl (pa_cons (pv 0) (pa_cons (pv 2) pa_nil)))) pa_nil)) (pg_name (i := 3) sc_law_code.nd rfl (.inl rfl))
      (pss_one (ps_expr (pe_bm PySem.F.plainAttrs_list PySem.F.slot_list_append PySem.F.type_list_append mt_append (pv 1) (pa_cons (pe_cl c_law_any_row hr (by decide) rfl (pa_cons (pv 0) (pa_cons (pe_ix ix_seq (pe_lst (pa_cons pe_int (pa_cons pe_int (pa_cons pe_int (pa_cons pe_int (pa_cons pe_int (pa_cons pe_int pa_nil))))))) (pe_cl c_law_draw hr (by decide) rfl (pa_cons (pv 0) (pa_cons pe_int pa_nil))) (fun _ _ => rfl)) pa_nil))) pa_nil)))))
      (pss_cons (ps_set (i := 1) sc_law_code.nd rfl (.inl rfl) (pe_op op_addA (pv 1) (pe_op op_mulA (pe_lst (pa_cons (pe_lst (pa_cons pe_int pa_nil)) pa_nil)) (pe_callTy call_intA (by rfl) B.b_int (by decide +kernel) (pa_cons (pe_cmpR op_gtA (pe_cl c_law_draw hr (by decide) rfl (pa_cons (pv 0) (pa_cons pe_int pa_nil))) pe_int (nomark _)) pa_nil)))))
      (pss_cons (ps_set (i := 4) sc_law_code.nd rfl (.inl rfl) (pe_lst (pa_cons pe_int pa_nil)))
      (pss_cons (ps_for PassesOwn.never rfl (pi_seq (pv 1)) (pg_name (i := 5) sc_law_code.nd rfl (.inl rfl))
      (pss_one (ps_expr (pe_bm PySem.F.plainAttrs_list PySem.F.slot_list_append PySem.F.type_list_append mt_append (pv 4) (pa_cons (pe_op op_addA (pe_ix ix_seq (pv 4) (pe_un un_neg pe_int) (fun _ _ => rfl)) (pe_callB call_lenA (by rfl) B.b_len (by decide +kernel) (pa_cons (pv 5) pa_nil))) pa_nil)))))
      (pss_cons (ps_set (i := 6) sc_law_code.nd rfl (.inl rfl) (pe_lst pa_nil))
      (pss_cons (ps_for PassesOwn.never rfl (pi_seq (pv 1)) (pg_name (i := 5) sc_law_code.nd rfl (.inl rfl))
      (pss_cons (ps_set (i := 6) sc_law_code.nd rfl (.inl rfl) (pe_op op_addA (pv 6) (pv 5)))
      (pss_one (ps_if (pt_cmpR (op_eqA hr.units) (pe_op op_divA (pe_ix ix_seq (pv 5) pe_int (fun _ _ => rfl)) pe_int) pe_int (nomark _))
      (pss_cons (ps_set (i := 7) sc_law_code.nd rfl (.inl rfl) (pe_ix ix_seq (pv 4) (pe_cl c_law_draw hr (by decide) rfl (pa_cons (pv 0) (pa_cons (pe_callB call_lenA (by rfl) B.b_len (by decide +kernel) (pa_cons (pv 4) pa_nil)) pa_nil))) (fun _ _ => rfl)))
      (pss_cons (ps_if (pt_cmpR (op_eqA hr.units) (pe_cl c_law_draw hr (by decide) rfl (pa_cons (pv 0) (pa_cons pe_int pa_nil))) pe_int (nomark _))
      (pss_one (ps_set (i := 7) sc_law_code.nd rfl (.inl rfl) (pe_ix ix_seq (pe_lst (pa_cons (pe_op op_addA (pv 7) pe_int) (pa_cons (pe_cl c_law_draw hr (by decide) rfl (pa_cons (pv 0) (pa_cons pe_int pa_nil))) (pa_cons (pe_ix ix_seq (pv 4) (pe_un un_neg pe_int) (fun _ _ => rfl)) pa_nil)))) (pe_cl c_law_draw hr (by decide) rfl (pa_cons (pv 0) (pa_cons pe_int pa_nil))) (fun _ _ => rfl))))
      pss_nil)
      (pss_one (ps_asg (pv 7) (pg_sub (pv 6) (pe_un un_neg pe_int) set_list)))))
      pss_nil))))
      (pss_cons (ps_if (pt_cmpR (op_eqA hr.units) (pe_cl c_law_draw hr (by decide) rfl (pa_cons (pv 0) (pa_cons pe_int pa_nil))) pe_int (nomark _))
      (pss_one (ps_asg (pe_cl c_law_draw hr (by decide) rfl (pa_cons (pv 0) (pa_cons pe_int pa_nil))) (pg_sub (pv 6) (pe_cl c_law_draw hr (by decide) rfl (pa_cons (pv 0) (pa_cons (pe_callB call_lenA (by rfl) B.b_len (by decide +kernel) (pa_cons (pv 6) pa_nil)) pa_nil))) set_list)))
      pss_nil)
      (pss_one (ps_ret (pv 6)))))))))))), pure_law_code F h⟩

theorem sc_law_inputs : FnScope N_law_inputs ["_law_reel_here"] (defScope s_law_inputs) := ⟨rfl, rfl, rfl, by decide +kernel, rfl, by decide +kernel, by decide +kernel⟩
theorem cl_law_inputs (B : Bl mg) (C : Cn K mg) (F : K22F K w) (c_law_draw : Cl P w K mg base 1 "_law_draw" (sp_law_draw K w)) {f : Addr} {fd : FuncData} (D : FnP K "_law_inputs" s_law_inputs f fd) (hm : mg "_law_inputs" = some (.ref f)) (hb : Binds K fd ["_law_reel_here"] []) : Cl P w K mg base 2 "_law_inputs" (sp_law_inputs K w) :=
  cl_of D hm hb sc_law_inputs (fun vs H Q E h => len_law_inputs h) fun cdv A outer s H vs Q E hr h => ⟨t_law_inputs K w, PSs.nox (pss_one (ps_ret (pe_lc (own := [("_law_k", 1)]) (g := (gName 1)) rfl sc_law_inputs.nd (pi_range1 rfl B.b_range (pa_cons (pe_cl c_law_draw hr (by decide) rfl (pa_cons (pv 0) (pa_cons pe_int pa_nil))) pa_nil)) (blkOk_by (by kernel_rfl)) (fun _ _ _ _ _ => (pg_name (i := 1) sc_law_inputs.nd rfl (.inl rfl))) (fun _ _ _ _ _ => pts_nil) (fun _ _ _ _ _ => (pe_ix ix_seq (pe_lst (pa_cons (pe_cl c_law_draw hr (by decide) rfl (pa_cons (pv 0) (pa_cons pe_int pa_nil))) (pa_cons (pe_cl c_law_draw hr (by decide) rfl (pa_cons (pv 0) (pa_cons pe_int pa_nil))) pa_nil))) (pe_cl c_law_draw hr (by decide) rfl (pa_cons (pv 0) (pa_cons pe_int pa_nil))) (fun _ _ => rfl)))))), pure_law_inputs F h⟩

theorem sc_law_blocks : FnScope N_law_blocks ["_law_reel_here"] (defScope s_law_blocks) := ⟨rfl, rfl, rfl, by decide +kernel, rfl, by decide +kernel, by decide +kernel⟩
theorem cl_law_blocks (B : Bl mg) (C : Cn K mg) (F : K22F K w) (c_law_draw : Cl P w K mg base 1 "_law_draw" (sp_law_draw K w)) {f : Addr} {fd : FuncData} (D : FnP K "_law_blocks" s_law_blocks f fd) (hm : mg "_law_blocks" = some (.ref f)) (hb : Binds K fd ["_law_reel_here"] []) : Cl P w K mg base 2 "_law_blocks" (sp_law_blocks K w) :=
  cl_of D hm hb sc_law_blocks (fun vs H Q E h => len_law_blocks h) fun cdv A outer s H vs Q E hr h => ⟨t_law_blocks K w, PSs.nox (pss_cons (ps_set (i := 1) sc_law_blocks.nd rfl (.inl rfl) (pe_op op_addA pe_int (pe_cl c_law_draw hr (by decide) rfl (pa_cons (pv 0) (pa_cons pe_int pa_nil)))))
      (pss_cons (ps_set (i := 2) sc_law_blocks.nd rfl (.inr rfl) (pe_listRg rfl rfl B.b_list (prg_1 rfl B.b_range (pv 1))))
      (pss_cons (ps_set (i := 3) sc_law_blocks.nd rfl (.inl rfl) (pe_cl c_law_draw hr (by decide) rfl (pa_cons (pv 0) (pa_cons pe_int pa_nil))))
      (pss_cons (ps_if (pt_cmpR (op_eqA hr.units) (pv 3) pe_int (nomark _))
      (pss_one (ps_set (i := 2) sc_law_blocks.nd rfl (.inr rfl) (pe_revL (pv 2))))
      pss_nil)
      (pss_cons (ps_if (pt_cmpR (op_eqA hr.units) (pv 3) pe_int (nomark _))
      (pss_one (ps_set (i := 2) sc_law_blocks.nd rfl (.inr rfl) (pe_lc (own := [("_law_k", 4)]) (g := (gName 4)) rfl sc_law_blocks.nd (pi_range1 rfl B.b_range (pa_cons (pv 1) pa_nil)) (blkOk_by (by kernel_rfl)) (fun _ _ _ _ _ => (pg_name (i := 4) sc_law_blocks.nd rfl (.inl rfl))) (fun _ _ _ _ _ => pts_nil) (fun _ _ _ _ _ => (pe_bm PySem.F.plainAttrs_list PySem.F.slot_list_pop PySem.F.type_list_pop mt_popAt (pv 2) (pa_cons (pe_cl c_law_draw hr (by decide) rfl (pa_cons (pv 0) (pa_cons (pe_callB call_lenA (by rfl) B.b_len (by decide +kernel) (pa_cons (pv 2) pa_nil)) pa_nil))) pa_nil))))))
      pss_nil)
      (pss_cons (ps_set (i := 5) sc_law_blocks.nd rfl (.inl rfl) (pe_lst pa_nil))
      (pss_cons (ps_set (i := 6) sc_law_blocks.nd rfl (.inl rfl) (pe_lst pa_nil))
      (pss_cons (ps_for PassesOwn.never rfl (pi_range1 rfl B.b_range (pa_cons (pe_op op_subA (pv 1) pe_int) pa_nil)) (pg_name (i := 4) sc_law_blocks.nd rfl (.inl rfl))
      (pss_cons (ps_set (i := 7) sc_law_blocks.nd rfl (.inl rfl) (pe_op op_mulA (pe_lst (pa_cons pe_int pa_nil)) (pe_cl c_law_draw hr (by decide) rfl (pa_cons (pv 0) (pa_cons pe_int pa_nil)))))
      (pss_cons (ps_set (i := 8) sc_law_blocks.nd rfl (.inl rfl) (pe_ix ix_seq (pe_lst (pa_cons pe_int (pa_cons pe_int (pa_cons pe_int (pa_cons pe_int pa_nil))))) (pe_cl c_law_draw hr (by decide) rfl (pa_cons (pv 0) (pa_cons pe_int pa_nil))) (fun _ _ => rfl)))
      (pss_cons (ps_expr (pe_bm PySem.F.plainAttrs_list PySem.F.slot_list_append PySem.F.type_list_append mt_append (pv 5) (pa_cons (pe_op op_addA (pe_op op_addA (pv 7) (pe_lst (pa_cons (pv 8) (pa_cons pe_int pa_nil)))) (pe_op op_mulA (pe_lst (pa_cons pe_int pa_nil)) (pe_callTy call_intA (by rfl) B.b_int (by decide +kernel) (pa_cons (pe_cmpR (op_neA hr.units) (pv 8) pe_int (nomark _)) pa_nil)))) pa_nil)))
      (pss_one (ps_expr (pe_bm PySem.F.plainAttrs_list PySem.F.slot_list_append PySem.F.type_list_append mt_append (pv 6) (pa_cons (pe_op op_addA (pe_callB call_lenA (by rfl) B.b_len (by decide +kernel) (pa_cons (pv 7) pa_nil)) pe_int) pa_nil))))))))
      (pss_cons (ps_set (i := 9) sc_law_blocks.nd rfl (.inl rfl) (pe_op op_addA pe_int (pe_callB (cr_sum rfl) (by rfl) B.b_sum (by decide +kernel) (pa_cons (pe_lc (own := [("_law_block", 10)]) (g := (gName 10)) rfl sc_law_blocks.nd (pi_seq (pv 5)) (blkOk_by (by kernel_rfl)) (fun _ _ _ _ _ => (pg_name (i := 10) sc_law_blocks.nd rfl (.inl rfl))) (fun _ _ _ _ _ => pts_nil) (fun _ _ _ _ _ => (pe_callB call_lenA (by rfl) B.b_len (by decide +kernel) (pa_cons (pv 10) pa_nil)))) pa_nil))))
      (pss_cons (ps_expr (pe_bm PySem.F.plainAttrs_list PySem.F.slot_list_append PySem.F.type_list_append mt_append (pv 5) (pa_cons (pe_op op_addA (pe_op op_mulA (pe_lst (pa_cons (pe_ix ix_seq (pe_lst (pa_cons pe_int (pa_cons pe_int pa_nil))) (pe_cl c_law_draw hr (by decide) rfl (pa_cons (pv 0) (pa_cons pe_int pa_nil))) (fun _ _ => rfl)) pa_nil)) (pe_cl c_law_draw hr (by decide) rfl (pa_cons (pv 0) (pa_cons (pe_op op_subA pe_int (pv 9)) pa_nil)))) (pe_lst (pa_cons pe_int pa_nil))) pa_nil)))
      (pss_cons (ps_set (i := 11) sc_law_blocks.nd rfl (.inl rfl) (pe_op op_mulA (pe_lst (pa_cons pe_int pa_nil)) (pv 1)))
      (pss_cons (ps_set (i := 12) sc_law_blocks.nd rfl (.inl rfl) pe_int)
      (pss_cons (ps_for PassesOwn.never rfl (pi_seq (pv 2)) (pg_name (i := 4) sc_law_blocks.nd rfl (.inl rfl))
      (pss_cons (ps_asg (pv 12) (pg_sub (pv 11) (pv 4) set_list))
      (pss_one (ps_set (i := 12) sc_law_blocks.nd rfl (.inl rfl) (pe_op op_addA (pv 12) (pe_callB call_lenA (by rfl) B.b_len (by decide +kernel) (pa_cons (pe_ix ix_seq (pv 5) (pv 4) (fun _ _ => rfl)) pa_nil)))))))
      (pss_cons (ps_for PassesOwn.never rfl (pi_range1 rfl B.b_range (pa_cons (pe_op op_subA (pv 1) pe_int) pa_nil)) (pg_name (i := 4) sc_law_blocks.nd rfl (.inl rfl))
      (pss_one (ps_asg (pe_ix ix_seq (pv 11) (pe_op op_addA (pv 4) pe_int) (fun _ _ => rfl)) (pg_sub (pe_ix ix_seq (pv 5) (pv 4) (fun _ _ => rfl)) (pe_ix ix_seq (pv 6) (pv 4) (fun _ _ => rfl)) set_list))))
      (pss_cons (ps_set (i := 13) sc_law_blocks.nd rfl (.inl rfl) (pe_lst (pa_cons pe_int (pa_cons (pe_ix ix_seq (pv 11) pe_int (fun _ _ => rfl)) pa_nil))))
      (pss_cons (ps_for PassesOwn.never rfl (pi_seq (pv 2)) (pg_name (i := 4) sc_law_blocks.nd rfl (.inl rfl))
      (pss_one (ps_set (i := 13) sc_law_blocks.nd rfl (.inl rfl) (pe_op op_addA (pv 13) (pe_ix ix_seq (pv 5) (pv 4) (fun _ _ => rfl))))))
      (pss_one (ps_ret (pv 13))))))))))))))))))), pure_law_blocks F h⟩

theorem sc_law_right : FnScope N_law_right ["_law_code_here", "_law_given"] (defScope s_law_right) := ⟨rfl, rfl, rfl, by decide +kernel, rfl, by decide +kernel, by decide +kernel⟩
theorem cl_law_right (B : Bl mg) (C : Cn K mg) (F : K22F K w) (c_found_rows : Cl P w K mg base 8 "found_rows" (sp_found_rows K w)) (c_parts_of : Cl P w K mg base 8 "parts_of" (sp_parts_of K w)) (c_lost_bytes : Cl P w K mg base 8 "lost_bytes" (sp_lost_bytes K w)) (c_row_at : Cl P w K mg base 2 "row_at" (sp_row_at K w)) (c_goes_on : Cl P w K mg base 4 "goes_on" (sp_goes_on K w)) (k_traced : ClN P w K mg base 4 "traced" 2 ["steps"] gVc (sp_traced K w)) {f : Addr} {fd : FuncData} (D : FnP K "_law_right" s_law_right f fd) (hm : mg "_law_right" = some (.ref f)) (hb : Binds K fd ["_law_code_here", "_law_given"] []) : Cl P w K mg base 9 "_law_right" (sp_law_right K w) :=
  cl_of D hm hb sc_law_right (fun vs H Q E h => len_law_right h) fun cdv A outer s H vs Q E hr h => ⟨t_law_right K w, PSs.nox (pss_cons (ps_set (i := 2) sc_law_right.nd rfl (.inl rfl) (pe_cln k_traced hr (by decide) rfl (pa_cons (pv 0) (pa_cons (pv 1) pa_nil)) (pk_cons pe_int pk_nil)))
      (pss_cons (ps_set (i := 3) sc_law_right.nd rfl (.inl rfl) (pe_callTy (call_dictPA rfl) (by rfl) B.b_dict (by decide +kernel) (pa_cons (pe_cl c_found_rows hr (by decide) rfl (pa_cons (pv 0) pa_nil)) pa_nil)))
      (pss_cons (ps_set (i := 4) sc_law_right.nd rfl (.inl rfl) (pe_callTy (call_dictPA rfl) (by rfl) B.b_dict (by decide +kernel) (pa_cons (pe_cl c_parts_of hr (by decide) rfl (pa_cons (pv 0) pa_nil)) pa_nil)))
      (pss_cons (ps_set (i := 5) sc_law_right.nd rfl (.inr rfl) (pe_cl c_lost_bytes hr (by decide) rfl (pa_cons (pv 0) pa_nil)))
      (pss_cons (ps_set (i := 6) sc_law_right.nd rfl (.inl rfl) (pe_lst pa_nil))
      (pss_cons (ps_set (i := 7) sc_law_right.nd rfl (.inl rfl) pe_int)
      (pss_cons (ps_for PassesOwn.never rfl (RZ.pi_zipA rfl B.b_zip (pa_cons (pv 2) (pa_cons (pe_op op_addA (pe_slice sl_A (pv 2) (po_some pe_int) po_none) (pe_lst (pa_cons pe_non pa_nil))) pa_nil))) (pg_tup rfl (pgs_cons (pg_name (i := 8) sc_law_right.nd rfl (.inl rfl)) (pgs_cons (pg_name (i := 9) sc_law_right.nd rfl (.inl rfl)) pgs_nil)))
      (pss_cons (ps_set (i := 10) sc_law_right.nd rfl (.inl rfl) (pe_cl c_row_at hr (by decide) rfl (pa_cons (pv 0) (pa_cons (pv 8) pa_nil))))
      (pss_cons (ps_set (i := 11) sc_law_right.nd rfl (.inl rfl) (pe_ifExp (pt_cmpR op_isN1 (pv 10) pe_non (nomark _)) pe_non (pe_ix ix_seq (pv 10) pe_int (fun _ _ => rfl))))
      (pss_cons (ps_if (PW.pt (pw_or (pt_cmp (pc_dnotin (hu_of hr) (pv 8) (pv 3)) rfl) (pw_or (pt_cmpR op_notIn_seq (pv 8) (pe_dget (hu_of hr) (pv 4) (pv 7) (fun _ _ => rfl)) rfl) (pw_or1 (pt_cmpR (op_neA hr.units) (pe_dget (hu_of hr) (pv 3) (pv 8) (fun _ _ => rfl)) (pv 11) (nomark _))))))
      (pss_one (ps_ret pe_bl))
      pss_nil)
      (pss_cons (ps_set (i := 12) sc_law_right.nd rfl (.inl rfl) (pe_listRg rfl rfl B.b_list (prg_2 rfl B.b_range (pv 8) (pe_op op_addA (pv 8) (pe_ifExp (pt_cmpR op_isN1 (pv 10) pe_non (nomark _)) pe_int (pe_ix ix_seq (pv 10) pe_int (fun _ _ => rfl)))))))
      (pss_cons (ps_if (pt_cmpR (op_neA hr.units) (pe_lc (own := [("_law_place", 13)]) (g := (gName 13)) rfl sc_law_right.nd (pi_seq (pv 12)) (blkOk_by (by kernel_rfl)) (fun _ _ _ _ _ => (pg_name (i := 13) sc_law_right.nd rfl (.inl rfl))) (fun _ _ _ _ _ => (pts_one (pt_cmpR op_in_seq (pv 13) (pv 5) rfl))) (fun _ _ _ _ _ => (pv 13))) (pe_lst pa_nil) (nomark _))
      (pss_one (ps_ret pe_bl))
      pss_nil)
      (pss_cons (ps_set (i := 14) sc_law_right.nd rfl (.inl rfl) (pe_ifExp (pt_cmpR op_isN1 (pv 10) pe_non (nomark _)) pe_str (pe_ix ix_seq (pe_ix ix_seq (pv 10) pe_int (fun _ _ => rfl)) pe_int (fun _ _ => rfl))))
      (pss_one (ps_if (PW.pt (pw_and (pt_cmpR op_notN1 (pv 9) pe_non (nomark _)) (pw_and1 (pt_cmpR (op_eqA hr.units) (pv 14) pe_str (nomark _)))))
      (pss_cons (ps_expr (pe_bm PySem.F.plainAttrs_list PySem.F.slot_list_append PySem.F.type_list_append mt_append (pv 6) (pa_cons (pe_tup (pa_cons (pv 7) (pa_cons (pe_cl c_goes_on hr (by decide) rfl (pa_cons (pv 0) (pa_cons (pv 8) pa_nil))) pa_nil))) pa_nil)))
      (pss_cons (ps_set (i := 7) sc_law_right.nd rfl (.inl rfl) (pv 9))
      (pss_one (ps_if (pt_cmp (pc_dnotin (hu_of hr) (pv 9) (pv 4)) rfl)
      (pss_one (ps_ret pe_bl))
      pss_nil))))
      (pss_one (ps_if (PW.pt (pw_and (pt_cmpR op_notN1 (pv 9) pe_non (nomark _)) (pw_and1 (pt_cmpR (op_eqA hr.units) (pv 14) pe_str (nomark _)))))
      (pss_cons (ps_asg (pe_bm0 PySem.F.plainAttrs_list PySem.F.slot_list_pop PySem.F.type_list_pop mt_pop (pv 6)) (pg_tup rfl (pgs_cons (pg_name (i := 7) sc_law_right.nd rfl (.inl rfl)) (pgs_cons (pg_name (i := 15) sc_law_right.nd rfl (.inl rfl)) pgs_nil))))
      (pss_one (ps_if (pt_cmpR (op_neA hr.units) (pv 15) (pe_lst (pa_cons (pv 9) pa_nil)) (nomark _))
      (pss_one (ps_ret pe_bl))
      pss_nil)))
      (pss_one (ps_if (PW.pt (pw_and (pt_cmpR op_notN1 (pv 9) pe_non (nomark _)) (pw_and1 (pt_cmpR op_notIn_seq (pv 9) (pe_cl c_goes_on hr (by decide) rfl (pa_cons (pv 0) (pa_cons (pv 8) pa_nil))) rfl))))
      (pss_one (ps_ret pe_bl))
      pss_nil)))))))))))))
      (pss_one (ps_ret pe_bl))))))))), pure_law_right F h⟩

theorem sc_law : FnScope N_law ["_law_script"] (defScope s_law) := ⟨rfl, rfl, rfl, by decide +kernel, rfl, by decide +kernel, by decide +kernel⟩
theorem fnok_law (B : Bl mg) (C : Cn K mg) (F : K22F K w) (c_law_reel : Cl P w K mg base 1 "_law_reel" (sp_law_reel K w)) (c_law_draw : Cl P w K mg base 1 "_law_draw" (sp_law_draw K w)) (c_law_blocks : Cl P w K mg base 2 "_law_blocks" (sp_law_blocks K w)) (c_law_code : Cl P w K mg base 3 "_law_code" (sp_law_code K w)) (c_law_right : Cl P w K mg base 9 "_law_right" (sp_law_right K w)) (c_law_inputs : Cl P w K mg base 2 "_law_inputs" (sp_law_inputs K w)) {f : Addr} {fd : FuncData} (D : FnP K "law" s_law f fd) : FnOk P w K mg base CX0 10 f fd ["_law_script"] (sp_law K w) :=
  fn_of1 D sc_law (fun vs H Q E h => len_law h) fun cdv A outer s H vs Q E hr h => ⟨t_law K w, PSs.nox (pss_cons (ps_set (i := 1) sc_law.nd rfl (.inl rfl) (pe_cl c_law_reel hr (by decide) rfl (pa_cons (pv 0) pa_nil)))
      (pss_cons (ps_for PassesOwn.never rfl (pi_range1 rfl B.b_range (pa_cons (pe_op op_addA pe_int (pe_callB (call_min2A rfl) (by rfl) B.b_min (by decide +kernel) (pa_cons (pe_callB call_lenA (by rfl) B.b_len (by decide +kernel) (pa_cons (pv 0) pa_nil)) (pa_cons pe_int pa_nil)))) pa_nil)) (pg_name (i := 2) sc_law.nd rfl (.inl rfl))
      (pss_cons (ps_set (i := 3) sc_law.nd rfl (.inl rfl) (pe_ifExp (pt_cmpR (op_eqA hr.units) (pe_cl c_law_draw hr (by decide) rfl (pa_cons (pv 1) (pa_cons pe_int pa_nil))) pe_int (nomark _)) (pe_cl c_law_blocks hr (by decide) rfl (pa_cons (pv 1) pa_nil)) (pe_cl c_law_code hr (by decide) rfl (pa_cons (pv 1) pa_nil))))
      (pss_one (ps_if (pt_not (pt_val (pe_cl c_law_right hr (by decide) rfl (pa_cons (pv 3) (pa_cons (pe_cl c_law_inputs hr (by decide) rfl (pa_cons (pv 1) pa_nil)) pa_nil))) (by intro _; rfl)))
      (pss_one (ps_ret pe_bl))
      pss_nil))))
      (pss_one (ps_ret pe_bl)))), pure_law F h⟩

end
end Rl
namespace Rl
open PySem PySem.Spec PyProof.Rows L2 NdefX LamX
/-! ## the head: facts by names, the run -/
def d_short_row : He.DefD := ⟨("short_row", none), "short_row", "short_row", defArgs s_short_row, defBody s_short_row, defScope s_short_row, [], []⟩
def d_long_row : He.DefD := ⟨("long_row", none), "long_row", "long_row", defArgs s_long_row, defBody s_long_row, defScope s_long_row, [], []⟩
def d_row_at : He.DefD := ⟨("row_at", none), "row_at", "row_at", defArgs s_row_at, defBody s_row_at, defScope s_row_at, [], []⟩
def d_Old_init : He.DefD := ⟨("Old", some "__init__"), "__init__", "Old.__init__", defArgs s_Old_init, defBody s_Old_init, defScope s_Old_init, [], []⟩
def d_Old_marks : He.DefD := ⟨("Old", some "marks"), "marks", "Old.marks", defArgs s_Old_marks, defBody s_Old_marks, defScope s_Old_marks, [], []⟩
def d_done_alone : He.DefD := ⟨("done_alone", none), "done_alone", "done_alone", defArgs s_done_alone, defBody s_done_alone, defScope s_done_alone, [], []⟩
def d_done_set : He.DefD := ⟨("done_set", none), "done_set", "done_set", defArgs s_done_set, defBody s_done_set, defScope s_done_set, [], []⟩
def d_done_sum : He.DefD := ⟨("done_sum", none), "done_sum", "done_sum", defArgs s_done_sum, defBody s_done_sum, defScope s_done_sum, [], []⟩
def d_done_bits : He.DefD := ⟨("done_bits", none), "done_bits", "done_bits", defArgs s_done_bits, defBody s_done_bits, defScope s_done_bits, [], []⟩
def d_done_test : He.DefD := ⟨("done_test", none), "done_test", "done_test", defArgs s_done_test, defBody s_done_test, defScope s_done_test, [], []⟩
def d_done_load : He.DefD := ⟨("done_load", none), "done_load", "done_load", defArgs s_done_load, defBody s_done_load, defScope s_done_load, [], []⟩
def d_done_store : He.DefD := ⟨("done_store", none), "done_store", "done_store", defArgs s_done_store, defBody s_done_store, defScope s_done_store, [], []⟩
def d_done_go : He.DefD := ⟨("done_go", none), "done_go", "done_go", defArgs s_done_go, defBody s_done_go, defScope s_done_go, [], []⟩
def d_done_call : He.DefD := ⟨("done_call", none), "done_call", "done_call", defArgs s_done_call, defBody s_done_call, defScope s_done_call, [], []⟩
def d_done_in : He.DefD := ⟨("done_in", none), "done_in", "done_in", defArgs s_done_in, defBody s_done_in, defScope s_done_in, [], []⟩
def d_done_out : He.DefD := ⟨("done_out", none), "done_out", "done_out", defArgs s_done_out, defBody s_done_out, defScope s_done_out, [], []⟩
def d_done_keep : He.DefD := ⟨("done_keep", none), "done_keep", "done_keep", defArgs s_done_keep, defBody s_done_keep, defScope s_done_keep, [], []⟩
def d_done_take : He.DefD := ⟨("done_take", none), "done_take", "done_take", defArgs s_done_take, defBody s_done_take, defScope s_done_take, [], []⟩
def d_whole_run : He.DefD := ⟨("whole_run", none), "whole_run", "whole_run", defArgs s_whole_run, defBody s_whole_run, defScope s_whole_run, [], []⟩
def d_traced : He.DefD := ⟨("traced", none), "traced", "traced", defArgs s_traced, defBody s_traced, defScope s_traced, [.adr (He.dflAt ("traced", none) 0)], [("steps", (.int (2000)))]⟩
def d_behind_and_target : He.DefD := ⟨("behind_and_target", none), "behind_and_target", "behind_and_target", defArgs s_behind_and_target, defBody s_behind_and_target, defScope s_behind_and_target, [], []⟩
def d_is_call : He.DefD := ⟨("is_call", none), "is_call", "is_call", defArgs s_is_call, defBody s_is_call, defScope s_is_call, [], []⟩
def d_goes_on : He.DefD := ⟨("goes_on", none), "goes_on", "goes_on", defArgs s_goes_on, defBody s_goes_on, defScope s_goes_on, [], []⟩
def d_all_from : He.DefD := ⟨("all_from", none), "all_from", "all_from", defArgs s_all_from, defBody s_all_from, defScope s_all_from, [], []⟩
def d_found_places : He.DefD := ⟨("found_places", none), "found_places", "found_places", defArgs s_found_places, defBody s_found_places, defScope s_found_places, [], []⟩
def d_found_rows : He.DefD := ⟨("found_rows", none), "found_rows", "found_rows", defArgs s_found_rows, defBody s_found_rows, defScope s_found_rows, [], []⟩
def d_lost_bytes : He.DefD := ⟨("lost_bytes", none), "lost_bytes", "lost_bytes", defArgs s_lost_bytes, defBody s_lost_bytes, defScope s_lost_bytes, [], []⟩
def d_parts_of : He.DefD := ⟨("parts_of", none), "parts_of", "parts_of", defArgs s_parts_of, defBody s_parts_of, defScope s_parts_of, [], []⟩
def d_law_reel : He.DefD := ⟨("_law_reel", none), "_law_reel", "_law_reel", defArgs s_law_reel, defBody s_law_reel, defScope s_law_reel, [], []⟩
def d_law_draw : He.DefD := ⟨("_law_draw", none), "_law_draw", "_law_draw", defArgs s_law_draw, defBody s_law_draw, defScope s_law_draw, [], []⟩
def d_law_any_row : He.DefD := ⟨("_law_any_row", none), "_law_any_row", "_law_any_row", defArgs s_law_any_row, defBody s_law_any_row, defScope s_law_any_row, [], []⟩
def d_law_code : He.DefD := ⟨("_law_code", none), "_law_code", "_law_code", defArgs s_law_code, defBody s_law_code, defScope s_law_code, [], []⟩
def d_law_inputs : He.DefD := ⟨("_law_inputs", none), "_law_inputs", "_law_inputs", defArgs s_law_inputs, defBody s_law_inputs, defScope s_law_inputs, [], []⟩
def d_law_blocks : He.DefD := ⟨("_law_blocks", none), "_law_blocks", "_law_blocks", defArgs s_law_blocks, defBody s_law_blocks, defScope s_law_blocks, [], []⟩
def d_law_right : He.DefD := ⟨("_law_right", none), "_law_right", "_law_right", defArgs s_law_right, defBody s_law_right, defScope s_law_right, [], []⟩
def d_law : He.DefD := ⟨("law", none), "law", "law", defArgs s_law, defBody s_law, defScope s_law, [], []⟩
def fn : List He.DefD := [d_short_row, d_long_row, d_row_at, d_Old_init, d_Old_marks, d_done_alone, d_done_set, d_done_sum, d_done_bits, d_done_test, d_done_load, d_done_store, d_done_go, d_done_call, d_done_in, d_done_out, d_done_keep, d_done_take, d_whole_run, d_traced, d_behind_and_target, d_is_call, d_goes_on, d_all_from, d_found_places, d_found_rows, d_lost_bytes, d_parts_of, d_law_reel, d_law_draw, d_law_any_row, d_law_code, d_law_inputs, d_law_blocks, d_law_right, d_law]
def fa : List He.Fa := [.glo "short_row", .glo "long_row", .glo "row_at", .glo "done_alone", .glo "done_set", .glo "done_sum", .glo "done_bits", .glo "done_test", .glo "done_load", .glo "done_store", .glo "done_go", .glo "done_call", .glo "done_in", .glo "done_out", .glo "done_keep", .glo "done_take", .glo "whole_run", .glo "traced", .glo "behind_and_target", .glo "is_call", .glo "goes_on", .glo "all_from", .glo "found_places", .glo "found_rows", .glo "lost_bytes", .glo "parts_of", .glo "_law_reel", .glo "_law_draw", .glo "_law_any_row", .glo "_law_code", .glo "_law_inputs", .glo "_law_blocks", .glo "_law_right", .glo "law", .glo "Old", .glo "ALONE", .str "BOXES" "abcd", .int "BYTES" (256), .int "CELLS" (64), .glo "DOERS", .glo "ENDS", .int "JUMPS" (14), .int "MOST_KEPT" (16), .glo "SINGLE", .int "SINGLES" (15), .glo "TARGETS", .glo "WORDS_OF_NUMBERED", .glo "WORDS_OF_PAIRS", .free "dict", .free "int", .free "len", .free "list", .free "min", .free "range", .free "sorted", .free "sum", .free "zip", .cls "Old", .meth "Old" "marks", .mkr "Old", .noat "Old" "boxes", .noat "Old" "cells", .noat "Old" "zero", .noat "Old" "less", .noat "Old" "kept", .noat "Old" "places", .noat "Old" "ahead", .noat "Old" "outs", .noat "Old" "place", .noat "Old" "end"]
def tsT : List He.Tab := [((fun K => He.ga K "DOERS"), ["halt", "back", "rest", "set", "copy", "add", "sub", "and", "or", "xor", "test", "testn", "load", "loadn", "store", "storen", "go", "zero", "nonzero", "less", "notless", "call", "in", "out", "keep", "take"])]
def ex (K : PySem.W.Frag) : Bool := He.tupB K "ALONE" [(.str "halt"), (.str "back"), (.str "rest")] && (He.tupB K "SINGLE" [(.str "in"), (.str "out"), (.str "keep"), (.str "take")] && (He.tupB K "TARGETS" [(.str "go"), (.str "zero"), (.str "nonzero"), (.str "less"), (.str "notless"), (.str "call")] && (He.tupB K "ENDS" [(.str "halt"), (.str "back"), (.str "go")] && (kdI K (He.ga K "WORDS_OF_PAIRS") [(2, (.str "copy")), (3, (.str "add")), (4, (.str "sub")), (5, (.str "and")), (6, (.str "or")), (7, (.str "xor")), (8, (.str "test")), (10, (.str "load")), (11, (.str "store"))] && (kdI K (He.ga K "WORDS_OF_NUMBERED") [(1, (.str "set")), (9, (.str "testn")), (12, (.str "loadn")), (13, (.str "storen"))] && (kdS K (He.ga K "DOERS") [("halt", (.glo "done_alone")), ("back", (.glo "done_alone")), ("rest", (.glo "done_alone")), ("set", (.glo "done_set")), ("copy", (.glo "done_set")), ("add", (.glo "done_sum")), ("sub", (.glo "done_sum")), ("and", (.glo "done_bits")), ("or", (.glo "done_bits")), ("xor", (.glo "done_bits")), ("test", (.glo "done_test")), ("testn", (.glo "done_test")), ("load", (.glo "done_load")), ("loadn", (.glo "done_load")), ("store", (.glo "done_store")), ("storen", (.glo "done_store")), ("go", (.glo "done_go")), ("zero", (.glo "done_go")), ("nonzero", (.glo "done_go")), ("less", (.glo "done_go")), ("notless", (.glo "done_go")), ("call", (.glo "done_call")), ("in", (.glo "done_in")), ("out", (.glo "done_out")), ("keep", (.glo "done_keep")), ("take", (.glo "done_take"))]))))))
abbrev Rw : PySem.W.OpenRow := PySem.W.OpenLaw.row PySem.Challenge.rw_rowlift_k22_whole_runs_come_to_found_row
abbrev hk : PySem.W.Hook := He.hookX 5 fa fn tsT [("found_places", none), ("parts_of", none)] ex
def ob (s : PySem.W.SharedT) : He.AlX := He.obsX 5 fa fn tsT [("found_places", none), ("parts_of", none)] ex (HandSHeadRun.getT s)
theorem ob_eq (s : PySem.W.SharedT) : ob s = hk.obs s.abs := He.obsX_eq (HandSHeadRun.getT_eq s)
theorem runF (w : World) : HandSHeadRun.RunEq Rw (PySem.W.view Rw.prog [51]) hk ob 4000 ("MOST_STEPS" :: "BOXES" :: "BYTES" :: "CELLS" :: "MOST_KEPT" :: "ALONE" :: "WORDS_OF_PAIRS" :: "WORDS_OF_NUMBERED" :: "TARGETS" :: "SINGLE" :: "JUMPS" :: "SINGLES" :: "short_row" :: "long_row" :: "row_at" :: "Old" :: "done_alone" :: "done_set" :: "done_sum" :: "done_bits" :: "done_test" :: "done_load" :: "done_store" :: "done_go" :: "done_call" :: "done_in" :: "done_out" :: "done_keep" :: "done_take" :: "DOERS" :: "whole_run" :: "traced" :: "ENDS" :: "behind_and_target" :: "goes_on" :: "is_call" :: "all_from" :: "found_places" :: "found_rows" :: "lost_bytes" :: "parts_of" :: "_law_reel" :: "_law_draw" :: "_law_any_row" :: "_law_code" :: "_law_inputs" :: "_law_right" :: "_law_blocks" :: []) (w.withFollow "special-get-raises" false) := by
  intro os
  kernel_rfl
theorem runT (w : World) : HandSHeadRun.RunEq Rw (PySem.W.view Rw.prog [51]) hk ob 4000 ("MOST_STEPS" :: "BOXES" :: "BYTES" :: "CELLS" :: "MOST_KEPT" :: "ALONE" :: "WORDS_OF_PAIRS" :: "WORDS_OF_NUMBERED" :: "TARGETS" :: "SINGLE" :: "JUMPS" :: "SINGLES" :: "short_row" :: "long_row" :: "row_at" :: "Old" :: "done_alone" :: "done_set" :: "done_sum" :: "done_bits" :: "done_test" :: "done_load" :: "done_store" :: "done_go" :: "done_call" :: "done_in" :: "done_out" :: "done_keep" :: "done_take" :: "DOERS" :: "whole_run" :: "traced" :: "ENDS" :: "behind_and_target" :: "goes_on" :: "is_call" :: "all_from" :: "found_places" :: "found_rows" :: "lost_bytes" :: "parts_of" :: "_law_reel" :: "_law_draw" :: "_law_any_row" :: "_law_code" :: "_law_inputs" :: "_law_right" :: "_law_blocks" :: []) (w.withFollow "special-get-raises" true) := by
  intro os
  kernel_rfl
theorem run (w : World) : HandSHeadRun.RunEq Rw (PySem.W.view Rw.prog [51]) hk ob 4000 ("MOST_STEPS" :: "BOXES" :: "BYTES" :: "CELLS" :: "MOST_KEPT" :: "ALONE" :: "WORDS_OF_PAIRS" :: "WORDS_OF_NUMBERED" :: "TARGETS" :: "SINGLE" :: "JUMPS" :: "SINGLES" :: "short_row" :: "long_row" :: "row_at" :: "Old" :: "done_alone" :: "done_set" :: "done_sum" :: "done_bits" :: "done_test" :: "done_load" :: "done_store" :: "done_go" :: "done_call" :: "done_in" :: "done_out" :: "done_keep" :: "done_take" :: "DOERS" :: "whole_run" :: "traced" :: "ENDS" :: "behind_and_target" :: "goes_on" :: "is_call" :: "all_from" :: "found_places" :: "found_rows" :: "lost_bytes" :: "parts_of" :: "_law_reel" :: "_law_draw" :: "_law_any_row" :: "_law_code" :: "_law_inputs" :: "_law_right" :: "_law_blocks" :: []) w := PySem.W.byRow2 "special-get-raises" (P := fun w => HandSHeadRun.RunEq Rw (PySem.W.view Rw.prog [51]) hk ob 4000 ("MOST_STEPS" :: "BOXES" :: "BYTES" :: "CELLS" :: "MOST_KEPT" :: "ALONE" :: "WORDS_OF_PAIRS" :: "WORDS_OF_NUMBERED" :: "TARGETS" :: "SINGLE" :: "JUMPS" :: "SINGLES" :: "short_row" :: "long_row" :: "row_at" :: "Old" :: "done_alone" :: "done_set" :: "done_sum" :: "done_bits" :: "done_test" :: "done_load" :: "done_store" :: "done_go" :: "done_call" :: "done_in" :: "done_out" :: "done_keep" :: "done_take" :: "DOERS" :: "whole_run" :: "traced" :: "ENDS" :: "behind_and_target" :: "goes_on" :: "is_call" :: "all_from" :: "found_places" :: "found_rows" :: "lost_bytes" :: "parts_of" :: "_law_reel" :: "_law_draw" :: "_law_any_row" :: "_law_code" :: "_law_inputs" :: "_law_right" :: "_law_blocks" :: []) w) runF runT w
theorem facts {P : Program} {w : World} {K : PySem.W.Frag} {h : Heap} {mg : Str → Option Value} {f : Addr} (X : K.In h) (G : h.Ns mainGlobals mg) (hfa : mg ("law" : Str) = some (.ref f)) (c : He.SaysX fa fn tsT [("found_places", none), ("parts_of", none)] ex w h K) :
    ∃ fd : FuncData, (∀ (s : Shared) (v : Value), BindsTo s fd ⟨[v], []⟩ [("_law_script", v)]) ∧ ∀ base : Heap, K.In base → base.Ns mainGlobals mg → (∀ p ∈ [He.cT K ("found_places", none), He.cT K ("parts_of", none)], TabB base mg p.1 p.2) → FnOk P w K mg base CX0 10 f fd ["_law_script"] (sp_law K w) := by
  have more := c.more
  unfold ex at more
  obtain ⟨x0, r0⟩ := He.ba more
  obtain ⟨x1, r1⟩ := He.ba r0
  obtain ⟨x2, r2⟩ := He.ba r1
  obtain ⟨x3, r3⟩ := He.ba r2
  obtain ⟨x4, r4⟩ := He.ba r3
  obtain ⟨x5, r5⟩ := He.ba r4
  have x6 := r5
  have no : ∀ f ∈ oldF, NoAttr K (He.ga K "Old") f := fun f hf => by
    simp only [oldF, List.mem_cons, List.not_mem_nil, or_false] at hf
    rcases hf with rfl | rfl | rfl | rfl | rfl | rfl | rfl | rfl | rfl | rfl
    · exact He.noat_ok (c.t.d.fact 60 (f := .noat "Old" "boxes") rfl)
    · exact He.noat_ok (c.t.d.fact 61 (f := .noat "Old" "cells") rfl)
    · exact He.noat_ok (c.t.d.fact 62 (f := .noat "Old" "zero") rfl)
    · exact He.noat_ok (c.t.d.fact 63 (f := .noat "Old" "less") rfl)
    · exact He.noat_ok (c.t.d.fact 64 (f := .noat "Old" "kept") rfl)
    · exact He.noat_ok (c.t.d.fact 65 (f := .noat "Old" "places") rfl)
    · exact He.noat_ok (c.t.d.fact 66 (f := .noat "Old" "ahead") rfl)
    · exact He.noat_ok (c.t.d.fact 67 (f := .noat "Old" "outs") rfl)
    · exact He.noat_ok (c.t.d.fact 68 (f := .noat "Old" "place") rfl)
    · exact He.noat_ok (c.t.d.fact 69 (f := .noat "Old" "end") rfl)
  have F : K22F K w := ⟨⟨⟨fun H => He.tupB_ok x0 H, fun H => He.tupB_ok x1 H, fun H => He.tupB_ok x2 H, kdI_ok x4, kdI_ok x5⟩, ⟨He.cls_ok (c.t.d.fact 57 (f := .cls "Old") rfl), no⟩, kdS_ok x6 (c.t.tab 0 (t := ((fun K => He.ga K "DOERS"), doersT.map Prod.fst)) rfl)⟩, fun H => He.tupB_ok x3 H⟩
  have B : Bl mg := ⟨He.free_ok X G (c.t.d.fact 48 (f := .free "dict") rfl), He.free_ok X G (c.t.d.fact 49 (f := .free "int") rfl), He.free_ok X G (c.t.d.fact 50 (f := .free "len") rfl), He.free_ok X G (c.t.d.fact 51 (f := .free "list") rfl), He.free_ok X G (c.t.d.fact 52 (f := .free "min") rfl), He.free_ok X G (c.t.d.fact 53 (f := .free "range") rfl), He.free_ok X G (c.t.d.fact 54 (f := .free "sorted") rfl), He.free_ok X G (c.t.d.fact 55 (f := .free "sum") rfl), He.free_ok X G (c.t.d.fact 56 (f := .free "zip") rfl)⟩
  have C : Cn K mg := ⟨He.glo_ok X G (c.t.d.fact 35 (f := .glo "ALONE") rfl), He.str_ok X G (c.t.d.fact 36 (f := .str "BOXES" "abcd") rfl), He.int_ok X G (c.t.d.fact 37 (f := .int "BYTES" (256)) rfl), He.int_ok X G (c.t.d.fact 38 (f := .int "CELLS" (64)) rfl), He.glo_ok X G (c.t.d.fact 39 (f := .glo "DOERS") rfl), He.glo_ok X G (c.t.d.fact 40 (f := .glo "ENDS") rfl), He.int_ok X G (c.t.d.fact 41 (f := .int "JUMPS" (14)) rfl), He.int_ok X G (c.t.d.fact 42 (f := .int "MOST_KEPT" (16)) rfl), He.glo_ok X G (c.t.d.fact 43 (f := .glo "SINGLE") rfl), He.int_ok X G (c.t.d.fact 44 (f := .int "SINGLES" (15)) rfl), He.glo_ok X G (c.t.d.fact 45 (f := .glo "TARGETS") rfl), He.glo_ok X G (c.t.d.fact 46 (f := .glo "WORDS_OF_NUMBERED") rfl), He.glo_ok X G (c.t.d.fact 47 (f := .glo "WORDS_OF_PAIRS") rfl)⟩
  obtain ⟨fd_short_row, D_short_row⟩ := c.t.d.def_ 0 (d := d_short_row) rfl
  have c_short_row : ∀ (base : Heap) (tb : ∀ p ∈ [He.cT K ("found_places", none), He.cT K ("parts_of", none)], TabB base mg p.1 p.2), Cl P w K mg base 1 "short_row" (sp_short_row K w) := fun base tb => cl_short_row B C F D_short_row (He.glo_ok X G (c.t.d.fact 0 (f := .glo "short_row") rfl)) (D_short_row.bindsN fun _ _ _ _ _ _ us hl => match us, hl with | [_], _ => rfl)
  obtain ⟨fd_long_row, D_long_row⟩ := c.t.d.def_ 1 (d := d_long_row) rfl
  have c_long_row : ∀ (base : Heap) (tb : ∀ p ∈ [He.cT K ("found_places", none), He.cT K ("parts_of", none)], TabB base mg p.1 p.2), Cl P w K mg base 1 "long_row" (sp_long_row K w) := fun base tb => cl_long_row B C F D_long_row (He.glo_ok X G (c.t.d.fact 1 (f := .glo "long_row") rfl)) (D_long_row.bindsN fun _ _ _ _ _ _ us hl => match us, hl with | [_, _], _ => rfl)
  obtain ⟨fd_row_at, D_row_at⟩ := c.t.d.def_ 2 (d := d_row_at) rfl
  have c_row_at : ∀ (base : Heap) (tb : ∀ p ∈ [He.cT K ("found_places", none), He.cT K ("parts_of", none)], TabB base mg p.1 p.2), Cl P w K mg base 2 "row_at" (sp_row_at K w) := fun base tb => cl_row_at B C F (c_short_row base tb) (c_long_row base tb) D_row_at (He.glo_ok X G (c.t.d.fact 2 (f := .glo "row_at") rfl)) (D_row_at.bindsN fun _ _ _ _ _ _ us hl => match us, hl with | [_, _], _ => rfl)
  obtain ⟨fd_Old_init, D_Old_init⟩ := c.t.d.def_ 3 (d := d_Old_init) rfl
  have mk_Old : ∀ (base : Heap) (tb : ∀ p ∈ [He.cT K ("found_places", none), He.cT K ("parts_of", none)], TabB base mg p.1 p.2), ClK P w K mg base 1 "Old" (He.ga K "Old") (sp_Old_init K w) := fun base tb => ⟨_, _, _, fo_Old_init B C F D_Old_init, He.mkr_ok (c.t.d.fact 59 (f := .mkr "Old") rfl), He.glo_ok X G (c.t.d.fact 34 (f := .glo "Old") rfl), (D_Old_init.bindsN fun _ _ _ _ _ _ us hl => match us, hl with | [_, _], _ => rfl)⟩
  obtain ⟨fd_Old_marks, D_Old_marks⟩ := c.t.d.def_ 4 (d := d_Old_marks) rfl
  have m_Old_marks : ∀ (base : Heap) (tb : ∀ p ∈ [He.cT K ("found_places", none), He.cT K ("parts_of", none)], TabB base mg p.1 p.2), ClM P w K mg base 1 (He.ga K "Old") "marks" (sp_Old_marks K w) := fun base tb => ⟨_, _, _, fo_Old_marks B C F D_Old_marks, He.cls_ok (c.t.d.fact 57 (f := .cls "Old") rfl), He.meth_ok (c.t.d.fact 58 (f := .meth "Old" "marks") rfl), (D_Old_marks.bindsN fun _ _ _ _ _ _ us hl => match us, hl with | [_, _, _], _ => rfl)⟩
  obtain ⟨fd_done_alone, D_done_alone⟩ := c.t.d.def_ 5 (d := d_done_alone) rfl
  have c_done_alone : ∀ (base : Heap) (tb : ∀ p ∈ [He.cT K ("found_places", none), He.cT K ("parts_of", none)], TabB base mg p.1 p.2), Cl P w K mg base 1 "done_alone" (sp_done_alone K w) := fun base tb => cl_done_alone B C F D_done_alone (He.glo_ok X G (c.t.d.fact 3 (f := .glo "done_alone") rfl)) (D_done_alone.bindsN fun _ _ _ _ _ _ us hl => match us, hl with | [_, _], _ => rfl)
  obtain ⟨fd_done_set, D_done_set⟩ := c.t.d.def_ 6 (d := d_done_set) rfl
  have c_done_set : ∀ (base : Heap) (tb : ∀ p ∈ [He.cT K ("found_places", none), He.cT K ("parts_of", none)], TabB base mg p.1 p.2), Cl P w K mg base 1 "done_set" (sp_done_set K w) := fun base tb => cl_done_set B C F D_done_set (He.glo_ok X G (c.t.d.fact 4 (f := .glo "done_set") rfl)) (D_done_set.bindsN fun _ _ _ _ _ _ us hl => match us, hl with | [_, _], _ => rfl)
  obtain ⟨fd_done_sum, D_done_sum⟩ := c.t.d.def_ 7 (d := d_done_sum) rfl
  have c_done_sum : ∀ (base : Heap) (tb : ∀ p ∈ [He.cT K ("found_places", none), He.cT K ("parts_of", none)], TabB base mg p.1 p.2), Cl P w K mg base 2 "done_sum" (sp_done_sum K w) := fun base tb => cl_done_sum B C F (m_Old_marks base tb) D_done_sum (He.glo_ok X G (c.t.d.fact 5 (f := .glo "done_sum") rfl)) (D_done_sum.bindsN fun _ _ _ _ _ _ us hl => match us, hl with | [_, _], _ => rfl)
  obtain ⟨fd_done_bits, D_done_bits⟩ := c.t.d.def_ 8 (d := d_done_bits) rfl
  have c_done_bits : ∀ (base : Heap) (tb : ∀ p ∈ [He.cT K ("found_places", none), He.cT K ("parts_of", none)], TabB base mg p.1 p.2), Cl P w K mg base 2 "done_bits" (sp_done_bits K w) := fun base tb => cl_done_bits B C F (m_Old_marks base tb) D_done_bits (He.glo_ok X G (c.t.d.fact 6 (f := .glo "done_bits") rfl)) (D_done_bits.bindsN fun _ _ _ _ _ _ us hl => match us, hl with | [_, _], _ => rfl)
  obtain ⟨fd_done_test, D_done_test⟩ := c.t.d.def_ 9 (d := d_done_test) rfl
  have c_done_test : ∀ (base : Heap) (tb : ∀ p ∈ [He.cT K ("found_places", none), He.cT K ("parts_of", none)], TabB base mg p.1 p.2), Cl P w K mg base 2 "done_test" (sp_done_test K w) := fun base tb => cl_done_test B C F (m_Old_marks base tb) D_done_test (He.glo_ok X G (c.t.d.fact 7 (f := .glo "done_test") rfl)) (D_done_test.bindsN fun _ _ _ _ _ _ us hl => match us, hl with | [_, _], _ => rfl)
  obtain ⟨fd_done_load, D_done_load⟩ := c.t.d.def_ 10 (d := d_done_load) rfl
  have c_done_load : ∀ (base : Heap) (tb : ∀ p ∈ [He.cT K ("found_places", none), He.cT K ("parts_of", none)], TabB base mg p.1 p.2), Cl P w K mg base 1 "done_load" (sp_done_load K w) := fun base tb => cl_done_load B C F D_done_load (He.glo_ok X G (c.t.d.fact 8 (f := .glo "done_load") rfl)) (D_done_load.bindsN fun _ _ _ _ _ _ us hl => match us, hl with | [_, _], _ => rfl)
  obtain ⟨fd_done_store, D_done_store⟩ := c.t.d.def_ 11 (d := d_done_store) rfl
  have c_done_store : ∀ (base : Heap) (tb : ∀ p ∈ [He.cT K ("found_places", none), He.cT K ("parts_of", none)], TabB base mg p.1 p.2), Cl P w K mg base 1 "done_store" (sp_done_store K w) := fun base tb => cl_done_store B C F D_done_store (He.glo_ok X G (c.t.d.fact 9 (f := .glo "done_store") rfl)) (D_done_store.bindsN fun _ _ _ _ _ _ us hl => match us, hl with | [_, _], _ => rfl)
  obtain ⟨fd_done_go, D_done_go⟩ := c.t.d.def_ 12 (d := d_done_go) rfl
  have c_done_go : ∀ (base : Heap) (tb : ∀ p ∈ [He.cT K ("found_places", none), He.cT K ("parts_of", none)], TabB base mg p.1 p.2), Cl P w K mg base 1 "done_go" (sp_done_go K w) := fun base tb => cl_done_go B C F D_done_go (He.glo_ok X G (c.t.d.fact 10 (f := .glo "done_go") rfl)) (D_done_go.bindsN fun _ _ _ _ _ _ us hl => match us, hl with | [_, _], _ => rfl)
  obtain ⟨fd_done_call, D_done_call⟩ := c.t.d.def_ 13 (d := d_done_call) rfl
  have c_done_call : ∀ (base : Heap) (tb : ∀ p ∈ [He.cT K ("found_places", none), He.cT K ("parts_of", none)], TabB base mg p.1 p.2), Cl P w K mg base 1 "done_call" (sp_done_call K w) := fun base tb => cl_done_call B C F D_done_call (He.glo_ok X G (c.t.d.fact 11 (f := .glo "done_call") rfl)) (D_done_call.bindsN fun _ _ _ _ _ _ us hl => match us, hl with | [_, _], _ => rfl)
  obtain ⟨fd_done_in, D_done_in⟩ := c.t.d.def_ 14 (d := d_done_in) rfl
  have c_done_in : ∀ (base : Heap) (tb : ∀ p ∈ [He.cT K ("found_places", none), He.cT K ("parts_of", none)], TabB base mg p.1 p.2), Cl P w K mg base 1 "done_in" (sp_done_in K w) := fun base tb => cl_done_in B C F D_done_in (He.glo_ok X G (c.t.d.fact 12 (f := .glo "done_in") rfl)) (D_done_in.bindsN fun _ _ _ _ _ _ us hl => match us, hl with | [_, _], _ => rfl)
  obtain ⟨fd_done_out, D_done_out⟩ := c.t.d.def_ 15 (d := d_done_out) rfl
  have c_done_out : ∀ (base : Heap) (tb : ∀ p ∈ [He.cT K ("found_places", none), He.cT K ("parts_of", none)], TabB base mg p.1 p.2), Cl P w K mg base 1 "done_out" (sp_done_out K w) := fun base tb => cl_done_out B C F D_done_out (He.glo_ok X G (c.t.d.fact 13 (f := .glo "done_out") rfl)) (D_done_out.bindsN fun _ _ _ _ _ _ us hl => match us, hl with | [_, _], _ => rfl)
  obtain ⟨fd_done_keep, D_done_keep⟩ := c.t.d.def_ 16 (d := d_done_keep) rfl
  have c_done_keep : ∀ (base : Heap) (tb : ∀ p ∈ [He.cT K ("found_places", none), He.cT K ("parts_of", none)], TabB base mg p.1 p.2), Cl P w K mg base 1 "done_keep" (sp_done_keep K w) := fun base tb => cl_done_keep B C F D_done_keep (He.glo_ok X G (c.t.d.fact 14 (f := .glo "done_keep") rfl)) (D_done_keep.bindsN fun _ _ _ _ _ _ us hl => match us, hl with | [_, _], _ => rfl)
  obtain ⟨fd_done_take, D_done_take⟩ := c.t.d.def_ 17 (d := d_done_take) rfl
  have c_done_take : ∀ (base : Heap) (tb : ∀ p ∈ [He.cT K ("found_places", none), He.cT K ("parts_of", none)], TabB base mg p.1 p.2), Cl P w K mg base 1 "done_take" (sp_done_take K w) := fun base tb => cl_done_take B C F D_done_take (He.glo_ok X G (c.t.d.fact 15 (f := .glo "done_take") rfl)) (D_done_take.bindsN fun _ _ _ _ _ _ us hl => match us, hl with | [_, _], _ => rfl)
  have c_dd : ∀ (base : Heap) (tb : ∀ p ∈ [He.cT K ("found_places", none), He.cT K ("parts_of", none)], TabB base mg p.1 p.2) nm sp, DD K w nm = some sp → Cl P w K mg base 2 nm sp ∧ mg nm = some (.ref (He.ga K nm)) := by
    intro base tb nm sp h
    unfold DD at h
    split at h
    · rename_i hm
      cases h
      simp only [doers, List.mem_cons, List.not_mem_nil, or_false] at hm
      rcases hm with rfl | rfl | rfl | rfl | rfl | rfl | rfl | rfl | rfl | rfl | rfl | rfl | rfl
      · exact ⟨(c_done_alone base tb).mono (by decide), He.glo_ok X G (c.t.d.fact 3 (f := .glo "done_alone") rfl)⟩
      · exact ⟨(c_done_set base tb).mono (by decide), He.glo_ok X G (c.t.d.fact 4 (f := .glo "done_set") rfl)⟩
      · exact ⟨(c_done_sum base tb).mono (by decide), He.glo_ok X G (c.t.d.fact 5 (f := .glo "done_sum") rfl)⟩
      · exact ⟨(c_done_bits base tb).mono (by decide), He.glo_ok X G (c.t.d.fact 6 (f := .glo "done_bits") rfl)⟩
      · exact ⟨(c_done_test base tb).mono (by decide), He.glo_ok X G (c.t.d.fact 7 (f := .glo "done_test") rfl)⟩
      · exact ⟨(c_done_load base tb).mono (by decide), He.glo_ok X G (c.t.d.fact 8 (f := .glo "done_load") rfl)⟩
      · exact ⟨(c_done_store base tb).mono (by decide), He.glo_ok X G (c.t.d.fact 9 (f := .glo "done_store") rfl)⟩
      · exact ⟨(c_done_go base tb).mono (by decide), He.glo_ok X G (c.t.d.fact 10 (f := .glo "done_go") rfl)⟩
      · exact ⟨(c_done_call base tb).mono (by decide), He.glo_ok X G (c.t.d.fact 11 (f := .glo "done_call") rfl)⟩
      · exact ⟨(c_done_in base tb).mono (by decide), He.glo_ok X G (c.t.d.fact 12 (f := .glo "done_in") rfl)⟩
      · exact ⟨(c_done_out base tb).mono (by decide), He.glo_ok X G (c.t.d.fact 13 (f := .glo "done_out") rfl)⟩
      · exact ⟨(c_done_keep base tb).mono (by decide), He.glo_ok X G (c.t.d.fact 14 (f := .glo "done_keep") rfl)⟩
      · exact ⟨(c_done_take base tb).mono (by decide), He.glo_ok X G (c.t.d.fact 15 (f := .glo "done_take") rfl)⟩
    · cases h
  obtain ⟨fd_whole_run, D_whole_run⟩ := c.t.d.def_ 18 (d := d_whole_run) rfl
  have c_whole_run : ∀ (base : Heap) (tb : ∀ p ∈ [He.cT K ("found_places", none), He.cT K ("parts_of", none)], TabB base mg p.1 p.2), Cl P w K mg base 3 "whole_run" (sp_whole_run K w) := fun base tb => cl_whole_run B C F (c_row_at base tb) (mk_Old base tb) (c_dd base tb) D_whole_run (He.glo_ok X G (c.t.d.fact 16 (f := .glo "whole_run") rfl)) (D_whole_run.bindsN fun _ _ _ _ _ _ us hl => match us, hl with | [_, _, _], _ => rfl)
  obtain ⟨fd_traced, D_traced⟩ := c.t.d.def_ 19 (d := d_traced) rfl
  have k_traced : ∀ (base : Heap) (tb : ∀ p ∈ [He.cT K ("found_places", none), He.cT K ("parts_of", none)], TabB base mg p.1 p.2), ClN P w K mg base 4 "traced" 2 ["steps"] gVc (sp_traced K w) := fun base tb => by
    obtain ⟨g, b⟩ := kbc (x := "traced") (q := "traced") (st := s_traced) (n := 2) (ks := ["steps"]) (ps := ["code", "inputs", "steps"]) (dvs := d_traced.dvs K) (kws := d_traced.kws K) D_traced (by exact List.cons_ne_nil _ _) (by exact List.cons_ne_nil _ _) (fun T D doc pm an cdv ct us its ws h1 h2 h4 => match us, its, ws, h1, h2, h4 with | [_, _], [_], [_], _, _, _ => (by unfold bindArgs; refine ⟨_, rfl, ?_⟩; rfl))
    exact ⟨_, _, _, g, fo_traced B C F (c_whole_run base tb) D_traced, He.glo_ok X G (c.t.d.fact 17 (f := .glo "traced") rfl), D_traced.kp, b⟩
  obtain ⟨fd_behind_and_target, D_behind_and_target⟩ := c.t.d.def_ 20 (d := d_behind_and_target) rfl
  have c_behind_and_target : ∀ (base : Heap) (tb : ∀ p ∈ [He.cT K ("found_places", none), He.cT K ("parts_of", none)], TabB base mg p.1 p.2), Cl P w K mg base 3 "behind_and_target" (sp_behind_and_target K w) := fun base tb => cl_behind_and_target B C F (c_row_at base tb) D_behind_and_target (He.glo_ok X G (c.t.d.fact 18 (f := .glo "behind_and_target") rfl)) (D_behind_and_target.bindsN fun _ _ _ _ _ _ us hl => match us, hl with | [_, _], _ => rfl)
  obtain ⟨fd_is_call, D_is_call⟩ := c.t.d.def_ 21 (d := d_is_call) rfl
  have c_is_call : ∀ (base : Heap) (tb : ∀ p ∈ [He.cT K ("found_places", none), He.cT K ("parts_of", none)], TabB base mg p.1 p.2), Cl P w K mg base 3 "is_call" (sp_is_call K w) := fun base tb => cl_is_call B C F (c_row_at base tb) D_is_call (He.glo_ok X G (c.t.d.fact 19 (f := .glo "is_call") rfl)) (D_is_call.bindsN fun _ _ _ _ _ _ us hl => match us, hl with | [_, _], _ => rfl)
  obtain ⟨fd_goes_on, D_goes_on⟩ := c.t.d.def_ 22 (d := d_goes_on) rfl
  have c_goes_on : ∀ (base : Heap) (tb : ∀ p ∈ [He.cT K ("found_places", none), He.cT K ("parts_of", none)], TabB base mg p.1 p.2), Cl P w K mg base 4 "goes_on" (sp_goes_on K w) := fun base tb => cl_goes_on B C F (c_behind_and_target base tb) (c_is_call base tb) D_goes_on (He.glo_ok X G (c.t.d.fact 20 (f := .glo "goes_on") rfl)) (D_goes_on.bindsN fun _ _ _ _ _ _ us hl => match us, hl with | [_, _], _ => rfl)
  have n_found_places_onward : ∀ (base : Heap) (tb : ∀ p ∈ [He.cT K ("found_places", none), He.cT K ("parts_of", none)], TabB base mg p.1 p.2) (f : Addr) (cl : List (Str × Addr)) (c2 : Addr), NOk P w K mg base CX0 4 f (NF.of on_found_places "onward" on_q_found_places cl c2) ["address"] ["code"] (spCap (sp_found_places_onward K w)) := fun base tb f cl c2 => nok_found_places_onward B C F (c_behind_and_target base tb) f cl c2
  have n_parts_of_onward : ∀ (base : Heap) (tb : ∀ p ∈ [He.cT K ("found_places", none), He.cT K ("parts_of", none)], TabB base mg p.1 p.2) (f : Addr) (cl : List (Str × Addr)) (c2 : Addr), NOk P w K mg base CX0 5 f (NF.of on_parts_of "onward" on_q_parts_of cl c2) ["address"] ["code"] (spCap (sp_parts_of_onward K w)) := fun base tb f cl c2 => nok_parts_of_onward B C F (c_goes_on base tb) f cl c2
  obtain ⟨fd_all_from, D_all_from⟩ := c.t.d.def_ 23 (d := d_all_from) rfl
  have c_on : ∀ (base : Heap) (tb : ∀ p ∈ [He.cT K ("found_places", none), He.cT K ("parts_of", none)], TabB base mg p.1 p.2) (f : Addr) (F2 : NF) (sp : Addr → Sp), OnP K F2 sp → NOk P w K mg base CX0 5 f F2 ["address"] ["code"] (spCap sp) := fun base tb f F2 sp h => on_known K w (fun f cl c2 => n_found_places_onward base tb f cl c2) (fun f cl c2 => n_parts_of_onward base tb f cl c2) h
  have c_all_from : ∀ (base : Heap) (tb : ∀ p ∈ [He.cT K ("found_places", none), He.cT K ("parts_of", none)], TabB base mg p.1 p.2), Cl P w K mg base 6 "all_from" (sp_all_from K w) := fun base tb => cl_all_from B C F (c_on base tb) D_all_from (He.glo_ok X G (c.t.d.fact 21 (f := .glo "all_from") rfl)) (D_all_from.bindsN fun _ _ _ _ _ _ us hl => match us, hl with | [_, _], _ => rfl)
  obtain ⟨fd_found_places, D_found_places⟩ := c.t.d.def_ 24 (d := d_found_places) rfl
  have c_found_places : ∀ (base : Heap) (tb : ∀ p ∈ [He.cT K ("found_places", none), He.cT K ("parts_of", none)], TabB base mg p.1 p.2), Cl P w K mg base 7 "found_places" (sp_found_places K w) := fun base tb => cl_found_places B C F (c_all_from base tb) (tb _ (by simp)) D_found_places (He.glo_ok X G (c.t.d.fact 22 (f := .glo "found_places") rfl)) (D_found_places.bindsN fun _ _ _ _ _ _ us hl => match us, hl with | [_], _ => rfl)
  obtain ⟨fd_found_rows, D_found_rows⟩ := c.t.d.def_ 25 (d := d_found_rows) rfl
  have c_found_rows : ∀ (base : Heap) (tb : ∀ p ∈ [He.cT K ("found_places", none), He.cT K ("parts_of", none)], TabB base mg p.1 p.2), Cl P w K mg base 8 "found_rows" (sp_found_rows K w) := fun base tb => cl_found_rows B C F (c_found_places base tb) (c_row_at base tb) D_found_rows (He.glo_ok X G (c.t.d.fact 23 (f := .glo "found_rows") rfl)) (D_found_rows.bindsN fun _ _ _ _ _ _ us hl => match us, hl with | [_], _ => rfl)
  obtain ⟨fd_lost_bytes, D_lost_bytes⟩ := c.t.d.def_ 26 (d := d_lost_bytes) rfl
  have c_lost_bytes : ∀ (base : Heap) (tb : ∀ p ∈ [He.cT K ("found_places", none), He.cT K ("parts_of", none)], TabB base mg p.1 p.2), Cl P w K mg base 8 "lost_bytes" (sp_lost_bytes K w) := fun base tb => cl_lost_bytes B C F (c_found_places base tb) (c_row_at base tb) D_lost_bytes (He.glo_ok X G (c.t.d.fact 24 (f := .glo "lost_bytes") rfl)) (D_lost_bytes.bindsN fun _ _ _ _ _ _ us hl => match us, hl with | [_], _ => rfl)
  obtain ⟨fd_parts_of, D_parts_of⟩ := c.t.d.def_ 27 (d := d_parts_of) rfl
  have c_parts_of : ∀ (base : Heap) (tb : ∀ p ∈ [He.cT K ("found_places", none), He.cT K ("parts_of", none)], TabB base mg p.1 p.2), Cl P w K mg base 8 "parts_of" (sp_parts_of K w) := fun base tb => cl_parts_of B C F (c_found_places base tb) (c_is_call base tb) (c_behind_and_target base tb) (c_all_from base tb) (tb _ (by simp)) D_parts_of (He.glo_ok X G (c.t.d.fact 25 (f := .glo "parts_of") rfl)) (D_parts_of.bindsN fun _ _ _ _ _ _ us hl => match us, hl with | [_], _ => rfl)
  obtain ⟨fd_law_reel, D_law_reel⟩ := c.t.d.def_ 28 (d := d_law_reel) rfl
  have c_law_reel : ∀ (base : Heap) (tb : ∀ p ∈ [He.cT K ("found_places", none), He.cT K ("parts_of", none)], TabB base mg p.1 p.2), Cl P w K mg base 1 "_law_reel" (sp_law_reel K w) := fun base tb => cl_law_reel B C F D_law_reel (He.glo_ok X G (c.t.d.fact 26 (f := .glo "_law_reel") rfl)) (D_law_reel.bindsN fun _ _ _ _ _ _ us hl => match us, hl with | [_], _ => rfl)
  obtain ⟨fd_law_draw, D_law_draw⟩ := c.t.d.def_ 29 (d := d_law_draw) rfl
  have c_law_draw : ∀ (base : Heap) (tb : ∀ p ∈ [He.cT K ("found_places", none), He.cT K ("parts_of", none)], TabB base mg p.1 p.2), Cl P w K mg base 1 "_law_draw" (sp_law_draw K w) := fun base tb => cl_law_draw B C F D_law_draw (He.glo_ok X G (c.t.d.fact 27 (f := .glo "_law_draw") rfl)) (D_law_draw.bindsN fun _ _ _ _ _ _ us hl => match us, hl with | [_, _], _ => rfl)
  obtain ⟨fd_law_any_row, D_law_any_row⟩ := c.t.d.def_ 30 (d := d_law_any_row) rfl
  have c_law_any_row : ∀ (base : Heap) (tb : ∀ p ∈ [He.cT K ("found_places", none), He.cT K ("parts_of", none)], TabB base mg p.1 p.2), Cl P w K mg base 2 "_law_any_row" (sp_law_any_row K w) := fun base tb => cl_law_any_row B C F (c_law_draw base tb) D_law_any_row (He.glo_ok X G (c.t.d.fact 28 (f := .glo "_law_any_row") rfl)) (D_law_any_row.bindsN fun _ _ _ _ _ _ us hl => match us, hl with | [_, _], _ => rfl)
  obtain ⟨fd_law_code, D_law_code⟩ := c.t.d.def_ 31 (d := d_law_code) rfl
  have c_law_code : ∀ (base : Heap) (tb : ∀ p ∈ [He.cT K ("found_places", none), He.cT K ("parts_of", none)], TabB base mg p.1 p.2), Cl P w K mg base 3 "_law_code" (sp_law_code K w) := fun base tb => cl_law_code B C F (c_law_draw base tb) (c_law_any_row base tb) D_law_code (He.glo_ok X G (c.t.d.fact 29 (f := .glo "_law_code") rfl)) (D_law_code.bindsN fun _ _ _ _ _ _ us hl => match us, hl with | [_], _ => rfl)
  obtain ⟨fd_law_inputs, D_law_inputs⟩ := c.t.d.def_ 32 (d := d_law_inputs) rfl
  have c_law_inputs : ∀ (base : Heap) (tb : ∀ p ∈ [He.cT K ("found_places", none), He.cT K ("parts_of", none)], TabB base mg p.1 p.2), Cl P w K mg base 2 "_law_inputs" (sp_law_inputs K w) := fun base tb => cl_law_inputs B C F (c_law_draw base tb) D_law_inputs (He.glo_ok X G (c.t.d.fact 30 (f := .glo "_law_inputs") rfl)) (D_law_inputs.bindsN fun _ _ _ _ _ _ us hl => match us, hl with | [_], _ => rfl)
  obtain ⟨fd_law_blocks, D_law_blocks⟩ := c.t.d.def_ 33 (d := d_law_blocks) rfl
  have c_law_blocks : ∀ (base : Heap) (tb : ∀ p ∈ [He.cT K ("found_places", none), He.cT K ("parts_of", none)], TabB base mg p.1 p.2), Cl P w K mg base 2 "_law_blocks" (sp_law_blocks K w) := fun base tb => cl_law_blocks B C F (c_law_draw base tb) D_law_blocks (He.glo_ok X G (c.t.d.fact 31 (f := .glo "_law_blocks") rfl)) (D_law_blocks.bindsN fun _ _ _ _ _ _ us hl => match us, hl with | [_], _ => rfl)
  obtain ⟨fd_law_right, D_law_right⟩ := c.t.d.def_ 34 (d := d_law_right) rfl
  have c_law_right : ∀ (base : Heap) (tb : ∀ p ∈ [He.cT K ("found_places", none), He.cT K ("parts_of", none)], TabB base mg p.1 p.2), Cl P w K mg base 9 "_law_right" (sp_law_right K w) := fun base tb => cl_law_right B C F (c_found_rows base tb) (c_parts_of base tb) (c_lost_bytes base tb) (c_row_at base tb) (c_goes_on base tb) (k_traced base tb) D_law_right (He.glo_ok X G (c.t.d.fact 32 (f := .glo "_law_right") rfl)) (D_law_right.bindsN fun _ _ _ _ _ _ us hl => match us, hl with | [_, _], _ => rfl)
  obtain ⟨fd_law, D_law⟩ := c.t.d.def_ 35 (d := d_law) rfl
  have e := hfa.symm.trans (He.glo_ok X G (c.t.d.fact 33 (f := .glo "law") rfl))
  cases e
  have b := FunD.bindsA (ps := ["_law_script"]) D_law fun _ _ _ _ _ _ us hl => match us, hl with | [_], _ => rfl
  exact ⟨fd_law, fun s v => b s [v] rfl, fun base _ _ tb => fnok_law B C F (c_law_reel base tb) (c_law_draw base tb) (c_law_blocks base tb) (c_law_code base tb) (c_law_right base tb) (c_law_inputs base tb) D_law⟩
end Rl
open PySem PySem.W PySem.Calls PyProof.Rows
theorem PySem.Challenge.cw_rowlift_k22_whole_runs_come_to_found_row_holds : PySem.Challenge.rw_rowlift_k22_whole_runs_come_to_found_row.Holds := by
  w_on; o_law
  refine HandSHeadRun.head_any (r := OpenLaw.row PySem.Challenge.rw_rowlift_k22_whole_runs_come_to_found_row) (q := view (OpenLaw.row PySem.Challenge.rw_rowlift_k22_whole_runs_come_to_found_row).prog [51]) (H := Rl.hk) (ob := Rl.ob) (M := 4000) (loose := ("MOST_STEPS" :: "BOXES" :: "BYTES" :: "CELLS" :: "MOST_KEPT" :: "ALONE" :: "WORDS_OF_PAIRS" :: "WORDS_OF_NUMBERED" :: "TARGETS" :: "SINGLE" :: "JUMPS" :: "SINGLES" :: "short_row" :: "long_row" :: "row_at" :: "Old" :: "done_alone" :: "done_set" :: "done_sum" :: "done_bits" :: "done_test" :: "done_load" :: "done_store" :: "done_go" :: "done_call" :: "done_in" :: "done_out" :: "done_keep" :: "done_take" :: "DOERS" :: "whole_run" :: "traced" :: "ENDS" :: "behind_and_target" :: "goes_on" :: "is_call" :: "all_from" :: "found_places" :: "found_rows" :: "lost_bytes" :: "parts_of" :: "_law_reel" :: "_law_draw" :: "_law_any_row" :: "_law_code" :: "_law_inputs" :: "_law_right" :: "_law_blocks" :: [])) (d := HandSHeadRun.topDef (OpenLaw.row PySem.Challenge.rw_rowlift_k22_whole_runs_come_to_found_row).prog 51) (kwd := []) Rl.ob_eq
    (by kernel_rfl) (fun s => by kernel_rfl) Rl.run (by kernel_rfl) (by kernel_rfl) (by kernel_rfl) (by rfl) (by first | assumption | decide +kernel) (by decide +kernel) ⟨rfl, rfl, rfl, rfl, rfl, by decide +kernel⟩ ?hw ?hc
  case hw => w_witness2
  case hc =>
    refine LamX.walk_ofTsE (l := PySem.Challenge.rw_rowlift_k22_whole_runs_come_to_found_row) (n := 63) (k := 10) (x := "_law_script") (CX := fun _ => L2.CX0) rfl (by decide) (by kernel_rfl) ⟨rfl, by decide, by decide⟩ ?F (fun _ _ _ _ _ z => z)
    intro w mg fa h Y G hmg0
    obtain ⟨K, KX, c⟩ := Y
    have hmg : mg ("law" : PySem.Str) = some (.ref fa) := by
      have e : (HandSHeadRun.topDef (OpenLaw.row PySem.Challenge.rw_rowlift_k22_whole_runs_come_to_found_row).prog 51).name = ("law" : PySem.Str) := by kernel_rfl
      rw [← e]
      exact hmg0
    obtain ⟨fd, hb, hF⟩ := Rl.facts (P := (PySem.Challenge.rw_rowlift_k22_whole_runs_come_to_found_row).prog) (w := w) KX G hmg c
    have cs : ∀ p ∈ [He.cT K ("found_places", none), He.cT K ("parts_of", none)], ∃ d, d ∈ ([("found_places", none), ("parts_of", none)] : List He.Defn) ∧ p = He.cT K d := by simp
    refine ⟨K, KX, fd, [He.cT K ("found_places", none), He.cT K ("parts_of", none)], Rl.sp_law K w, fun p hp => ?_, fun p hp => ?_, fun p hp => ?_, hb, fun H a ns hl _ hT hS => Rl.law_in hl (Rl.nt_start K H hT) hS, hF⟩
    · obtain ⟨d, hd, rfl⟩ := cs p hp
      exact c.empty d hd
    · obtain ⟨d, hd, rfl⟩ := cs p hp
      exact c.out d hd
    · obtain ⟨d, hd, rfl⟩ := cs p hp
      exact PySem.W.codeHd_of_K KX (c.hd d hd)
