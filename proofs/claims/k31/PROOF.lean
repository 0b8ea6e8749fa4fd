import PyProof.Rows.All
import Wide.All
import OpenK.AllK
import Wide.FinOn
import KE.KStateDown
import HandS.ForMost
import HandS.Wide
import HandS.IsInst
import HandS.Style
import HandS.Conv
import HandS.Walk
import HandS.Zip
import HandS.Defaults
import HandS.More
import HandS.WordsExc
import HandS.EndBits
import HandS.Head0
import HandS.Head1
import HandS.Head2
import HandS.HeadEnd
import HandS.HeadHook1
import HandS.HeadHook2
import HandS.HeadHook3
import HandS.HeadHook4
import HandS.Strs
import HandS.SetBool
import HandS.SortInts
import HandS.DictComp
import HandS.CallLocal
import HandS.Defaults
import HandS.Replace
import HandS.Text
import HandS.TryOnly
import HandS.Nested
import HandS.HeadWalk
import KE.KUnpackStar
import PySem.Challenge.RW_rowlift_k31_whole_worths_go_together
set_option Elab.async false
set_option linter.all false
set_option maxRecDepth 100000
set_option maxHeartbeats 4000000
namespace Rl
open PySem PySem.Spec PyProof.Rows L2

/-! ## rules that take one of several -/
section
variable {X : Cx}
theorem pe_or {e : Expr} {t t' : TE} (h : PE X e t) (h' : PE X e t') : PE X e (fun σ H Q => t σ H Q ∨ t' σ H Q) :=
  ⟨fun pins s σ H Q I q => q.elim (h.run pins s σ H Q I) (h'.run pins s σ H Q I)⟩
theorem pi_or {tg e : Expr} {w w' : TI} (h : PI X tg e w) (h' : PI X tg e w') : PI X tg e (fun σ H R => w σ H R ∨ w' σ H R) :=
  ⟨fun pins s σ H R I q => q.elim (h.run pins s σ H R I) (h'.run pins s σ H R I)⟩

def rAddS : R2 := fun x y H Q => ∃ i j, x = .str i ∧ y = .str j ∧ i.length + j.length ≤ sizeLine ∧ Q (.str (i ++ j)) H
def rAddA (K : PySem.W.Frag) : R2 := fun x y H Q => rI0 (fun i j => .int (i + j)) x y H Q ∨ rAddS x y H Q ∨ rCat x y H Q ∨ rCatT K x y H Q
theorem op_addA : OpR X (binaryOp .Add) (rAddA X.K) := op_add.or (op_add_str.or (op_cat.or op_catT))
def rSubA : R2 := rI0 fun i j => .int (i - j)
theorem op_subA : OpR X (binaryOp .Sub) rSubA := op_sub
def CMulA (i j : Int) : Prop := CMul i j ∨ CMulW i j
def rMulI : R2 := rI CMulA fun i j => .int (i * j)
theorem op_mulI : OpR X (binaryOp .Mult) rMulI := opI fun _ _ _ _ _ _ _ hc q => mul_int q (hc.elim CMul.ok CMulW.ok)
def rMulA : R2 := fun x y H Q => rMulI x y H Q ∨ rRep x y H Q
theorem op_mulA : OpR X (binaryOp .Mult) rMulA := op_mulI.or op_rep
def rModA : R2 := rI (fun _ j => 0 < j) fun i j => .int (i % j)
theorem op_modA : OpR X (binaryOp .Mod) rModA := op_mod
def rDivA : R2 := rI CDivW fun i j => .int (i / j)
theorem op_divA : OpR X (binaryOp .FloorDiv) rDivA := op_fdivW
def rPowA : R2 := rI CPow fun i j => .int (i ^ j.toNat)
theorem op_powA : OpR X (binaryOp .Pow) rPowA := op_pow
def rShlA : R2 := rI CPow fun i j => .int (i * 2 ^ j.toNat)
theorem op_shlA : OpR X (binaryOp .LShift) rShlA := op_shl
def rShrA : R2 := rI (fun _ j => 0 ≤ j) fun i j => .int (i / 2 ^ j.toNat)
theorem op_shrA : OpR X (binaryOp .RShift) rShrA := op_shr
def rAndA : R2 := rI0 fun i j => .int (Builtin.bitAnd i j)
theorem op_andA : OpR X (binaryOp .BitAnd) rAndA := op_and
def rOrA : R2 := rI0 fun i j => .int (Builtin.bitOr i j)
theorem op_orA : OpR X (binaryOp .BitOr) rOrA := op_or
def rXorA : R2 := rI0 fun i j => .int (Builtin.bitXor i j)
theorem op_xorA : OpR X (binaryOp .BitXor) rXorA := op_xor
def rLtA : R2 := rI0 fun i j => .bl (decide (i < j))
theorem op_ltA : OpR X (compareOp .Lt) rLtA := op_lt
def rLeA : R2 := rI0 fun i j => .bl (decide (i ≤ j))
theorem op_leA : OpR X (compareOp .LtE) rLeA := op_le
def rGtA : R2 := rI0 fun i j => .bl (decide (j < i))
theorem op_gtA : OpR X (compareOp .Gt) rGtA := op_gt
def rGeA : R2 := rI0 fun i j => .bl (decide (j ≤ i))
theorem op_geA : OpR X (compareOp .GtE) rGeA := op_ge
def rEqA (K : PySem.W.Frag) : R2 := fun x y H Q => rEq x y H Q ∨ rEqD K x y H Q
theorem op_eqA (hu : X.A.units + 64 < cLine) : OpR X (compareOp .Eq) (rEqA X.K) := op_eq.or (op_eqD hu)
def rNeA (K : PySem.W.Frag) : R2 := fun x y H Q => rNe x y H Q ∨ rNeD K x y H Q
theorem op_neA (hu : X.A.units + 64 < cLine) : OpR X (compareOp .NotEq) (rNeA X.K) := op_ne.or (op_neD hu)
def rIsN : R2 := fun u v H Q => v = .non ∧ Q (.bl (decide (u = .non))) H
theorem op_isN1 : OpR X (compareOp .Is) rIsN := op_isN
def rNotN : R2 := fun u v H Q => v = .non ∧ Q (.bl (!decide (u = .non))) H
theorem op_notN1 : OpR X (compareOp .IsNot) rNotN := op_notN
/-- one sign (or a text) in a text -/
def rInSA : R2 := fun x y H Q => ∃ i j, x = .str i ∧ y = .str j ∧ Q (.bl (!(Builtin.Str.occurrences j i 0 j.length 1).isEmpty)) H
theorem op_inSA : OpR X (compareOp .In) rInSA := op_in_str
def rNiSA : R2 := fun x y H Q => ∃ i j, x = .str i ∧ y = .str j ∧ Q (.bl (!(!(Builtin.Str.occurrences j i 0 j.length 1).isEmpty))) H
theorem op_niSA : OpR X (compareOp .NotIn) rNiSA := op_notIn_str
/-- slices of lists, texts, tuples -/
def rSlA (K : PySem.W.Frag) : V → Option Int → Option Int → Hp → VK → Prop := fun x lo hi H Q => rSlL K x lo hi H Q ∨ rSlT K x lo hi H Q
theorem sl_A : SlR X (rSlA X.K) := sl_list.or sl_tup
/-- calls of built-ins -/
def rLenA (K : PySem.W.Frag) : List V → Hp → VK → Prop := fun xs H Q => ∃ x n, xs = [x] ∧ LenV K x H n ∧ Q (.int n) H
theorem call_lenA : CallR X (.builtin "len") (rLenA X.K) := call_len
def rInt1 : List V → Hp → VK → Prop := fun xs H Q => (∃ i, xs = [.int i] ∧ Q (.int i) H) ∨ ∃ k, xs = [.bl k] ∧ Q (.int (if k then 1 else 0)) H
theorem call_intA : CallR X (.type "int") rInt1 := call_int1
def rAbs : List V → Hp → VK → Prop := fun xs H Q => ∃ i, xs = [.int i] ∧ Q (.int (if i < 0 then -i else i)) H
theorem call_absA : CallR X (.builtin "abs") rAbs := call_abs
def rMin2 : List V → Hp → VK → Prop := fun xs H Q => ∃ i j, xs = [.int i, .int j] ∧ Q (.int (if j < i then j else i)) H
theorem call_min2A (hc : X.calm = true) : CallR X (.builtin "min") rMin2 := call_min2 hc
def rMax2 : List V → Hp → VK → Prop := fun vs H Q => ∃ m n, vs = [.int m, .int n] ∧ Q (.int (if n > m then n else m)) H
theorem call_max2A (hc : X.calm = true) : CallR X (.builtin "max") rMax2 := call_max2 hc
def rListA (K : PySem.W.Frag) : List V → Hp → VK → Prop := fun xs H Q => ∃ p ys, xs = [.ref p] ∧ (SqL K H p ys ∨ SqT K H p ys) ∧ ∀ l, H l = none → Q (.ref l) (upd H l (.lst ys))
theorem call_listA : CallR X (.type "list") (rListA X.K) := call_list_of
def rTupA (K : PySem.W.Frag) : List V → Hp → VK → Prop := fun xs H Q => ∃ p ys, xs = [.ref p] ∧ ((SqL K H p ys ∧ ∀ l, H l = none → Q (.ref l) (upd H l (.tup ys))) ∨ (SqT K H p ys ∧ Q (.ref p) H))
theorem call_tupA : CallR X (.type "tuple") (rTupA X.K) := call_tuple_of
/-- a for over a list or a tuple -/
def iSeq (K : PySem.W.Frag) (tl : TE) : TI := fun σ H R => tl σ H fun x H1 => (∃ a, x = .ref a ∧ (∃ xs, SqL K H1 a xs) ∧ R (Itl K a) H1) ∨ (∃ a, x = .ref a ∧ (∃ xs, SqT K H1 a xs) ∧ R (Itt K a) H1)
theorem pi_seq {tg l : Expr} {tl : TE} (hl : PE X l tl) : PI X tg l (iSeq X.K tl) := by
  refine ⟨fun pins s σ H R I go => thn (hl.run pins s σ H _ I go) fun v t ⟨x, Ht, It, rv, ways⟩ => ?_⟩
  -- the new iterator stands apart
  have apart : ∀ b ∈ [t.heap.objs.size], FpOk X pins Ht b := fun b hb => by
    rw [List.mem_singleton.mp hb]
    exact It.fpOk (Nat.le_refl _) (It.hok.fresh (Nat.le_refl _))
  rcases ways with ⟨a, rfl, ⟨xs, seq⟩, go2⟩ | ⟨a, rfl, ⟨xs, seq⟩, go2⟩
  · cases rv
    obtain ⟨items, _, isL, _⟩ := It.list seq
    exact wpAny_pyIter_list isL.isList ⟨_, _, _, _, Ht, rfl, It.kept (t' := t.toks) fun _ _ e => Heap.get?_push_of_some _ e, turn_list a _, ⟨_, Heap.get?_push_size _ rfl, rfl, rfl⟩, apart, go2⟩
  · cases rv
    obtain ⟨items, _, isT, _⟩ := It.tuple seq
    exact wpAny_pyIter_tuple (show t.heap.IsTuple a items.toArray from isT) ⟨_, _, _, _, Ht, rfl, It.kept (t' := t.toks) fun _ _ e => Heap.get?_push_of_some _ e, turn_tuple a _, ⟨_, Heap.get?_push_size _ rfl, rfl, rfl⟩, apart, go2⟩
/-- a module's constant -/
theorem pe_gcn {x : Str} {v : V} {f : Tok → Value} {pos : Pos} (hg : Gl X x) (h : ∃ t, X.mg x = some (f t)) (r : ∀ t, RelV v (f t) := by intro t; exact ⟨t, rfl⟩) (hd : (x == ("__debug__" : Str)) = false := by decide) : PE X (.Name x pos) (tC v) := by
  obtain ⟨t, hm⟩ := h
  exact pe_glob hg hm (r t) hd
def tTru (K : PySem.W.Frag) (te : TE) : TT := fun σ H Q => te σ H fun v H' => ∃ b, TruV K v H' b ∧ Q b H'
end

/-! ## dicts of the written part, keys ints or texts -/
/-- at a a dict of the written part: what it has, by its pairs -/
structure KD (K : PySem.W.Frag) (w : World) (a : Addr) (kvs : List (Key × V)) : Prop where
  lo : (a == sysModules) = false
  get : ∀ (P : Program) (h : Heap), K.In h → ∃ f : Key → Option Value, h.MapOf (mixKind P w) a f ∧ ∀ k, RelO (valV kvs k) (f k)
def rIxKD (K : PySem.W.Frag) (w : World) : R2 := fun x y H Q => ∃ a kvs k v, x = .ref a ∧ y = kV k ∧ KD K w a kvs ∧ valV kvs k = some v ∧ Q v H
def rInKD (K : PySem.W.Frag) (w : World) : R2 := fun x y H Q => ∃ a kvs k, y = .ref a ∧ x = kV k ∧ KD K w a kvs ∧ Q (.bl (valV kvs k).isSome) H
def rInNotKD (K : PySem.W.Frag) (w : World) : R2 := fun x y H Q => ∃ a kvs k, y = .ref a ∧ x = kV k ∧ KD K w a kvs ∧ Q (.bl (!(valV kvs k).isSome)) H
section
variable {X : Cx}
theorem ix_KD : IxR X (rIxKD X.K X.w) := by
  intro base part pins s σ H x y v u Q I rx ry go hs
  obtain ⟨a, kvs, k, r, rfl, rfl, D, hv, q⟩ := go
  cases (show v = Value.ref a from rx)
  obtain ⟨f, isD, same⟩ := D.get X.prog s.heap I.kIn
  have hk := same k
  rw [hv] at hk
  obtain ⟨z, hz, rz⟩ := RelO.some_of hk
  exact tail_any isD.typeIs slot_dict_getitem.lookup (wpAny_getItem_of (kV_is ry) isD hz ⟨r, H, I.tok _, rz, q⟩) hs
theorem op_inKD : OpR X (compareOp .In) (rInKD X.K X.w) := by
  intro pins s σ H x y v u Q I rx ry go
  obtain ⟨a, kvs, k, rfl, rfl, D, q⟩ := go
  cases (show u = Value.ref a from ry)
  obtain ⟨f, isD, same⟩ := D.get X.prog s.heap I.kIn
  exact wpAny_in_of (kV_is rx) D.lo isD ⟨.bl _, H, I.tok _, rfl, by rw [← (same k).isSome_eq]; exact q⟩
theorem op_inNotKD : OpR X (compareOp .NotIn) (rInNotKD X.K X.w) := by
  intro pins s σ H x y v u Q I rx ry go
  obtain ⟨a, kvs, k, rfl, rfl, D, q⟩ := go
  cases (show u = Value.ref a from ry)
  obtain ⟨f, isD, same⟩ := D.get X.prog s.heap I.kIn
  exact wpAny_notIn_of (kV_is rx) D.lo isD ⟨.bl _, H, I.tok _, rfl, by rw [← (same k).isSome_eq]; exact q⟩
end
/-- a written dict with int keys: a look that the head can take -/
def kdI (K : PySem.W.Frag) (a : Addr) (kvs : List (Int × He.Dv)) : Bool := match K.lookup a with
  | some ⟨.type c, none, .dict es _, sl⟩ => decide (c = "dict") && (sl.isEmpty && (!(a == sysModules) && kdAll K es.toList kvs))
  | _ => false
where
  kdAll (K : PySem.W.Frag) : List DictEntry → List (Int × He.Dv) → Bool
    | [], [] => true
    | e :: es, (k, d) :: r => (match e.key with
      | .int j _ => decide (j = k)
      | _ => false) && (decide (e.hash = hashInt k) && (He.relB (d.v K) e.val && kdAll K es r))
    | _, _ => false
theorem kdI_find {K : PySem.W.Frag} {w : World} (P : Program) : ∀ {es : List DictEntry} {kvs : List (Int × He.Dv)}, kdI.kdAll K es kvs = true →
    (∀ e ∈ es, ∃ k, (mixKind P w).is k e.key = true ∧ e.hash = (mixKind P w).hash k) ∧
    ∀ k, RelO (valV (kvs.map fun p => ((Sum.inl p.1 : Key), p.2.v K)) k) ((es.find? fun e => (mixKind P w).is k e.key).map (·.val))
  | [], [], _ => ⟨fun e he => (by cases he), fun k => True.intro⟩
  | e :: es, (j, d) :: r, h => by
    obtain ⟨h1, h2⟩ := He.ba (show ((match e.key with
      | .int i _ => decide (i = j)
      | _ => false) && (decide (e.hash = hashInt j) && (He.relB (d.v K) e.val && kdI.kdAll K es r))) = true from h)
    obtain ⟨h3, h4⟩ := He.ba h2
    obtain ⟨h5, h6⟩ := He.ba h4
    obtain ⟨i1, i2⟩ := kdI_find (w := w) P h6
    obtain ⟨t, ek⟩ : ∃ t, e.key = .int j t := by
      cases q : e.key with
      | int i t =>
        rw [q] at h1
        exact ⟨t, by rw [of_decide_eq_true h1]⟩
      | _ =>
        rw [q] at h1
        cases h1
    have e1 : (mixKind P w).is (Sum.inl j : Key) e.key = true := by
      rw [ek]
      exact keyIs_int j t
    refine ⟨fun e' he => ?_, fun k => ?_⟩
    · rcases List.mem_cons.mp he with q | q
      · rw [q]
        exact ⟨Sum.inl j, e1, of_decide_eq_true h3⟩
      · exact i1 e' q
    · rw [List.map_cons]
      by_cases q : (Sum.inl j : Key) = k
      · have q2 : (mixKind P w).is k e.key = true := by rw [← q]; exact e1
        rw [List.find?_cons_of_pos (p := fun (e : DictEntry) => (mixKind P w).is k e.key) q2, valV_pos (p := ((Sum.inl j : Key), d.v K)) q]
        exact He.relB_ok h5
      · have q2 : ¬ (mixKind P w).is k e.key = true := fun z => q ((mixKind P w).inj _ _ _ e1 z)
        rw [List.find?_cons_of_neg (p := fun (e : DictEntry) => (mixKind P w).is k e.key) q2, valV_neg (p := ((Sum.inl j : Key), d.v K)) q]
        exact i2 k
  | [], _ :: _, h => by cases h
  | _ :: _, [], h => by cases h
theorem kdI_ok {K : PySem.W.Frag} {w : World} {a : Addr} {kvs : List (Int × He.Dv)} (h : kdI K a kvs = true) : KD K w a (kvs.map fun p => (Sum.inl p.1, p.2.v K)) := by
  unfold kdI at h
  cases q : K.lookup a with
  | none =>
    rw [q] at h
    cases h
  | some o =>
    obtain ⟨oc, od, dt, osl⟩ := o
    rw [q] at h
    cases oc with
    | type c =>
      cases od with
      | none =>
        cases dt with
        | dict es n =>
          obtain ⟨h1, h2⟩ := He.ba (show (decide (c = "dict") && (osl.isEmpty && (!(a == sysModules) && kdI.kdAll K es.toList kvs))) = true from h)
          obtain ⟨h3, h4⟩ := He.ba h2
          obtain ⟨h5, h6⟩ := He.ba h4
          have e1 : c = "dict" := of_decide_eq_true h1
          have e2 : osl = #[] := Array.isEmpty_iff.mp h3
          have notSys : (a == sysModules) = false := by
            cases y : (a == sysModules) with
            | false => rfl
            | true =>
              rw [y] at h5
              cases h5
          subst e1 e2
          refine ⟨notSys, fun P hp X => ?_⟩
          obtain ⟨i1, i2⟩ := kdI_find (w := w) P h6
          refine ⟨fun k => findBy (mixKind P w).is es k, ⟨_, es, n, X _ _ q, ⟨rfl, rfl, rfl⟩, rfl, fun e he => i1 e (Array.mem_toList_iff.mpr he), fun k => rfl⟩, fun k => ?_⟩
          have z := i2 k
          obtain ⟨l⟩ := es
          show RelO _ ((Array.find? (fun e => (mixKind P w).is k e.key) l.toArray).map (·.val))
          rw [List.find?_toArray]
          exact z
        | _ => cases h
      | some _ => cases dt <;> (cases h)
    | _ => cases od <;> cases dt <;> (cases h)

/-! ## defs that are called by their names -/
abbrev FnP (K : PySem.W.Frag) (x : Str) (st : Stmt) (f : Addr) (fd : FuncData) : Prop := FunD K x x (defArgs st) (defBody st) (defScope st) [] [] f fd
/-- a def that may be called by its name, every parameter given -/
structure Cl (P : Program) (w : World) (K : PySem.W.Frag) (mg : Str → Option Value) (base : Heap) (k : Nat) (x : Str) (sp : Sp) : Prop where
  ex : ∃ (f : Addr) (fd : FuncData) (ps : List Str), FnOk P w K mg base CX0 k f fd ps sp ∧ mg x = some (.ref f) ∧ PySem.W.keepIn K (.ref f) = true ∧ Binds K fd ps []
section
variable {K : PySem.W.Frag} {P : Program} {w : World} {base : Heap} {mg : Str → Option Value}
theorem fn_of1 {x : Str} {st : Stmt} {f : Addr} {fd : FuncData} {N ps : List Str} {k : Nat} {sp : Sp} (D : FnP K x st f fd) (S : FnScope N ps (defScope st)) (len : ∀ vs H Q E, sp vs H Q E → vs.length = ps.length)
    (hbody : ∀ (cdv : Value) (A : Around) (outer : List Env) (s : Shared) (H : Hp) (vs : List V) (Q : VK) (E : XK), Room k (A.deeper (envOfC x (defScope st) s.heap.objs.size f cdv)) → sp vs H Q E →
      ∃ t, PSs (cxOf CX0 P w K mg base N x (defScope st) f cdv A outer s H E) (defBody st) t ∧ t { nx := fun _ H' => Q .non H', rt := Q } (start N vs) H) : FnOk P w K mg base CX0 (k + 1) f fd ps sp :=
  FunD.ok D S len hbody
theorem cl_of {x : Str} {st : Stmt} {f : Addr} {fd : FuncData} {N ps : List Str} {k : Nat} {sp : Sp} (D : FnP K x st f fd) (hm : mg x = some (.ref f)) (hb : Binds K fd ps []) (S : FnScope N ps (defScope st)) (len : ∀ vs H Q E, sp vs H Q E → vs.length = ps.length)
    (hbody : ∀ (cdv : Value) (A : Around) (outer : List Env) (s : Shared) (H : Hp) (vs : List V) (Q : VK) (E : XK), Room k (A.deeper (envOfC x (defScope st) s.heap.objs.size f cdv)) → sp vs H Q E →
      ∃ t, PSs (cxOf CX0 P w K mg base N x (defScope st) f cdv A outer s H E) (defBody st) t ∧ t { nx := fun _ H' => Q .non H', rt := Q } (start N vs) H) : Cl P w K mg base (k + 1) x sp :=
  ⟨f, fd, ps, fn_of1 D S len hbody, hm, D.kp, hb⟩
end
section
variable {X : Cx} {k j : Nat} {x : Str} {sp : Sp} {p pos : Pos} {e : Expr} {es : List Expr} {t : TA}
theorem pe_cl (c : Cl X.prog X.w X.K X.mg X.base k x sp) (hr : Room j X.A) (hk : k ≤ j) (hg : Gl X x) (ha : PA X (e :: es) t)
    (hdb : (x == ("__debug__" : Str)) = false := by decide) (he : starEach (e :: es) X.env = (false, eval e X.env) :: starEach es X.env := by rfl) (hpl : (backTo pos (starEach es X.env)).any (·.1) = false := by rfl) :
    PE X (.Call (.Name x p) (e :: es) [] pos) (tCall sp [] E0 t) := by
  obtain ⟨f, fd, ps, F, hm, kp, b⟩ := c.ex
  exact pe_call F (hr.mono hk) hg hm kp b .nil pass0 ha hdb he hpl
theorem pe_cl0 (c : Cl X.prog X.w X.K X.mg X.base k x sp) (hr : Room j X.A) (hk : k ≤ j) (hg : Gl X x)
    (hdb : (x == ("__debug__" : Str)) = false := by decide) :
    PE X (.Call (.Name x p) [] [] pos) (tCall sp [] E0 tNil) := by
  obtain ⟨f, fd, ps, F, hm, kp, b⟩ := c.ex
  exact pe_call0 F (hr.mono hk) hg hm kp b .nil pass0 hdb
end

/-! ## heaps -/
theorem same_upd {H : Hp} {p : Addr} {o : HO} (h : H p = none) : Same H (upd H p o) := fun b x e => by
  rw [upd_ne (ne_of_none e h)]
  exact e
theorem upd_get {H : Hp} {p a : Addr} {o x : HO} (h : H p = none) (e : H a = some x) : upd H p o a = some x := same_upd h a x e
theorem upd_mut {H : Hp} {p a : Addr} {o x : HO} (h : a ≠ p) (e : H a = some x) : upd H p o a = some x := by
  rw [upd_ne h]
  exact e
/-- the heap without what stands at r -/
def but (r : Addr) (H : Hp) : Hp := fun a => if a = r then none else H a
theorem but_same {r : Addr} {H : Hp} : Same (but r H) H := fun b o e => by
  unfold but at e
  split at e
  · cases e
  · exact e
theorem but_none {r : Addr} {H : Hp} : but r H r = none := by
  unfold but
  rw [if_pos rfl]
theorem but_get {r a : Addr} {H : Hp} {o : HO} (h : a ≠ r) (e : H a = some o) : but r H a = some o := by
  unfold but
  rw [if_neg h]
  exact e
theorem but_upd {r : Addr} {H : Hp} {o : HO} : but r (upd H r o) = but r H := by
  funext a
  unfold but upd
  by_cases h : a = r
  · rw [if_pos h, if_pos h]
  · rw [if_neg h, if_neg h, if_neg h]
theorem Same.but {r : Addr} {H H' : Hp} (h : Same H H') : Same (but r H) (but r H') := fun b o e => by
  unfold Rl.but at e ⊢
  split at e
  · cases e
  · rename_i q
    rw [if_neg q]
    exact h b o e
theorem sm_new {A H : Hp} {p : Addr} {o : HO} (h : H p = none) (e : Same A H) : Same A (upd H p o) := e.trans (same_upd h)
theorem sm_bnew {A H : Hp} {p r : Addr} {o : HO} (h : H p = none) (e : Same A (Rl.but r H)) : Same A (Rl.but r (upd H p o)) := e.trans (Same.but (same_upd h))
theorem sm_bmut {A H : Hp} {r : Addr} {o : HO} (e : Same A (Rl.but r H)) : Same A (Rl.but r (upd H r o)) := by
  rw [but_upd]
  exact e
theorem sm_by {A H H' : Hp} (h : Same H H') (e : Same A H) : Same A H' := e.trans h
theorem sm_bby {A H H' : Hp} {r : Addr} (h : Same H H') (e : Same A (Rl.but r H)) : Same A (Rl.but r H') := e.trans (Same.but h)
theorem same_but {t : Addr} {H : Hp} (h : H t = none) : Same H (Rl.but t H) := fun a o e => but_get (ne_of_none e h) e
theorem Same.of_but {r : Addr} {H H' : Hp} (h : Same (Rl.but r H) (Rl.but r H')) {a : Addr} {o : HO} (n : a ≠ r) (e : H a = some o) : H' a = some o := but_same a o (h a o (but_get n e))
theorem Same.seqT {K : PySem.W.Frag} {H H' : Hp} {a : Addr} {xs : List V} (e : Same H H') (h : SqT K H a xs) : SqT K H' a xs := by
  rcases h with (g | ⟨o, g⟩) | g
  · exact .inl (.inl (e _ _ g))
  · exact .inl (.inr ⟨o, e _ _ g⟩)
  · exact .inr g
theorem SqL.mono {K : PySem.W.Frag} {H H' : Hp} {a : Addr} {xs : List V} (e : Same H H') (h : SqL K H a xs) : SqL K H' a xs := e.seq h
theorem SqT.mono {K : PySem.W.Frag} {H H' : Hp} {a : Addr} {xs : List V} (e : Same H H') (h : SqT K H a xs) : SqT K H' a xs := Same.seqT e h
mutual
theorem Dp.mono {K : PySem.W.Frag} {H H' : Hp} (e : Same H H') : ∀ {d : PyData} {v : V}, Dp K H v d → Dp K H' v d
  | _, _, .non => .non
  | _, _, .bl b => .bl b
  | _, _, .int i => .int i
  | _, _, .str x => .str x
  | _, _, .lst hs ha => .lst (e.seq hs) (DpAll.mono e ha)
  | _, _, .tup hs ha => .tup (Same.seqT e hs) (DpAll.mono e ha)
theorem DpAll.mono {K : PySem.W.Frag} {H H' : Hp} (e : Same H H') : ∀ {ds : List PyData} {vs : List V}, DpAll K H vs ds → DpAll K H' vs ds
  | _, _, .nil => .nil
  | _, _, .cons a b => .cons (Dp.mono e a) (DpAll.mono e b)
end
theorem dp_none {K : PySem.W.Frag} {H : Hp} {v : V} (h : Dp K H v .none) : v = .non := by
  cases h
  rfl
theorem dp_int {K : PySem.W.Frag} {H : Hp} {v : V} {i : Int} (h : Dp K H v (.int i)) : v = .int i := by
  cases h
  rfl
theorem dp_bool {K : PySem.W.Frag} {H : Hp} {v : V} {i : Bool} (h : Dp K H v (.bool i)) : v = .bl i := by
  cases h
  rfl
theorem dp_str {K : PySem.W.Frag} {H : Hp} {v : V} {i : Str} (h : Dp K H v (.str i)) : v = .str i := by
  cases h
  rfl
theorem dp_tup {K : PySem.W.Frag} {H : Hp} {v : V} {ds : List PyData} (h : Dp K H v (.tuple ds)) : ∃ p xs, v = .ref p ∧ SqT K H p xs ∧ DpAll K H xs ds := by
  cases h with
  | tup hs ha => exact ⟨_, _, rfl, hs, ha⟩
theorem dp_lst {K : PySem.W.Frag} {H : Hp} {v : V} {ds : List PyData} (h : Dp K H v (.list ds)) : ∃ p xs, v = .ref p ∧ SqL K H p xs ∧ DpAll K H xs ds := by
  cases h with
  | lst hs ha => exact ⟨_, _, rfl, hs, ha⟩
theorem DpAll.length {K : PySem.W.Frag} {H : Hp} : ∀ {vs : List V} {ds : List PyData}, DpAll K H vs ds → vs.length = ds.length
  | _, _, .nil => rfl
  | _, _, .cons _ t => by rw [List.length_cons, List.length_cons, DpAll.length t]
theorem DpAll.get {K : PySem.W.Frag} {H : Hp} : ∀ {vs : List V} {ds : List PyData}, DpAll K H vs ds → ∀ {i : Nat} {v : V}, vs[i]? = some v → ∃ d, ds[i]? = some d ∧ Dp K H v d
  | _, _, .nil, i, v, h => by cases h
  | _, _, .cons (d := d) a t, 0, v, h => ⟨d, rfl, by
    have e := Option.some.inj h
    rw [← e]
    exact a⟩
  | _, _, .cons _ t, i + 1, v, h => DpAll.get t (i := i) h
theorem DpAll.ints {K : PySem.W.Frag} {H : Hp} : ∀ ns : List Int, DpAll K H (ns.map V.int) (ns.map PyData.int)
  | [] => .nil
  | n :: ns => .cons (.int n) (DpAll.ints ns)
theorem DpAll.of_ints {K : PySem.W.Frag} {H : Hp} : ∀ {vs : List V} {ns : List Int}, DpAll K H vs (ns.map PyData.int) → vs = ns.map V.int
  | _, [], h => by
    cases h
    rfl
  | _, n :: ns, h => by
    cases h with
    | cons a t => rw [dp_int a, DpAll.of_ints t]; rfl
/-! ## slices, repeated lists -/
theorem drop_min {α : Type} (xs : List α) (k : Nat) : xs.drop (min k xs.length) = xs.drop k := by
  by_cases h : k ≤ xs.length
  · rw [Nat.min_eq_left h]
  · rw [Nat.min_eq_right (by omega), List.drop_length, List.drop_eq_nil_of_le (by omega)]
theorem take_min {α : Type} (xs : List α) (k : Nat) : xs.take (min k xs.length) = xs.take k := by
  by_cases h : k ≤ xs.length
  · rw [Nat.min_eq_left h]
  · rw [Nat.min_eq_right (by omega), List.take_length, List.take_of_length_le (by omega)]
/-- xs[k:] -/
theorem cut_from (xs : List V) (k : Nat) : cutV xs (some (k : Int)) none = xs.drop k := by
  unfold cutV
  rw [HT.sIx_nat, HT.sIx_none, drop_min]
  refine List.take_of_length_le ?_
  rw [List.length_drop]
  omega
/-- xs[:k] -/
theorem cut_to (xs : List V) (k : Nat) : cutV xs none (some (k : Int)) = xs.take k := by
  unfold cutV
  rw [HT.sIx_nat, HT.sIx_none, List.drop_zero, Nat.sub_zero, take_min]
theorem cut_fromI (xs : List V) {i : Int} (h : 0 ≤ i) : cutV xs (some i) none = xs.drop i.toNat := by
  have e : ((i.toNat : Nat) : Int) = i := Int.toNat_of_nonneg h
  rw [← cut_from, e]
theorem cut_toI (xs : List V) {i : Int} (h : 0 ≤ i) : cutV xs none (some i) = xs.take i.toNat := by
  have e : ((i.toNat : Nat) : Int) = i := Int.toNat_of_nonneg h
  rw [← cut_to, e]
theorem rep_if (x : V) (b : Bool) : (List.replicate (if b then (1 : Int) else 0).toNat [x]).flatten = if b then [x] else [] := by
  cases b <;> rfl
theorem rep_one (x : V) (n : Nat) : (List.replicate n [x]).flatten = List.replicate n x := by
  induction n with
  | zero => rfl
  | succ n ih => rw [List.replicate_succ, List.flatten_cons, ih]; rfl
/-! ## the type of data -/
def tyD : PyData → String
  | .none => "NoneType"
  | .bool _ => "bool"
  | .int _ => "int"
  | .str _ => "str"
  | .list _ => "list"
  | .tuple _ => "tuple"
  | .dict _ => "dict"
theorem sql_ty {K : PySem.W.Frag} {H : Hp} {a : Addr} {xs : List V} (h : SqL K H a xs) : TyX K H (.ref a) (.type "list") := by
  rcases h with (h | ⟨o, h⟩) | ⟨o, its, n, h1, h2, _⟩
  · exact .base (.lst h)
  · exact .base (.frz h)
  · exact .kList h1 h2
theorem sqt_ty {K : PySem.W.Frag} {H : Hp} {a : Addr} {xs : List V} (h : SqT K H a xs) : TyX K H (.ref a) (.type "tuple") := by
  rcases h with (h | ⟨o, h⟩) | ⟨o, its, n, h1, h2, _⟩
  · exact .base (.tup h)
  · exact .fTuple h
  · exact .kTuple h1 h2
theorem Dp.ty {K : PySem.W.Frag} {H : Hp} {v : V} {d : PyData} (h : Dp K H v d) : TyX K H v (.type (tyD d)) := by
  cases h with
  | non => exact .base .non
  | bl b => exact .base (.bl b)
  | int i => exact .base (.int i)
  | str x => exact .base (.str x)
  | lst hs _ => exact sql_ty hs
  | tup hs _ => exact sqt_ty hs
end Rl
namespace Rl.R
open PySem PySem.Spec PyProof.Rows L2 Rl
/-! ## one step of a reading -/
section
variable {K : PySem.W.Frag} {σ : L2.St} {H : Hp} {Q : VK} {QA : List V → Hp → Prop} {QB : Bool → Hp → Prop} {ta tb tc te : TE} {tr : TA} {x y z v : V} {i j : Int} {n : Nat}
theorem var (q : Q v H) (h : σ[n]? = some (some v) := by with_unfolding_all rfl) : tVar n σ H Q := ⟨v, h, q⟩
theorem c (q : Q v H) : tC v σ H Q := q
theorem op {r : R2} (q : ta σ H fun x H1 => tb σ H1 fun y H2 => r x y H2 Q) : tOp r ta tb σ H Q := q
theorem un {r : V → Hp → VK → Prop} (q : ta σ H fun x H1 => r x H1 Q) : tUn r ta σ H Q := q
theorem neg (q : Q (.int (-i)) H) : rU (fun i => .int (-i)) (.int i) H Q := ⟨i, rfl, q⟩
theorem test (q : te σ H fun x H' => ∃ k, x = .bl k ∧ QB k H') : tTest te σ H QB := q
theorem tB' (q : te σ H fun x H' => ∃ k, x = .bl k ∧ QB k H') : tB te σ H QB := q
theorem bl {b : Bool} {F : Bool → Prop} (q : F b) : ∃ k, V.bl b = .bl k ∧ F k := ⟨b, rfl, q⟩
theorem tru (q : te σ H fun x H' => ∃ k, TruV K x H' k ∧ QB k H') : tTru K te σ H QB := q
theorem and' {t u : TT} (q : t σ H fun c H1 => if c = true then u σ H1 QB else QB false H1) : tAnd t u σ H QB := q
theorem or' {t u : TT} (q : t σ H fun c H1 => if c = true then QB true H1 else u σ H1 QB) : tOr t u σ H QB := q
theorem not' {t : TT} (q : t σ H fun c H1 => QB (!c) H1) : tNot t σ H QB := q
theorem yes (q : QB true H) : tYes σ H QB := q
theorem andV (q : ta σ H fun x H1 => ∃ c, x = .bl c ∧ if c = true then tb σ H1 Q else Q (.bl false) H1) : tAndV ta tb σ H Q := q
theorem orV (q : ta σ H fun x H1 => ∃ c, x = .bl c ∧ if c = true then Q (.bl true) H1 else tb σ H1 Q) : tOrV ta tb σ H Q := q
theorem notV (q : ta σ H fun x H1 => ∃ c, x = .bl c ∧ Q (.bl (!c)) H1) : tNotV ta σ H Q := q
theorem ifE {t : TT} (q : t σ H fun c H1 => if c = true then ta σ H1 Q else tb σ H1 Q) : tIf t ta tb σ H Q := q
theorem cons (q : ta σ H fun x H1 => tr σ H1 fun xs H2 => QA (x :: xs) H2) : tCons ta tr σ H QA := q
theorem nil (q : QA [] H) : tNil σ H QA := q
theorem call {sp : Sp} {E : XK} (q : tr σ H fun vs H1 => sp (vs ++ []) H1 Q E) : tCall sp [] E tr σ H Q := q
theorem app {sp : Sp} {E : XK} {vs : List V} (q : sp vs H Q E) : sp (vs ++ []) H Q E := by
  rw [List.append_nil]
  exact q
theorem cb {r : List V → Hp → VK → Prop} (q : tr σ H fun vs H1 => r vs H1 Q) : tCB r tr σ H Q := q
theorem tup (q : tr σ H fun xs H1 => xs.length ≤ sizeLine ∧ ∀ p, H1 p = none → Q (.ref p) (upd H1 p (.tup xs))) : tTup tr σ H Q := q
theorem lst (q : tr σ H fun xs H1 => xs.length ≤ sizeLine ∧ ∀ p, H1 p = none → Q (.ref p) (upd H1 p (.lst xs))) : tLst tr σ H Q := q
theorem sl {r : V → Option Int → Option Int → Hp → VK → Prop} {tl th : TO} (q : te σ H fun x H1 => tl σ H1 fun l H2 => th σ H2 fun u H3 => r x l u H3 Q) : tSl r te tl th σ H Q := q
theorem noPart {QO : Option Int → Hp → Prop} (q : QO none H) : tNoPart σ H QO := q
theorem part {QO : Option Int → Hp → Prop} (q : te σ H fun x H1 => ∃ i, x = .int i ∧ QO (some i) H1) : tPart te σ H QO := q
theorem exI {F : Int → Prop} (q : F i) : ∃ k, V.int i = .int k ∧ F k := ⟨i, rfl, q⟩
theorem chain {r r' : R2} (q : ta σ H fun x H1 => tb σ H1 fun y H2 => r x y H2 fun z H3 => ∃ k, z = .bl k ∧ (if k = true then tc σ H3 fun w' H4 => r' y w' H4 Q else Q (.bl false) H3)) : tChain r r' ta tb tc σ H Q := q
/-! operators by values -/
theorem addI (q : Q (.int (i + j)) H) : rAddA K (.int i) (.int j) H Q := .inl ⟨i, j, rfl, rfl, q⟩
theorem addS {a b : Str} (h : a.length + b.length ≤ sizeLine) (q : Q (.str (a ++ b)) H) : rAddA K (.str a) (.str b) H Q := .inr (.inl ⟨a, b, rfl, rfl, h, q⟩)
theorem cat {p b : Addr} {xs ys : List V} (h : H p = some (.lst xs)) (h2 : H b = some (.lst ys)) (hl : xs.length + ys.length ≤ sizeLine) (q : ∀ l, H l = none → Q (.ref l) (upd H l (.lst (xs ++ ys)))) : rAddA K (.ref p) (.ref b) H Q :=
  .inr (.inr (.inl ⟨p, b, xs, ys, rfl, rfl, h, h2, hl, q⟩))
theorem catT {p b : Addr} {xs ys : List V} (h : SqT K H p xs) (h2 : SqT K H b ys) (h0 : xs ≠ []) (hl : xs.length + ys.length ≤ sizeLine) (q : ys = [] → Q (.ref p) H) (q2 : ys ≠ [] → ∀ l, H l = none → Q (.ref l) (upd H l (.tup (xs ++ ys)))) : rAddA K (.ref p) (.ref b) H Q :=
  .inr (.inr (.inr ⟨p, b, xs, ys, rfl, rfl, h, h2, h0, hl, q, q2⟩))
theorem subI (q : Q (.int (i - j)) H) : rSubA (.int i) (.int j) H Q := ⟨i, j, rfl, rfl, q⟩
theorem mulI (h : CMulA i j) (q : Q (.int (i * j)) H) : rMulA (.int i) (.int j) H Q := .inl ⟨i, j, rfl, rfl, h, q⟩
theorem rep {p : Addr} {xs : List V} (h : H p = some (.lst xs)) (h1 : -(2 ^ 63) ≤ i) (h2 : i < 2 ^ 63) (hl : xs.length * i.toNat ≤ sizeLine) (q : ∀ l, H l = none → Q (.ref l) (upd H l (.lst (List.replicate i.toNat xs).flatten))) : rMulA (.ref p) (.int i) H Q :=
  .inr ⟨p, i, xs, rfl, rfl, h, h1, h2, hl, q⟩
theorem modI (h : 0 < j) (q : Q (.int (i % j)) H) : rModA (.int i) (.int j) H Q := ⟨i, j, rfl, rfl, h, q⟩
theorem divI (h : CDivW i j) (q : Q (.int (i / j)) H) : rDivA (.int i) (.int j) H Q := ⟨i, j, rfl, rfl, h, q⟩
theorem powI (h : CPow i j) (q : Q (.int (i ^ j.toNat)) H) : rPowA (.int i) (.int j) H Q := ⟨i, j, rfl, rfl, h, q⟩
theorem shlI (h : CPow i j) (q : Q (.int (i * 2 ^ j.toNat)) H) : rShlA (.int i) (.int j) H Q := ⟨i, j, rfl, rfl, h, q⟩
theorem shrI (h : 0 ≤ j) (q : Q (.int (i / 2 ^ j.toNat)) H) : rShrA (.int i) (.int j) H Q := ⟨i, j, rfl, rfl, h, q⟩
theorem andI (q : Q (.int (Builtin.bitAnd i j)) H) : rAndA (.int i) (.int j) H Q := ⟨i, j, rfl, rfl, q⟩
theorem and3 (q : Q (.int (i % 4)) H) : rAndA (.int i) (.int 3) H Q := ⟨i, 3, rfl, rfl, by show Q (.int (Builtin.bitAnd i 3)) H; rw [bitAnd_m2]; exact q⟩
theorem and15 (h : 0 ≤ i) (q : Q (.int (i % 16)) H) : rAndA (.int i) (.int 15) H Q := ⟨i, 15, rfl, rfl, by show Q (.int (Builtin.bitAnd i 15)) H; rw [show Builtin.bitAnd i 15 = i % 16 from Bits.bitAnd_mask 4 h]; exact q⟩
theorem shr4 (q : Q (.int (i / 16)) H) : rShrA (.int i) (.int 4) H Q := ⟨i, 4, rfl, rfl, (by decide : (0 : Int) ≤ 4), q⟩
theorem shr2 (q : Q (.int (i / 4)) H) : rShrA (.int i) (.int 2) H Q := ⟨i, 2, rfl, rfl, (by decide : (0 : Int) ≤ 2), q⟩
theorem orI (q : Q (.int (Builtin.bitOr i j)) H) : rOrA (.int i) (.int j) H Q := ⟨i, j, rfl, rfl, q⟩
theorem xorI (q : Q (.int (Builtin.bitXor i j)) H) : rXorA (.int i) (.int j) H Q := ⟨i, j, rfl, rfl, q⟩
theorem ltI (q : Q (.bl (decide (i < j))) H) : rLtA (.int i) (.int j) H Q := ⟨i, j, rfl, rfl, q⟩
theorem leI (q : Q (.bl (decide (i ≤ j))) H) : rLeA (.int i) (.int j) H Q := ⟨i, j, rfl, rfl, q⟩
theorem gtI (q : Q (.bl (decide (j < i))) H) : rGtA (.int i) (.int j) H Q := ⟨i, j, rfl, rfl, q⟩
theorem geI (q : Q (.bl (decide (j ≤ i))) H) : rGeA (.int i) (.int j) H Q := ⟨i, j, rfl, rfl, q⟩
theorem dI : decide (V.int i = V.int j) = decide (i = j) := by
  rw [dec_int]
  exact (Bool.beq_eq_decide_eq i j)
theorem dS {a b : Str} : decide (V.str a = V.str b) = decide (a = b) := by
  by_cases h : a = b
  · rw [h, decide_eq_true rfl, decide_eq_true rfl]
  · rw [decide_eq_false h, decide_eq_false fun q => h (V.str.inj q)]
theorem dB {a b : Bool} : decide (V.bl a = V.bl b) = decide (a = b) := by
  by_cases h : a = b
  · rw [h, decide_eq_true rfl, decide_eq_true rfl]
  · rw [decide_eq_false h, decide_eq_false fun q => h (V.bl.inj q)]
theorem eqI (q : Q (.bl (decide (i = j))) H) : rEqA K (.int i) (.int j) H Q := .inl ⟨rfl, by rw [dI]; exact q⟩
theorem eqS {a b : Str} (q : Q (.bl (decide (a = b))) H) : rEqA K (.str a) (.str b) H Q := .inl ⟨rfl, by rw [dS]; exact q⟩
theorem eqB {a b : Bool} (q : Q (.bl (decide (a = b))) H) : rEqA K (.bl a) (.bl b) H Q := .inl ⟨rfl, by rw [dB]; exact q⟩
theorem neI (q : Q (.bl (!decide (i = j))) H) : rNeA K (.int i) (.int j) H Q := .inl ⟨rfl, by rw [dI]; exact q⟩
theorem neS {a b : Str} (q : Q (.bl (!decide (a = b))) H) : rNeA K (.str a) (.str b) H Q := .inl ⟨rfl, by rw [dS]; exact q⟩
theorem neB {a b : Bool} (q : Q (.bl (!decide (a = b))) H) : rNeA K (.bl a) (.bl b) H Q := .inl ⟨rfl, by rw [dB]; exact q⟩
theorem eqD {d e : PyData} (hx : Dp K H x d) (hy : Dp K H y e) (sd : SeqAt.shaped d = true) (se : SeqAt.shaped e = true) (q : Q (.bl (PyData.eqv d e)) H) : rEqA K x y H Q := .inr ⟨d, e, hx, hy, sd, se, q⟩
theorem neD {d e : PyData} (hx : Dp K H x d) (hy : Dp K H y e) (sd : SeqAt.shaped d = true) (se : SeqAt.shaped e = true) (q : Q (.bl (!PyData.eqv d e)) H) : rNeA K x y H Q := .inr ⟨d, e, hx, hy, sd, se, q⟩
theorem isN (q : Q (.bl (decide (x = .non))) H) : rIsN x .non H Q := ⟨rfl, q⟩
theorem notN (q : Q (.bl (!decide (x = .non))) H) : rNotN x .non H Q := ⟨rfl, q⟩
theorem isNn (q : Q (.bl true) H) : rIsN .non .non H Q := ⟨rfl, by rw [decide_eq_true rfl]; exact q⟩
theorem isNr {p : Addr} (q : Q (.bl false) H) : rIsN (.ref p) .non H Q := ⟨rfl, by rw [decide_eq_false fun z => nomatch z]; exact q⟩
theorem isNi (q : Q (.bl false) H) : rIsN (.int i) .non H Q := ⟨rfl, by rw [decide_eq_false fun z => nomatch z]; exact q⟩
theorem isNb {b : Bool} (q : Q (.bl false) H) : rIsN (.bl b) .non H Q := ⟨rfl, by rw [decide_eq_false fun z => nomatch z]; exact q⟩
theorem isNs {s : Str} (q : Q (.bl false) H) : rIsN (.str s) .non H Q := ⟨rfl, by rw [decide_eq_false fun z => nomatch z]; exact q⟩
theorem notNb {b : Bool} (q : Q (.bl true) H) : rNotN (.bl b) .non H Q := ⟨rfl, by rw [decide_eq_false fun z => nomatch z]; exact q⟩
theorem notNs {s : Str} (q : Q (.bl true) H) : rNotN (.str s) .non H Q := ⟨rfl, by rw [decide_eq_false fun z => nomatch z]; exact q⟩
theorem eqBx {b : Bool} (q : Q (.bl true) H) : rEqA K (.bl b) (.bl b) H Q := eqB (by rw [decide_eq_true rfl]; exact q)
theorem neBx {b : Bool} (q : Q (.bl false) H) : rNeA K (.bl b) (.bl b) H Q := neB (by rw [decide_eq_true rfl]; exact q)
theorem eqIx {i : Int} (q : Q (.bl true) H) : rEqA K (.int i) (.int i) H Q := eqI (by rw [decide_eq_true rfl]; exact q)
theorem neIx {i : Int} (q : Q (.bl false) H) : rNeA K (.int i) (.int i) H Q := neI (by rw [decide_eq_true rfl]; exact q)
theorem eqSx {b : Str} (q : Q (.bl true) H) : rEqA K (.str b) (.str b) H Q := eqS (by rw [decide_eq_true rfl]; exact q)
theorem neSx {b : Str} (q : Q (.bl false) H) : rNeA K (.str b) (.str b) H Q := neS (by rw [decide_eq_true rfl]; exact q)
theorem notNn (q : Q (.bl false) H) : rNotN .non .non H Q := ⟨rfl, by rw [decide_eq_true rfl]; exact q⟩
theorem notNr {p : Addr} (q : Q (.bl true) H) : rNotN (.ref p) .non H Q := ⟨rfl, by rw [decide_eq_false fun z => nomatch z]; exact q⟩
theorem notNi (q : Q (.bl true) H) : rNotN (.int i) .non H Q := ⟨rfl, by rw [decide_eq_false fun z => nomatch z]; exact q⟩
theorem inKDi {a : Addr} {w : World} {kvs : List (Key × V)} (D : KD K w a kvs) (q : Q (.bl (valV kvs (Sum.inl i)).isSome) H) : rInKD K w (.int i) (.ref a) H Q := ⟨a, kvs, Sum.inl i, rfl, rfl, D, q⟩
theorem inKDs {a : Addr} {w : World} {kvs : List (Key × V)} {s : Str} (D : KD K w a kvs) (q : Q (.bl (valV kvs (Sum.inr s)).isSome) H) : rInKD K w (.str s) (.ref a) H Q := ⟨a, kvs, Sum.inr s, rfl, rfl, D, q⟩
theorem ixKDi {a : Addr} {w : World} {kvs : List (Key × V)} (D : KD K w a kvs) (h : valV kvs (Sum.inl i) = some v) (q : Q v H) : rIxKD K w (.ref a) (.int i) H Q := ⟨a, kvs, Sum.inl i, v, rfl, rfl, D, h, q⟩
theorem ixKDs {a : Addr} {w : World} {kvs : List (Key × V)} {s : Str} (D : KD K w a kvs) (h : valV kvs (Sum.inr s) = some v) (q : Q v H) : rIxKD K w (.ref a) (.str s) H Q := ⟨a, kvs, Sum.inr s, v, rfl, rfl, D, h, q⟩
theorem valV_ints {α : Type} {f : α → V} (k : Int) : ∀ l : List (Int × α), valV (l.map fun p => ((Sum.inl p.1 : Key), f p.2)) (Sum.inl k) = (l.lookup k).map f
  | [] => rfl
  | (j, x) :: r => by
    rw [List.map_cons]
    by_cases h : j = k
    · rw [valV_pos (p := ((Sum.inl j : Key), f x)) (by rw [h]), h, List.lookup_cons_self]
      rfl
    · rw [valV_neg (p := ((Sum.inl j : Key), f x)) (fun q => h (Sum.inl.inj q)), valV_ints k r, List.lookup_cons]
      have e : (k == j) = false := beq_eq_false_iff_ne.mpr fun q => h q.symm
      rw [e]
/-! items -/
theorem ixL {p : Addr} {xs : List V} (h : SqL K H p xs) (hi : atI xs i = some v) (q : Q v H) : rIx K (.ref p) (.int i) H Q := .inl ⟨p, xs, i, v, rfl, rfl, h, hi, q⟩
theorem ixT {p : Addr} {xs : List V} (h : SqT K H p xs) (hi : atI xs i = some v) (q : Q v H) : rIx K (.ref p) (.int i) H Q := .inr (.inl ⟨p, xs, i, v, rfl, rfl, h, hi, q⟩)
theorem ixS {s : Str} {k : Nat} (hl : s.length ≤ sizeLine) (hi : atI s.cps.toList i = some k) (q : Q (.str ⟨#[k]⟩) H) : rIx K (.str s) (.int i) H Q := .inr (.inr ⟨s, i, k, rfl, rfl, hl, hi, q⟩)
theorem atI_pos {α : Type} {xs : List α} {v : α} (h0 : 0 ≤ i) (h : xs[i.toNat]? = some v) : atI xs i = some v := by
  have e : ((i.toNat : Nat) : Int) = i := Int.toNat_of_nonneg h0
  rw [← e]
  exact atI_nat h
theorem ixT0 {p : Addr} {xs : List V} (h : SqT K H p (x :: xs)) (q : Q x H) : rIx K (.ref p) (.int 0) H Q := ixT h (atI_pos (Int.le_refl 0) rfl) q
theorem ixT1 {p : Addr} {xs : List V} (h : SqT K H p (x :: y :: xs)) (q : Q y H) : rIx K (.ref p) (.int 1) H Q := ixT h (atI_pos (by decide) rfl) q
theorem ixL0 {p : Addr} {xs : List V} (h : SqL K H p (x :: xs)) (q : Q x H) : rIx K (.ref p) (.int 0) H Q := ixL h (atI_pos (Int.le_refl 0) rfl) q
theorem ixL1 {p : Addr} {xs : List V} (h : SqL K H p (x :: y :: xs)) (q : Q y H) : rIx K (.ref p) (.int 1) H Q := ixL h (atI_pos (by decide) rfl) q
/-- an item of a list of ints -/
theorem ixLI {p : Addr} {ns : List Int} (h : SqL K H p (ns.map V.int)) (h0 : 0 ≤ i) (h1 : i < ns.length) (q : ∀ m, ns[i.toNat]? = some m → m ∈ ns → Q (.int m) H) : rIx K (.ref p) (.int i) H Q := by
  have hl : i.toNat < ns.length := by omega
  have e : ns[i.toNat]? = some ns[i.toNat] := List.getElem?_eq_getElem hl
  exact ixL h (atI_pos h0 (by rw [List.getElem?_map, e]; rfl)) (q _ e (List.mem_of_getElem? e))
/-- any item of a list -/
theorem ixLV {p : Addr} {xs : List V} (h : SqL K H p xs) (h0 : 0 ≤ i) (h1 : i < xs.length) (q : ∀ m, xs[i.toNat]? = some m → m ∈ xs → Q m H) : rIx K (.ref p) (.int i) H Q := by
  have hl : i.toNat < xs.length := by omega
  have e : xs[i.toNat]? = some xs[i.toNat] := List.getElem?_eq_getElem hl
  exact ixL h (atI_pos h0 e) (q _ e (List.mem_of_getElem? e))
theorem ixTV {p : Addr} {xs : List V} (h : SqT K H p xs) (h0 : 0 ≤ i) (h1 : i < xs.length) (q : ∀ m, xs[i.toNat]? = some m → m ∈ xs → Q m H) : rIx K (.ref p) (.int i) H Q := by
  have hl : i.toNat < xs.length := by omega
  have e : xs[i.toNat]? = some xs[i.toNat] := List.getElem?_eq_getElem hl
  exact ixT h (atI_pos h0 e) (q _ e (List.mem_of_getElem? e))
theorem setL {p : Addr} {xs : List V} {QS : Hp → Prop} {k : Nat} (h : H p = some (.lst xs)) (hi : ixN xs.length i = some k) (q : QS (upd H p (.lst (xs.set k v)))) : rSetL (.ref p) (.int i) v H QS := ⟨p, xs, i, k, rfl, rfl, h, hi, q⟩
theorem ixN_pos {n : Nat} (h0 : 0 ≤ i) (h : i < n) : ixN n i = some i.toNat := by
  unfold ixN
  rw [if_pos h0, if_pos h]
theorem setLI {p : Addr} {ns : List Int} {n : Int} {QS : Hp → Prop} (h : H p = some (.lst (ns.map V.int))) (h0 : 0 ≤ i) (h1 : i < ns.length) (q : QS (upd H p (.lst ((ns.set i.toNat n).map V.int)))) : rSetL (.ref p) (.int i) (.int n) H QS :=
  setL (k := i.toNat) h (by rw [List.length_map]; exact ixN_pos h0 h1) (by rw [← List.map_set]; exact q)
theorem gName {QS : L2.St → Hp → Prop} (q : QS (σ.set n (some v)) H) : L2.gName n v σ H QS := q
theorem gSub {to ti : TE} {ts : TSet} {QS : L2.St → Hp → Prop} (q : to σ H fun o H1 => ti σ H1 fun i H2 => ts o i v H2 fun H3 => QS σ H3) : L2.gSub to ti ts v σ H QS := q
theorem gTup {k : Nat} {t : TGs} {p : Addr} {xs : List V} {QS : L2.St → Hp → Prop} (h : SqT K H p xs) (hl : xs.length = k) (q : t xs σ H QS) : L2.gTup K k t (.ref p) σ H QS := ⟨p, xs, rfl, h, hl, q⟩
theorem gCons {t : TG} {u : TGs} {vs : List V} {QS : L2.St → Hp → Prop} (q : t v σ H fun σ' H' => u vs σ' H' QS) : L2.gCons t u (v :: vs) σ H QS := ⟨v, vs, rfl, q⟩
theorem gNil {QS : L2.St → Hp → Prop} (q : QS σ H) : L2.gNil [] σ H QS := ⟨rfl, q⟩
theorem slL {p : Addr} {xs : List V} {lo hi : Option Int} (h : SqL K H p xs) (q : ∀ l, H l = none → Q (.ref l) (upd H l (.lst (cutV xs lo hi)))) : rSlA K (.ref p) lo hi H Q := .inl ⟨p, xs, rfl, h, q⟩
theorem slFrom {p : Addr} {xs : List V} (h : SqL K H p xs) (h0 : 0 ≤ i) (q : ∀ l, H l = none → Q (.ref l) (upd H l (.lst (xs.drop i.toNat)))) : rSlA K (.ref p) (some i) none H Q := slL h (by rw [cut_fromI _ h0]; exact q)
theorem slTo {p : Addr} {xs : List V} (h : SqL K H p xs) (h0 : 0 ≤ i) (q : ∀ l, H l = none → Q (.ref l) (upd H l (.lst (xs.take i.toNat)))) : rSlA K (.ref p) none (some i) H Q := slL h (by rw [cut_toI _ h0]; exact q)
theorem slFromI {p : Addr} {ns : List Int} (h : SqL K H p (ns.map V.int)) (h0 : 0 ≤ i) (q : ∀ l, H l = none → Q (.ref l) (upd H l (.lst ((ns.drop i.toNat).map V.int)))) : rSlA K (.ref p) (some i) none H Q := slFrom h h0 (by rw [← List.map_drop]; exact q)
theorem slToI {p : Addr} {ns : List Int} (h : SqL K H p (ns.map V.int)) (h0 : 0 ≤ i) (q : ∀ l, H l = none → Q (.ref l) (upd H l (.lst ((ns.take i.toNat).map V.int)))) : rSlA K (.ref p) none (some i) H Q := slTo h h0 (by rw [← List.map_take]; exact q)
theorem repIf {p : Addr} {b : Bool} (h : H p = some (.lst [x])) (q : ∀ l, H l = none → Q (.ref l) (upd H l (.lst (if b then [x] else [])))) : rMulA (.ref p) (.int (if b then 1 else 0)) H Q :=
  rep h (by split <;> decide) (by split <;> decide) (by cases b <;> exact (by decide : (1 : Nat) * 1 ≤ sizeLine ∧ 1 * 0 ≤ sizeLine).elim (fun a c => by first | exact a | exact c)) (by rw [rep_if]; exact q)
theorem repIfI {p : Addr} {b : Bool} (h : H p = some (.lst [.int j])) (q : ∀ l, H l = none → Q (.ref l) (upd H l (.lst ((if b then [j] else []).map V.int)))) : rMulA (.ref p) (.int (if b then 1 else 0)) H Q :=
  repIf h (by
    have e : (if b then [V.int j] else []) = (if b then [j] else []).map V.int := by cases b <;> rfl
    rw [e]
    exact q)
theorem catI {p b : Addr} {xs ys : List Int} (h : H p = some (.lst (xs.map V.int))) (h2 : H b = some (.lst (ys.map V.int))) (hl : xs.length + ys.length ≤ sizeLine) (q : ∀ l, H l = none → Q (.ref l) (upd H l (.lst ((xs ++ ys).map V.int)))) : rAddA K (.ref p) (.ref b) H Q :=
  cat h h2 (by rw [List.length_map, List.length_map]; exact hl) (by rw [← List.map_append]; exact q)
/-! built-ins -/
theorem lenL {p : Addr} {xs : List V} (h : SqL K H p xs) (q : Q (.int xs.length) H) : rLenA K [.ref p] H Q := ⟨.ref p, xs.length, rfl, .inl ⟨xs, h, rfl⟩, q⟩
theorem lenT {p : Addr} {xs : List V} (h : SqT K H p xs) (q : Q (.int xs.length) H) : rLenA K [.ref p] H Q := ⟨.ref p, xs.length, rfl, .inr ⟨xs, h, rfl⟩, q⟩
theorem lenLI {p : Addr} {ns : List Int} (h : SqL K H p (ns.map V.int)) (q : Q (.int ns.length) H) : rLenA K [.ref p] H Q := lenL h (by rw [List.length_map]; exact q)
theorem lenTI {p : Addr} {ns : List Int} (h : SqT K H p (ns.map V.int)) (q : Q (.int ns.length) H) : rLenA K [.ref p] H Q := lenT h (by rw [List.length_map]; exact q)
theorem lenS {s : Str} (h : s.length ≤ sizeLine) (q : Q (.int s.length) H) : rLenA K [.str s] H Q := ⟨.str s, s.length, rfl, ⟨h, rfl⟩, q⟩
theorem intI (q : Q (.int i) H) : rInt1 [.int i] H Q := .inl ⟨i, rfl, q⟩
theorem intB {b : Bool} (q : Q (.int (if b then 1 else 0)) H) : rInt1 [.bl b] H Q := .inr ⟨b, rfl, q⟩
theorem abs' (q : Q (.int (if i < 0 then -i else i)) H) : rAbs [.int i] H Q := ⟨i, rfl, q⟩
theorem min2 (q : Q (.int (if j < i then j else i)) H) : rMin2 [.int i, .int j] H Q := ⟨i, j, rfl, q⟩
theorem max2 (q : Q (.int (if j > i then j else i)) H) : rMax2 [.int i, .int j] H Q := ⟨i, j, rfl, q⟩
theorem listL {p : Addr} {xs : List V} (h : SqL K H p xs) (q : ∀ l, H l = none → Q (.ref l) (upd H l (.lst xs))) : rListA K [.ref p] H Q := ⟨p, xs, rfl, .inl h, q⟩
theorem listT {p : Addr} {xs : List V} (h : SqT K H p xs) (q : ∀ l, H l = none → Q (.ref l) (upd H l (.lst xs))) : rListA K [.ref p] H Q := ⟨p, xs, rfl, .inr h, q⟩
theorem tupL {p : Addr} {xs : List V} (h : SqL K H p xs) (q : ∀ l, H l = none → Q (.ref l) (upd H l (.tup xs))) : rTupA K [.ref p] H Q := ⟨p, xs, rfl, .inl ⟨h, q⟩⟩
theorem tupT {p : Addr} {xs : List V} (h : SqT K H p xs) (q : Q (.ref p) H) : rTupA K [.ref p] H Q := ⟨p, xs, rfl, .inr ⟨h, q⟩⟩
theorem all' {p : Addr} {bs : List Bool} (h : SqL K H p (bs.map V.bl)) (q : Q (.bl (bs.all id)) H) : rAll K [.ref p] H Q := ⟨p, bs, rfl, h, q⟩
theorem any' {p : Addr} {bs : List Bool} (h : SqL K H p (bs.map V.bl)) (q : Q (.bl (bs.any id)) H) : rAny K [.ref p] H Q := ⟨p, bs, rfl, h, q⟩
theorem isiD {d : PyData} {cT : String} {b : Bool} (h : Dp K H x d) (hk : kitB (tyD d) cT = some b) (q : Q (.bl b) H) : rIsi K [x, .ty cT] H Q := ⟨x, .ty cT, _, .type cT, b, rfl, .ty cT, Dp.ty h, kit_ty hk, q⟩
theorem isi {T cT : String} {b : Bool} (ht : TyX K H x (.type T)) (hk : kitB T cT = some b) (q : Q (.bl b) H) : rIsi K [x, .ty cT] H Q := ⟨x, .ty cT, _, .type cT, b, rfl, .ty cT, ht, kit_ty hk, q⟩
/-! tests that are known -/
theorem iT {A B : Prop} (h : A) : if true = true then A else B := iteT h
theorem iF {A B : Prop} (h : B) : if false = true then A else B := iteF h
theorem iFO {b : Bool} {A B : Prop} (h : if b = true then A else B) : if (false || b) = true then A else B := by rw [Bool.false_or]; exact h
theorem iTO {b : Bool} {A B : Prop} (h : A) : if (true || b) = true then A else B := by rw [Bool.true_or]; exact iteT h
theorem iFA {b : Bool} {A B : Prop} (h : B) : if (false && b) = true then A else B := by rw [Bool.false_and]; exact iteF h
theorem iTA {b : Bool} {A B : Prop} (h : if b = true then A else B) : if (true && b) = true then A else B := by rw [Bool.true_and]; exact h
theorem iDT {p A B : Prop} [Decidable p] (hp : p) (h : A) : if decide p = true then A else B := by rw [decide_eq_true hp]; exact iteT h
theorem iDF {p A B : Prop} [Decidable p] (hp : ¬ p) (h : B) : if decide p = true then A else B := by rw [decide_eq_false hp]; exact iteF h
theorem iD {p A B : Prop} [Decidable p] (h1 : p → A) (h2 : ¬ p → B) : if decide p = true then A else B := by
  by_cases h : p
  · rw [decide_eq_true h]
    exact iteT (h1 h)
  · rw [decide_eq_false h]
    exact iteF (h2 h)
theorem iN {p A B : Prop} [Decidable p] (h1 : ¬ p → A) (h2 : p → B) : if (!decide p) = true then A else B := by
  by_cases h : p
  · rw [decide_eq_true h]
    exact iteF (h2 h)
  · rw [decide_eq_false h]
    exact iteT (h1 h)
theorem iB {b : Bool} {A B : Prop} (h1 : b = true → A) (h2 : b = false → B) : if b = true then A else B := by
  cases b with
  | true => exact iteT (h1 rfl)
  | false => exact iteF (h2 rfl)
end
section
variable {σ : L2.St} {H : Hp} {t u : TT} {QB : Bool → Hp → Prop} {b b' : Bool}
theorem andB (ht : ∀ QB : Bool → Hp → Prop, QB b H → t σ H QB) (hu : b = true → ∀ QB : Bool → Hp → Prop, QB b' H → u σ H QB) (q : QB (b && b') H) : tAnd t u σ H QB := by
  refine ht _ ?_
  cases b with
  | true => exact iteT (hu rfl _ q)
  | false => exact iteF q
theorem orB (ht : ∀ QB : Bool → Hp → Prop, QB b H → t σ H QB) (hu : b = false → ∀ QB : Bool → Hp → Prop, QB b' H → u σ H QB) (q : QB (b || b') H) : tOr t u σ H QB := by
  refine ht _ ?_
  cases b with
  | true => exact iteT q
  | false => exact iteF (hu rfl _ q)
theorem chainB {ta tb tc : TE} {r r' : R2} {x y z : V} {Q : VK} (ha : ∀ Q : VK, Q x H → ta σ H Q) (hb : ∀ Q : VK, Q y H → tb σ H Q) (hr : ∀ Q : VK, Q (.bl b) H → r x y H Q) (hc : b = true → ∀ Q : VK, Q z H → tc σ H Q) (hr' : b = true → ∀ Q : VK, Q (.bl b') H → r' y z H Q)
    (q : Q (.bl (b && b')) H) : tChain r r' ta tb tc σ H Q := by
  refine ha _ (hb _ (hr _ ⟨b, rfl, ?_⟩))
  cases b with
  | true => exact iteT (hc rfl _ (hr' rfl _ q))
  | false => exact iteF q
theorem iNot {b : Bool} {A B : Prop} (h : if b = true then B else A) : if (!b) = true then A else B := by
  cases b with
  | true => exact iteF (by rw [if_pos rfl] at h; exact h)
  | false => exact iteT (by rw [if_neg Bool.false_ne_true] at h; exact h)
theorem iAnd {p r A B : Prop} [Decidable p] [Decidable r] (h1 : p → r → A) (h2 : ¬ (p ∧ r) → B) : if (decide p && decide r) = true then A else B := by
  by_cases a : p
  · by_cases c : r
    · rw [decide_eq_true a, decide_eq_true c]
      exact iteT (h1 a c)
    · rw [decide_eq_false c, Bool.and_false]
      exact iteF (h2 fun z => c z.2)
  · rw [decide_eq_false a, Bool.false_and]
    exact iteF (h2 fun z => a z.1)
theorem iOr {p r A B : Prop} [Decidable p] [Decidable r] (h1 : p ∨ r → A) (h2 : ¬ p → ¬ r → B) : if (decide p || decide r) = true then A else B := by
  by_cases a : p
  · rw [decide_eq_true a, Bool.true_or]
    exact iteT (h1 (.inl a))
  · by_cases c : r
    · rw [decide_eq_true c, Bool.or_true]
      exact iteT (h1 (.inr c))
    · rw [decide_eq_false a, decide_eq_false c]
      exact iteF (h2 a c)
end
theorem cdiv {i j : Int} (h0 : 0 < j) (h1 : j < 1073741824) : CDivW i j := wide_div (b := 30) h0 (by omega) (by decide) (by decide)
theorem cpow {i j : Int} (h : decide (0 ≤ j ∧ j ≤ 1000000 ∧ i.natAbs < 2 ^ 64) = true) : CPow i j := by
  unfold CPow
  exact of_decide_eq_true h
theorem cmul1 {i j : Int} (h1 : -(2 ^ 64) < i) (h2 : i < 2 ^ 64) : CMulA i j := .inl (.inl ⟨h1, h2⟩)
theorem cmul2 {i j : Int} (h1 : -(2 ^ 64) < j) (h2 : j < 2 ^ 64) : CMulA i j := .inl (.inr ⟨h1, h2⟩)
theorem cdivL {i j : Int} (h : decide (0 < j ∧ j.natAbs.log2 < 9000) = true) : CDivW i j := by
  unfold CDivW
  exact of_decide_eq_true h
/-! ## statements; what follows written out -/
section
variable {K : PySem.W.Frag} {σ : L2.St} {H : Hp} {te : TE} {t u : TS} {nx bk ct : L2.St → Hp → Prop} {rt : VK} {g : TG} {n : Nat}
theorem seq (q : t ⟨u ⟨nx, rt, bk, ct⟩, rt, bk, ct⟩ σ H) : tSeq t u ⟨nx, rt, bk, ct⟩ σ H := q
/-- what follows, proved once for all ways -/
theorem joinS (P : L2.St → Hp → Prop) (key : ∀ σ H, P σ H → nx σ H) (q : ∀ N : L2.St → Hp → Prop, (∀ σ H, P σ H → N σ H) → t ⟨N, rt, bk, ct⟩ σ H) : t ⟨nx, rt, bk, ct⟩ σ H := q nx key
theorem next (q : nx σ H) : tNext ⟨nx, rt, bk, ct⟩ σ H := q
theorem asg (q : te σ H fun x H1 => g x σ H1 nx) : tAsg te g ⟨nx, rt, bk, ct⟩ σ H := q
theorem ret (q : te σ H rt) : tRet te ⟨nx, rt, bk, ct⟩ σ H := q
theorem retN (q : rt .non H) : tRetN ⟨nx, rt, bk, ct⟩ σ H := q
theorem drop (q : te σ H fun _ H1 => nx σ H1) : tDrop te ⟨nx, rt, bk, ct⟩ σ H := q
theorem ifS {c : TT} (q : c σ H fun b H1 => if b = true then t ⟨nx, rt, bk, ct⟩ σ H1 else u ⟨nx, rt, bk, ct⟩ σ H1) : tIfS c t u ⟨nx, rt, bk, ct⟩ σ H := q
theorem par {i j : Nat} {ta : TA} (q : ta σ H fun vs H1 => ∃ v w, vs = [v, w] ∧ nx ((σ.set i (some v)).set j (some w)) H1) : tPar i j ta ⟨nx, rt, bk, ct⟩ σ H := q
theorem par3 {i j l : Nat} {ta : TA} (q : ta σ H fun vs H1 => ∃ u v w, vs = [u, v, w] ∧ nx (((σ.set i (some u)).set j (some v)).set l (some w)) H1) : tPar3 i j l ta ⟨nx, rt, bk, ct⟩ σ H := q
theorem ex2 {a b : V} {F : V → V → Prop} (q : F a b) : ∃ v w, [a, b] = [v, w] ∧ F v w := ⟨a, b, rfl, q⟩
theorem ex3 {a b c : V} {F : V → V → V → Prop} (q : F a b c) : ∃ u v w, [a, b, c] = [u, v, w] ∧ F u v w := ⟨a, b, c, rfl, q⟩
theorem aug {ti : TIp} {v : V} (q : te σ H fun y H1 => ti v y H1 fun z H2 => nx (σ.set n (some z)) H2) (h : σ[n]? = some (some v) := by with_unfolding_all rfl) : tAug n te ti ⟨nx, rt, bk, ct⟩ σ H := ⟨v, h, q⟩
theorem ipA {f : Int → Int → Int} {i j : Int} {Q : VK} (q : Q (.int (f i j)) H) : ipI f (.int i) (.int j) H Q := ⟨i, j, rfl, rfl, q⟩
/-- the loop's own goal, behind what is walked -/
def Loop (J : It) (g : TG) (t : TS) (nx bk ct : L2.St → Hp → Prop) (rt : VK) (σ : L2.St) (H : Hp) : Prop :=
  ∃ At : Nat → Nat → L2.St → Hp → Prop, (∃ m, At 0 m σ H) ∧ ∀ i m σ H, At i m σ H →
    (J.stop i H ∧ nx σ H) ∨ (J.go i H ∧ ∃ N : L2.St → Hp → Prop, (∀ σ' H', N σ' H' → ∃ m', m' < m ∧ At (i + 1) m' σ' H') ∧ ∀ x H', J.yld i H x H' → g x σ H' fun σ2 H2 => t ⟨N, rt, nx, N⟩ σ2 H2)
theorem for' {wi : TI} (q : wi σ H fun J H1 => Loop J g t nx bk ct rt σ H1) : tFor wi g t ⟨nx, rt, bk, ct⟩ σ H := q
/-- a for over anything that is walked -/
theorem loop {J : It} {n : Nat} {G : Hp → Prop} {Y : Nat → Hp → V → Hp → Prop} (w : Walk J n G Y) (Pv : Nat → L2.St → Hp → Prop) (h0 : Pv 0 σ H) (hG : ∀ i σ H, i ≤ n → Pv i σ H → G H)
    (hs : ∀ i x σ H H', i < n → Pv i σ H → Y i H x H' → g x σ H' fun σ2 H2 => t ⟨Pv (i + 1), rt, nx, Pv (i + 1)⟩ σ2 H2) (hd : ∀ σ H, Pv n σ H → nx σ H) : Loop J g t nx bk ct rt σ H :=
  for_it (D := ⟨nx, rt, bk, ct⟩) w Pv h0 hG hs hd
theorem seqIter {tl : TE} {R : It → Hp → Prop} (q : tl σ H fun x H1 => (∃ a, x = .ref a ∧ (∃ xs, SqL K H1 a xs) ∧ R (Itl K a) H1) ∨ (∃ a, x = .ref a ∧ (∃ xs, SqT K H1 a xs) ∧ R (Itt K a) H1)) : iSeq K tl σ H R := q
theorem seqL {a : Addr} {xs : List V} {R : It → Hp → Prop} (h : SqL K H a xs) (q : R (Itl K a) H) : (∃ b, V.ref a = .ref b ∧ (∃ xs, SqL K H b xs) ∧ R (Itl K b) H) ∨ (∃ b, V.ref a = .ref b ∧ (∃ xs, SqT K H b xs) ∧ R (Itt K b) H) := .inl ⟨a, rfl, ⟨xs, h⟩, q⟩
theorem seqT {a : Addr} {xs : List V} {R : It → Hp → Prop} (h : SqT K H a xs) (q : R (Itt K a) H) : (∃ b, V.ref a = .ref b ∧ (∃ xs, SqL K H b xs) ∧ R (Itl K b) H) ∨ (∃ b, V.ref a = .ref b ∧ (∃ xs, SqT K H b xs) ∧ R (Itt K b) H) := .inr ⟨a, rfl, ⟨xs, h⟩, q⟩
/-- for x in a list that the body leaves as it is -/
theorem forL {a : Addr} {xs : List V} (Pv : Nat → L2.St → Hp → Prop) (h : SqL K H a xs) (h0 : Pv 0 σ H) (hG : ∀ i σ H, i ≤ xs.length → Pv i σ H → SqL K H a xs)
    (hs : ∀ i x σ H, xs[i]? = some x → i < xs.length → Pv i σ H → g x σ H fun σ2 H2 => t ⟨Pv (i + 1), rt, nx, Pv (i + 1)⟩ σ2 H2) (hd : ∀ σ H, Pv xs.length σ H → nx σ H) :
    (∃ b, V.ref a = .ref b ∧ (∃ xs, SqL K H b xs) ∧ Loop (Itl K b) g t nx bk ct rt σ H) ∨ (∃ b, V.ref a = .ref b ∧ (∃ xs, SqT K H b xs) ∧ Loop (Itt K b) g t nx bk ct rt σ H) :=
  seqL (R := fun J H1 => Loop J g t nx bk ct rt σ H1) h (loop walk_list Pv h0 hG (fun i x σ H H' hi p y => by
    obtain ⟨rfl, y⟩ := y
    exact hs i x σ _ y hi p) hd)
theorem forLI {a : Addr} {ns : List Int} (Pv : Nat → L2.St → Hp → Prop) (h : SqL K H a (ns.map V.int)) (h0 : Pv 0 σ H) (hG : ∀ i σ H, i ≤ ns.length → Pv i σ H → SqL K H a (ns.map V.int))
    (hs : ∀ i n σ H, ns[i]? = some n → n ∈ ns → i < ns.length → Pv i σ H → g (.int n) σ H fun σ2 H2 => t ⟨Pv (i + 1), rt, nx, Pv (i + 1)⟩ σ2 H2) (hd : ∀ σ H, Pv ns.length σ H → nx σ H) :
    (∃ b, V.ref a = .ref b ∧ (∃ xs, SqL K H b xs) ∧ Loop (Itl K b) g t nx bk ct rt σ H) ∨ (∃ b, V.ref a = .ref b ∧ (∃ xs, SqT K H b xs) ∧ Loop (Itt K b) g t nx bk ct rt σ H) :=
  forL (xs := ns.map V.int) Pv h h0 (fun i σ H hi => hG i σ H (by rw [List.length_map] at hi; exact hi)) (fun i x σ H hx hi => by
    rw [List.length_map] at hi
    rw [List.getElem?_map] at hx
    cases e : ns[i]? with
    | none =>
      rw [e] at hx
      cases hx
    | some n =>
      rw [e] at hx
      obtain rfl : V.int n = x := Option.some.inj hx
      exact hs i n σ H e (List.mem_of_getElem? e) hi) (by rw [List.length_map]; exact hd)
theorem forT {a : Addr} {xs : List V} (Pv : Nat → L2.St → Hp → Prop) (h : SqT K H a xs) (h0 : Pv 0 σ H) (hG : ∀ i σ H, i ≤ xs.length → Pv i σ H → SqT K H a xs)
    (hs : ∀ i x σ H, xs[i]? = some x → i < xs.length → Pv i σ H → g x σ H fun σ2 H2 => t ⟨Pv (i + 1), rt, nx, Pv (i + 1)⟩ σ2 H2) (hd : ∀ σ H, Pv xs.length σ H → nx σ H) :
    (∃ b, V.ref a = .ref b ∧ (∃ xs, SqL K H b xs) ∧ Loop (Itl K b) g t nx bk ct rt σ H) ∨ (∃ b, V.ref a = .ref b ∧ (∃ xs, SqT K H b xs) ∧ Loop (Itt K b) g t nx bk ct rt σ H) :=
  seqT (R := fun J H1 => Loop J g t nx bk ct rt σ H1) h (loop walk_tup Pv h0 hG (fun i x σ H H' hi p y => by
    obtain ⟨rfl, y⟩ := y
    exact hs i x σ _ y hi p) hd)
/-- for i, x in enumerate(a list) -/
theorem enum' {ta : TA} {R : It → Hp → Prop} (q : ta σ H fun vs H1 => ∃ a xs, vs = [.ref a] ∧ SqL K H1 a xs ∧ R (Ite K a) H1) : iEnum K ta σ H R := q
theorem forE {a : Addr} {xs : List V} (Pv : Nat → L2.St → Hp → Prop) (h : SqL K H a xs) (h0 : Pv 0 σ H) (hG : ∀ i σ H, i ≤ xs.length → Pv i σ H → SqL K H a xs)
    (hs : ∀ i x σ H, xs[i]? = some x → i < xs.length → Pv i σ H → ∀ T, H T = none → g (.ref T) σ (upd H T (.tup [.int (i : Nat), x])) fun σ2 H2 => t ⟨Pv (i + 1), rt, nx, Pv (i + 1)⟩ σ2 H2) (hd : ∀ σ H, Pv xs.length σ H → nx σ H) :
    ∃ b ys, [V.ref a] = [.ref b] ∧ SqL K H b ys ∧ Loop (Ite K b) g t nx bk ct rt σ H :=
  ⟨a, xs, rfl, h, loop walk_enum Pv h0 hG (fun i x σ H H' hi p y => by
    obtain ⟨T, x1, y1, rfl, hT, rfl, e1, e2⟩ := y
    obtain rfl := Option.some.inj e1
    exact hs i y1 σ H e2 hi p T hT) hd⟩
theorem gPair {i j : Nat} {p : Addr} {x y : V} {QS : L2.St → Hp → Prop} (h : H p = some (.tup [x, y])) (q : QS ((σ.set i (some x)).set j (some y)) H) : L2.gTup K 2 (L2.gCons (L2.gName i) (L2.gCons (L2.gName j) L2.gNil)) (.ref p) σ H QS :=
  ⟨p, [x, y], rfl, SqT.of h, rfl, x, [y], rfl, y, [], rfl, rfl, q⟩
theorem gPairT {i j : Nat} {p : Addr} {x y : V} {QS : L2.St → Hp → Prop} (h : SqT K H p [x, y]) (q : QS ((σ.set i (some x)).set j (some y)) H) : L2.gTup K 2 (L2.gCons (L2.gName i) (L2.gCons (L2.gName j) L2.gNil)) (.ref p) σ H QS :=
  ⟨p, [x, y], rfl, h, rfl, x, [y], rfl, y, [], rfl, rfl, q⟩
theorem rng1 {ta : TA} {R : It → Hp → Prop} (q : ta σ H fun vs H1 => ∃ j : Int, vs = [.int j] ∧ -(2 ^ 62) ≤ j ∧ j < 2 ^ 62 ∧ R (Itr 0 j.toNat) H1) : iRng1 ta σ H R := q
theorem rng1v {j : Int} {F : Int → Prop} (h : -(2 ^ 62) ≤ j) (h2 : j < 2 ^ 62) (q : F j) : ∃ k : Int, [V.int j] = [.int k] ∧ -(2 ^ 62) ≤ k ∧ k < 2 ^ 62 ∧ F k := ⟨j, rfl, h, h2, q⟩
theorem rng2v {i j : Int} {F : Int → Int → Prop} (h : -(2 ^ 62) ≤ i ∧ i < 2 ^ 62 ∧ -(2 ^ 62) ≤ j ∧ j < 2 ^ 62) (q : F i j) : ∃ a b : Int, [V.int i, .int j] = [.int a, .int b] ∧ (-(2 ^ 62) ≤ a ∧ a < 2 ^ 62 ∧ -(2 ^ 62) ≤ b ∧ b < 2 ^ 62) ∧ F a b := ⟨i, j, rfl, h, q⟩
theorem rng2 {ta : TA} {R : It → Hp → Prop} (q : ta σ H fun vs H1 => ∃ i j : Int, vs = [.int i, .int j] ∧ (-(2 ^ 62) ≤ i ∧ i < 2 ^ 62 ∧ -(2 ^ 62) ≤ j ∧ j < 2 ^ 62) ∧ R (Itr i (j - i).toNat) H1) : iRng2 ta σ H R := q
/-- for i in range(n) -/
theorem forR {lo : Int} {m : Nat} (Pv : Nat → L2.St → Hp → Prop) (h0 : Pv 0 σ H)
    (hs : ∀ i σ H, i < m → Pv i σ H → g (.int (lo + i)) σ H fun σ2 H2 => t ⟨Pv (i + 1), rt, nx, Pv (i + 1)⟩ σ2 H2) (hd : ∀ σ H, Pv m σ H → nx σ H) : Loop (Itr lo m) g t nx bk ct rt σ H :=
  loop walk_range Pv h0 (fun _ _ _ _ _ => True.intro) (fun i x σ H H' hi p y => by
    obtain ⟨rfl, rfl⟩ := y
    exact hs i σ _ hi p) hd
end
/-! ## list comprehensions -/
section
variable {K : PySem.W.Frag} {σ : L2.St} {H : Hp} {Q : VK} {g : TG} {tt : TT} {te : TE} {vs : List Nat}
def LcLoop (J : It) (g : TG) (tt : TT) (te : TE) (vs : List Nat) (σ : L2.St) (D : Addr) (H : Hp) (Q : VK) : Prop :=
  ∃ At : Nat → Nat → Hp → Prop, (∃ m, At 0 m (upd H D (.lst []))) ∧ ∀ i m H, At i m H →
    (J.stop i H ∧ Q (.ref D) H) ∨ (J.go i H ∧ ∃ On : Hp → Prop, (∀ H', On H' → ∃ m', m' < m ∧ At (i + 1) m' H') ∧ ∀ x H', J.yld i H x H' → g x (wipe σ vs) H' fun σ2 H2 => wipe σ2 vs = wipe σ vs ∧ tt σ2 H2 fun b H3 =>
      if b = true then te σ2 H3 fun y H4 => ∃ got, H4 D = some (.lst got) ∧ got.length < sizeLine ∧ On (upd H4 D (.lst (got ++ [y]))) else On H3)
theorem lc {wi : TI} (q : wi σ H fun J H1 => ∀ D, H1 D = none → LcLoop J g tt te vs σ D H1 Q) : tLc wi g tt te vs σ H Q := q
theorem lcI {J : It} {n : Nat} {G : Hp → Prop} {Y : Nat → Hp → V → Hp → Prop} {D : Addr} (w : Walk J n G Y) (Pv : Nat → Hp → Prop) (h0 : Pv 0 (upd H D (.lst []))) (hG : ∀ i H, i ≤ n → Pv i H → G H)
    (each : ∀ i x H H', i < n → Pv i H → Y i H x H' → g x (wipe σ vs) H' fun σ2 H2 => wipe σ2 vs = wipe σ vs ∧ tt σ2 H2 fun b H3 =>
      if b = true then te σ2 H3 fun y H4 => ∃ got, H4 D = some (.lst got) ∧ got.length < sizeLine ∧ Pv (i + 1) (upd H4 D (.lst (got ++ [y]))) else Pv (i + 1) H3) (hd : ∀ H, Pv n H → Q (.ref D) H) : LcLoop J g tt te vs σ D H Q :=
  lc_it (Qd := Q (.ref D)) w Pv h0 hG each hd
/-- over a list or tuple, flat values of a test and an element that make nothing: a new list (xs.filter p).map f -/
theorem lcFM {a : Addr} {xs : List V} {j : Nat} (p : V → Bool) (f : V → V) (h : SqL K H a xs) (hl : xs.length < sizeLine) (hw : ∀ x, wipe ((wipe σ [j]).set j (some x)) [j] = wipe σ [j])
    (ht : ∀ x H', x ∈ xs → Same H H' → ∀ QB : Bool → Hp → Prop, QB (p x) H' → tt ((wipe σ [j]).set j (some x)) H' QB)
    (he : ∀ x H', x ∈ xs → p x = true → Same H H' → ∀ Q : VK, Q (f x) H' → te ((wipe σ [j]).set j (some x)) H' Q)
    (q : ∀ D H', H D = none → Same H H' → H' D = some (.lst ((xs.filter p).map f)) → Q (.ref D) H') :
    (∃ b, V.ref a = .ref b ∧ (∃ xs, SqL K H b xs) ∧ ∀ D, H D = none → LcLoop (Itl K b) (L2.gName j) tt te [j] σ D H Q) ∨ (∃ b, V.ref a = .ref b ∧ (∃ xs, SqT K H b xs) ∧ ∀ D, H D = none → LcLoop (Itt K b) (L2.gName j) tt te [j] σ D H Q) := by
  refine .inl ⟨a, rfl, ⟨xs, h⟩, fun D hD => ?_⟩
  refine lcI walk_list (fun i H' => Same H H' ∧ H' D = some (.lst (((xs.take i).filter p).map f))) ⟨same_upd hD, upd_same⟩ (fun i H' _ z => SqL.mono z.1 h) ?_ (fun H' z => q D H' hD z.1 (by
    have e := z.2
    rw [List.take_of_length_le (Nat.le_refl _)] at e
    exact e))
  rintro i x H1 H' hi ⟨z1, z2⟩ ⟨rfl, hx⟩
  have hm : x ∈ xs := List.mem_of_getElem? hx
  refine ⟨hw x, ht x _ hm z1 _ ?_⟩
  have et : xs.take (i + 1) = xs.take i ++ [x] := by rw [List.take_add_one, hx]; rfl
  cases hp : p x with
  | true =>
    refine iteT (he x _ hm hp z1 _ ⟨_, z2, ?_, ?_, ?_⟩)
    · rw [List.length_map]
      refine Nat.lt_of_le_of_lt (List.length_filter_le _ _) (Nat.lt_of_le_of_lt (List.length_take_le _ _) ?_)
      exact Nat.lt_of_le_of_lt (Nat.le_of_lt hi) hl
    · intro b o e
      rw [upd_ne (ne_of_none e hD)]
      exact z1 _ _ e
    · rw [upd_same, et, List.filter_append, List.map_append]
      simp only [List.filter_cons, List.filter_nil, hp, if_true, List.map_cons, List.map_nil]
  | false =>
    refine iteF ⟨z1, ?_⟩
    rw [z2, et, List.filter_append, List.map_append]
    simp only [List.filter_cons, List.filter_nil, hp, Bool.false_eq_true, if_false, List.map_nil, List.append_nil]
def pI (p : Int → Bool) : V → Bool
  | .int n => p n
  | _ => false
def fI (f : Int → Int) : V → V
  | .int n => .int (f n)
  | v => v
theorem filt_ints (p : Int → Bool) (f : Int → Int) : ∀ ns : List Int, ((ns.map V.int).filter (pI p)).map (fI f) = ((ns.filter p).map f).map V.int
  | [] => rfl
  | n :: ns => by
    rw [List.map_cons, List.filter_cons, List.filter_cons]
    show (if p n = true then _ else _ : List V).map (fI f) = _
    cases h : p n with
    | true =>
      rw [if_pos rfl, if_pos rfl, List.map_cons, List.map_cons, List.map_cons, filt_ints p f ns]
      rfl
    | false =>
      rw [if_neg Bool.false_ne_true, if_neg Bool.false_ne_true, filt_ints p f ns]
/-- .. of ints -/
theorem lcFMI {a : Addr} {ns : List Int} {j : Nat} (p : Int → Bool) (f : Int → Int) (h : SqL K H a (ns.map V.int)) (hl : ns.length < sizeLine) (hw : ∀ x, wipe ((wipe σ [j]).set j (some x)) [j] = wipe σ [j])
    (ht : ∀ x H', x ∈ ns → Same H H' → ∀ QB : Bool → Hp → Prop, QB (p x) H' → tt ((wipe σ [j]).set j (some (.int x))) H' QB)
    (he : ∀ x H', x ∈ ns → p x = true → Same H H' → ∀ Q : VK, Q (.int (f x)) H' → te ((wipe σ [j]).set j (some (.int x))) H' Q)
    (q : ∀ D H', H D = none → Same H H' → H' D = some (.lst (((ns.filter p).map f).map V.int)) → Q (.ref D) H') :
    (∃ b, V.ref a = .ref b ∧ (∃ xs, SqL K H b xs) ∧ ∀ D, H D = none → LcLoop (Itl K b) (L2.gName j) tt te [j] σ D H Q) ∨ (∃ b, V.ref a = .ref b ∧ (∃ xs, SqT K H b xs) ∧ ∀ D, H D = none → LcLoop (Itt K b) (L2.gName j) tt te [j] σ D H Q) := by
  refine lcFM (pI p) (fI f) h (by rw [List.length_map]; exact hl) hw (fun x H' hx e QB qb => ?_) (fun x H' hx hp e Q' qq => ?_) (fun D H' hD e g => q D H' hD e (by rw [← filt_ints]; exact g))
  · obtain ⟨n, hn, rfl⟩ := List.mem_map.mp hx
    exact ht n H' hn e QB qb
  · obtain ⟨n, hn, rfl⟩ := List.mem_map.mp hx
    exact he n H' hn hp e Q' qq
theorem zip' {ta : TA} {R : It → Hp → Prop} (q : ta σ H fun vs H1 => ∃ a b xs ys, vs = [.ref a, .ref b] ∧ ((SqL K H1 a xs ∧ SqL K H1 b ys ∧ R (Itz K a b) H1) ∨ (SqT K H1 a xs ∧ SqT K H1 b ys ∧ R (RZ.ItzT K a b) H1))) : RZ.iZipA K ta σ H R := q
theorem walk_zipT {a b : Addr} {xs ys : List V} {n : Nat} (hn : n = min xs.length ys.length) : Walk (RZ.ItzT K a b) n (fun H => SqT K H a xs ∧ SqT K H b ys) (YPair (fun i => xs[i]?) (fun i => ys[i]?)) where
  goes i _ hi both := by
    have left : i < xs.length := by omega
    have right : i < ys.length := by omega
    exact ⟨_, _, xs[i], ys[i], both.1, both.2, List.getElem?_eq_getElem left, List.getElem?_eq_getElem right⟩
  stops _ both := ⟨_, _, both.1, both.2, by omega⟩
  yields i _ _ _ _ both y := by
    obtain ⟨T, x, z, e1, e2, e3, at1, at2⟩ := y
    exact ⟨T, x, z, e1, e2, e3, at1 _ both.1, at2 _ both.2⟩
/-- over pairs, flat values: a new list of them -/
theorem lcPairs {J : It} {n : Nat} {G : Hp → Prop} {X Y : Nat → Option V} {j1 j2 : Nat} (w : Walk J n G (YPair X Y)) (f : Nat → V) (hn : n < sizeLine) (hG : ∀ H', Same H H' → G H')
    (hw : ∀ x y, wipe (((wipe σ [j1, j2]).set j1 (some x)).set j2 (some y)) [j1, j2] = wipe σ [j1, j2])
    (he : ∀ i x y H', i < n → Same H H' → X i = some x → Y i = some y → ∀ Q : VK, (∀ H'', Same H' H'' → Q (f i) H'') → te (((wipe σ [j1, j2]).set j1 (some x)).set j2 (some y)) H' Q)
    (q : ∀ D H', H D = none → Same H H' → H' D = some (.lst ((List.range n).map f)) → Q (.ref D) H') : ∀ D, H D = none → LcLoop J (L2.gTup K 2 (L2.gCons (L2.gName j1) (L2.gCons (L2.gName j2) L2.gNil))) tYes te [j1, j2] σ D H Q := by
  intro D hD
  refine lcI w (fun i H' => Same H H' ∧ H' D = some (.lst ((List.range i).map f))) ⟨same_upd hD, upd_same⟩ (fun i H' _ z => hG H' z.1) ?_ (fun H' z => q D H' hD z.1 z.2)
  rintro i v H1 H' hi ⟨z1, z2⟩ ⟨T, x, y, rfl, hT, rfl, hx, hy⟩
  refine ⟨T, [x, y], rfl, SqT.of upd_same, rfl, x, [y], rfl, y, [], rfl, rfl, hw x y, ?_⟩
  unfold tYes
  refine iteT ?_
  refine he i x y _ hi (z1.trans (same_upd hT)) hx hy _ fun H'' e2 => ?_
  have hD2 : H'' D = some (.lst ((List.range i).map f)) := e2 _ _ (upd_get hT z2)
  refine ⟨_, hD2, ?_, ?_, ?_⟩
  · rw [List.length_map, List.length_range]
    exact Nat.lt_trans hi hn
  · intro b o e
    rw [upd_ne (ne_of_none e hD)]
    exact e2 _ _ (upd_get hT (z1 _ _ e))
  · rw [upd_same, List.range_succ, List.map_append]
    rfl
theorem strIter {tl : TE} {R : It → Hp → Prop} (q : tl σ H fun v H1 => ∃ x, v = .str x ∧ R (Its x) H1) : iStr tl σ H R := q
/-- over a text, flat values: a new list of them -/
theorem lcS {z : Str} {j : Nat} (f : Nat → V) (hl : z.cps.size < sizeLine) (hw : ∀ x, wipe ((wipe σ [j]).set j (some x)) [j] = wipe σ [j])
    (he : ∀ c H', c ∈ z.cps.toList → Same H H' → ∀ Q : VK, Q (f c) H' → te ((wipe σ [j]).set j (some (.str ⟨#[c]⟩))) H' Q)
    (q : ∀ D H', H D = none → Same H H' → H' D = some (.lst (z.cps.toList.map f)) → Q (.ref D) H') :
    ∃ x, V.str z = .str x ∧ ∀ D, H D = none → LcLoop (Its x) (L2.gName j) tYes te [j] σ D H Q := by
  refine ⟨z, rfl, fun D hD => ?_⟩
  refine lcI walk_str (fun i H' => Same H H' ∧ H' D = some (.lst ((z.cps.toList.take i).map f))) ⟨same_upd hD, upd_same⟩ (fun i H' _ _ => True.intro) ?_ (fun H' z' => q D H' hD z'.1 (by
    have e := z'.2
    rw [List.take_of_length_le (Nat.le_of_eq Array.length_toList)] at e
    exact e))
  rintro i x H1 H' hi ⟨z1, z2⟩ ⟨rfl, c, hc, rfl⟩
  rw [← Array.getElem?_toList] at hc
  refine ⟨hw _, ?_⟩
  unfold tYes
  refine iteT (he c _ (List.mem_of_getElem? hc) z1 _ ⟨_, z2, ?_, ?_, ?_⟩)
  · rw [List.length_map]
    exact Nat.lt_of_le_of_lt (List.length_take_le _ _) (Nat.lt_trans hi hl)
  · intro b o e
    rw [upd_ne (ne_of_none e hD)]
    exact z1 _ _ e
  · rw [upd_same, List.take_add_one, hc, List.map_append]
    rfl
end
section
variable {K : PySem.W.Frag} {σ : L2.St} {H : Hp} {Q : VK} {QP : List (V × V) → Hp → Prop} {tk tv : TE} {trs : List (TE × TE)}
theorem disp (q : ∀ p, H p = none → tPairs trs σ (upd H p (.dK [])) fun ps H2 => H2 p = some (.dK []) ∧ ∃ kvs : List (Key × V), ps = kvs.map (fun kv => (kV kv.1, kv.2)) ∧ kvs.length ≤ 15 ∧ Q (.ref p) (upd H2 p (.dK (mergeK [] kvs)))) : tDisp trs σ H Q := q
theorem pairsC (q : tk σ H fun x H1 => tv σ H1 fun y H2 => tPairs trs σ H2 fun ps H3 => QP ((x, y) :: ps) H3) : tPairs ((tk, tv) :: trs) σ H QP := q
theorem pairsN (q : QP [] H) : tPairs [] σ H QP := q
theorem dget (q : tk σ H fun x H1 => tv σ H1 fun y H2 => ∃ a v, x = .ref a ∧ DGet H2 a y (some v) ∧ Q v H2) : tDGet tk tv σ H Q := q
theorem dgetV {a : Addr} {kvs : List (Key × V)} {k : Key} {y v : V} (h : H a = some (.dK kvs)) (hy : y = kV k) (hv : valV kvs k = some v) (q : Q v H) : ∃ b v, V.ref a = .ref b ∧ DGet H b y (some v) ∧ Q v H :=
  ⟨a, v, rfl, .inl ⟨kvs, k, .inl h, hy, hv.symm⟩, q⟩
theorem bm {T : String} {r : V → List V → Hp → VK → Prop} {t : TA} (q : tk σ H fun x H1 => tyV K T x H1 ∧ t σ H1 fun xs H2 => r x xs H2 Q) : tBM K T r tk t σ H Q := q
theorem tyL {p : Addr} {xs : List V} {A : Prop} (h : H p = some (.lst xs)) (q : A) : tyV K "list" (.ref p) H ∧ A := ⟨.inl ⟨rfl, xs, SqL.of h⟩, q⟩
theorem append {p : Addr} {xs : List V} {y : V} (h : H p = some (.lst xs)) (hl : xs.length < sizeLine) (q : Q .non (upd H p (.lst (xs ++ [y])))) : rAppend (.ref p) [y] H Q := ⟨p, xs, y, rfl, rfl, h, hl, q⟩
theorem appendI {p : Addr} {ns : List Int} {n : Int} (h : H p = some (.lst (ns.map V.int))) (hl : ns.length < sizeLine) (q : Q .non (upd H p (.lst ((ns ++ [n]).map V.int)))) : rAppend (.ref p) [.int n] H Q :=
  append h (by rw [List.length_map]; exact hl) (by rw [← List.map_singleton (f := V.int), ← List.map_append]; exact q)
theorem map_erase {α β : Type} (f : α → β) : ∀ (xs : List α) (k : Nat), (xs.map f).eraseIdx k = (xs.eraseIdx k).map f
  | [], _ => rfl
  | _ :: _, 0 => rfl
  | x :: xs, k + 1 => congrArg (f x :: ·) (map_erase f xs k)
theorem popAtI {p : Addr} {ns : List Int} {i : Int} (h : H p = some (.lst (ns.map V.int))) (h0 : 0 ≤ i) (h1 : i < ns.length) (hb : ns.length < 2 ^ 62) (q : ∀ m, ns[i.toNat]? = some m → Q (.int m) (upd H p (.lst ((ns.eraseIdx i.toNat).map V.int)))) : rPopAt (.ref p) [.int i] H Q := by
  have hl : i.toNat < ns.length := by omega
  have e : ns[i.toNat]? = some ns[i.toNat] := List.getElem?_eq_getElem hl
  refine ⟨p, _, i, i.toNat, .int ns[i.toNat], rfl, rfl, h, by omega, by omega, ?_, by rw [List.getElem?_map, e]; rfl, ?_⟩
  · exact (ixN_seq (by rw [List.length_map]; exact ixN_pos h0 h1)).1
  · have z := q _ e
    rw [map_erase]
    exact z
theorem revL {p : Addr} {ns : List Int} (h : SqL K H p (ns.map V.int)) (q : ∀ l, H l = none → Q (.ref l) (upd H l (.lst (ns.reverse.map V.int)))) : ∃ a xs, V.ref p = .ref a ∧ SqL K H a xs ∧ ∀ l, H l = none → Q (.ref l) (upd H l (.lst xs.reverse)) :=
  ⟨p, _, rfl, h, by rw [← List.map_reverse]; exact q⟩
theorem rev (q : tk σ H fun x H1 => ∃ a xs, x = .ref a ∧ SqL K H1 a xs ∧ ∀ p, H1 p = none → Q (.ref p) (upd H1 p (.lst xs.reverse))) : tRevL K tk σ H Q := q
theorem sumI {p : Addr} {ns : List Int} (h : SqL K H p (ns.map V.int)) (q : Q (.int ns.sum) H) : rSum K [.ref p] H Q := ⟨p, ns, rfl, h, q⟩
theorem ixN_last {n : Nat} (h : 0 < n) : ixN n (-1) = some (n - 1) := by
  unfold ixN
  rw [if_neg (by decide), if_pos (by omega)]
  congr 1
  omega
theorem ixLast {p : Addr} {ns : List Int} (h : SqL K H p (ns.map V.int)) (hne : 0 < ns.length) (q : ∀ m, ns[ns.length - 1]? = some m → Q (.int m) H) : rIx K (.ref p) (.int (-1)) H Q := by
  have hl : ns.length - 1 < ns.length := by omega
  have e : ns[ns.length - 1]? = some ns[ns.length - 1] := List.getElem?_eq_getElem hl
  refine ixL h (v := .int ns[ns.length - 1]) ?_ (q _ e)
  unfold atI
  rw [List.length_map, ixN_last hne]
  show (ns.map V.int)[ns.length - 1]? = _
  rw [List.getElem?_map, e]
  rfl
theorem setLastI {p : Addr} {ns : List Int} {n : Int} {QS : Hp → Prop} (h : H p = some (.lst (ns.map V.int))) (hne : 0 < ns.length) (q : QS (upd H p (.lst ((ns.set (ns.length - 1) n).map V.int)))) : rSetL (.ref p) (.int (-1)) (.int n) H QS :=
  setL (k := ns.length - 1) h (by rw [List.length_map]; exact ixN_last hne) (by rw [← List.map_set]; exact q)
def rgI (a b : Int) : List Int := (List.range (b - a).toNat).map fun i => a + (i : Nat)
theorem rgI_V (a b : Int) : rgV a b = (rgI a b).map V.int := by
  unfold rgV rgI
  rw [List.map_map]
  rfl
theorem rgI_length (a b : Int) : (rgI a b).length = (b - a).toNat := by
  unfold rgI
  rw [List.length_map, List.length_range]
theorem lstRg {te : L2.St → Hp → (Int → Int → Hp → Prop) → Prop} (q : te σ H fun a b H1 => RgOk a b ∧ ∀ l, H1 l = none → Q (.ref l) (upd H1 l (.lst ((rgI a b).map V.int)))) : tLstRg te σ H Q := by
  have e : (fun (a b : Int) (H1 : Hp) => RgOk a b ∧ ∀ l, H1 l = none → Q (.ref l) (upd H1 l (.lst ((rgI a b).map V.int)))) = fun a b H1 => RgOk a b ∧ ∀ l, H1 l = none → Q (.ref l) (upd H1 l (.lst (rgV a b))) := by
    funext a b H1
    rw [rgI_V]
  rw [e] at q
  exact q
theorem rg1 {ta : TE} {QR : Int → Int → Hp → Prop} (q : ta σ H fun x H1 => ∃ n, x = .int n ∧ QR 0 n H1) : tRg1 ta σ H QR := q
theorem rg2 {ta tb : TE} {QR : Int → Int → Hp → Prop} (q : ta σ H fun x H1 => tb σ H1 fun y H2 => ∃ i j, x = .int i ∧ y = .int j ∧ QR i j H2) : tRg2 ta tb σ H QR := q
theorem exII {a b : Int} {F : Int → Int → Prop} (q : F a b) : ∃ i j, V.int a = .int i ∧ V.int b = .int j ∧ F i j := ⟨a, b, rfl, rfl, q⟩
theorem inS {a b : Str} (q : Q (.bl (!(Builtin.Str.occurrences b a 0 b.length 1).isEmpty)) H) : rInSA (.str a) (.str b) H Q := ⟨a, b, rfl, rfl, q⟩
end
end Rl.R
namespace Rl
open PySem PySem.Spec PyProof.Rows L2
/-! ## a set of ints, by a comprehension -/
/-- what the turns need: the set stands at D -/
def ScGo (w : World) (J : It) (g : TG) (tt : TT) (te : TE) (vs : List Nat) (σ : L2.St) (D : Addr) (H : Hp) (Q : VK) : Prop :=
  ∃ At : Nat → Nat → Hp → Prop, (∃ m, At 0 m (upd H D (SetO w D (fun _ => false) 0))) ∧ ∀ i m H, At i m H →
    (J.stop i H ∧ Q (.ref D) H) ∨ (J.go i H ∧ ∃ On : Hp → Prop, (∀ H', On H' → ∃ m', m' < m ∧ At (i + 1) m' H') ∧ ∀ x H', J.yld i H x H' → g x (wipe σ vs) H' fun σ2 H2 => wipe σ2 vs = wipe σ vs ∧ tt σ2 H2 fun b H3 =>
      if b = true then te σ2 H3 fun y H4 => ∃ (c : Int) (S : Int → Bool) (n : Nat), y = .int c ∧ H4 D = some (SetO w D S n) ∧ n + 1 < scanBound ∧ On (upd H4 D (SetO w D (fun j => S j || decide (j = c)) (if S c = true then n else n + 1))) else On H3)
def tScI (w : World) (wi : TI) (g : TG) (tt : TT) (te : TE) (vs : List Nat) : TE := fun σ H Q => wi σ H fun J H1 => ∀ D, H1 D = none → ScGo w J g tt te vs σ D H1 Q
section
variable {X : Cx}
theorem pe_scI {elt tg src : Expr} {cs : List Expr} {bsc : Scope} {own : List (PySem.Str × Nat)} {cp : Pos} {wi : TI} {g : TG} {tt : TT} {te : TE} (calm : X.calm = true) (nd : X.N.Nodup) (walk : PI X tg src wi) (blk : BlkOk X.N X.env.scope bsc own)
    (dg : ∀ (s : Shared) (H : Hp) (C : Addr) (cl : List (PySem.Str × Addr)) (fp : List Addr), PG (X.blk s H bsc (compEnvC bsc cl C X.env) fp) tg g)
    (dt : ∀ (s : Shared) (H : Hp) (C : Addr) (cl : List (PySem.Str × Addr)) (fp : List Addr), PTs (X.blk s H bsc (compEnvC bsc cl C X.env) fp) cs tt)
    (de : ∀ (s : Shared) (H : Hp) (C : Addr) (cl : List (PySem.Str × Addr)) (fp : List Addr), PE (X.blk s H bsc (compEnvC bsc cl C X.env) fp) elt te) (fold : ∀ x, foldedSetIterable src X.env x = pure x := by intro _; rfl) :
    PE X (.SetComp elt [⟨tg, src, cs, 0⟩] bsc cp) (tScI X.w wi g tt te (own.map (·.2))) := by
  refine ⟨fun pins s0 σ H Q I0 go => ?_⟩
  rw [PpSet.eval_SetComp]
  have cellsHere : ∀ y ∈ bsc.names, y.2 = .free → ∃ c, X.env.cells.lookup y.1 = some c := by
    intro y hy e
    exact (blk.free y hy e).elim (fun k => I0.ok.has _ (.inl k)) fun k => I0.ok.has _ (.inr k)
  refine wpAny_comprehension_free (use := none) rfl fold (closure_ok cellsHere) blk.kind (fun y hy e => by rw [blk.uniq y hy, e]) ?_
  refine thn (walk.run pins s0 σ H _ I0 go) fun xv sA inner => thn inner fun itv sB res => ?_
  obtain ⟨it, fp, tn, J, HB, e, IB, T, stB, okB, q⟩ := res
  subst e
  refine PpSet.newSet_ok (newEnv_comp ?_)
  -- the set is the newest thing
  obtain ⟨D, hD⟩ : ∃ D, D = sB.heap.objs.size := ⟨_, rfl⟩
  have fresh : HB D = none := IB.hok.fresh (Nat.le_of_eq hD.symm)
  obtain ⟨W, ⟨m0, w0⟩, turn⟩ := q D fresh
  rw [← hD]
  generalize hsC : ({ sB with heap := sB.heap.push { cls := .type "set", dict := none, data := .set #[] 0 (.fresh 0 0 (!X.w.params.followText "set-order")) } } : Shared) = sC
  have heapC : sC.heap = sB.heap.push { cls := .type "set", dict := none, data := .set #[] 0 (.fresh 0 0 (!X.w.params.followText "set-order")) } := by rw [← hsC]
  have IC : Inv X pins σ (upd HB D (SetO X.w D (fun _ => false) 0)) sC := by
    rw [← hsC]
    refine IB.laid (t' := sB.toks) (fun b o e => Heap.get?_push_of_some _ e) (Nat.le_of_eq hD.symm) ?_
    rw [hD]
    exact setO_new (setR_fresh X.w)
  have below : ∀ b ∈ fp, b < sB.heap.objs.size := by
    intro b hb
    obtain ⟨o, e, _⟩ := T.obj _ _ stB b hb
    exact Heap.lt_size e
  have okC : ∀ b ∈ fp, FpOk X pins (upd HB D (SetO X.w D (fun _ => false) 0)) b ∧ b < sC.heap.objs.size := by
    intro b hb
    have lt := below b hb
    have ne : b ≠ D := by
      rw [hD]
      exact Nat.ne_of_lt lt
    refine ⟨⟨(upd_ne ne).trans (okB b hb).1, (okB b hb).2⟩, ?_⟩
    rw [heapC, Heap.size_push]
    exact Nat.lt_succ_of_lt lt
  have stC : tn 0 sC.heap := T.keep _ _ _ stB fun b _ o e => by
    rw [heapC]
    exact Heap.get?_push_of_some _ e
  obtain ⟨HC, hHC⟩ : ∃ HC, HC = upd HB D (SetO X.w D (fun _ => false) 0) := ⟨_, rfl⟩
  rw [← hHC] at IC okC w0
  have inner := block_start IC blk nd okC
  have qg := dg sC HC sC.heap.objs.size (cellsFrom (sC.heap.objs.size + 1) bsc.names (cloFrom X.env.cells bsc.names [])) fp
  have qt := dt sC HC sC.heap.objs.size (cellsFrom (sC.heap.objs.size + 1) bsc.names (cloFrom X.env.cells bsc.names [])) fp
  have qe := de sC HC sC.heap.objs.size (cellsFrom (sC.heap.objs.size + 1) bsc.names (cloFrom X.env.cells bsc.names [])) fp
  show codeAny _ _ (.compStart (.SetComp elt [⟨tg, src, cs, 0⟩] bsc cp) 0 (.ref it) (.ref D) (compEnvC bsc (cellsFrom (sC.heap.objs.size + 1) bsc.names (cloFrom X.env.cells bsc.names [])) sC.heap.objs.size X.env)) (compPost (model X.prog X.w) X.A X.xe none _ (.ref D) sC.heap.objs.size) { sC with heap := pushCells (sC.heap.push { cls := .type "dict", data := .dict #[] }) bsc.names }
  have fpC : ∀ b ∈ fp, HC b = none := fun b hb => (okC b hb).1.1
  generalize hce : compEnvC bsc (cellsFrom (sC.heap.objs.size + 1) bsc.names (cloFrom X.env.cells bsc.names [])) sC.heap.objs.size X.env = ce at inner qg qt qe ⊢
  have locC : ce.locals = sC.heap.objs.size := by
    subst hce
    rfl
  generalize hsE : ({ sC with heap := pushCells (sC.heap.push { cls := .type "dict", data := .dict #[] }) bsc.names } : Shared) = sE at inner ⊢
  have stE : tn 0 sE.heap := T.keep _ _ _ stC fun b _ o e => by
    rw [← hsE]
    exact pushCells_keeps _ _ _ _ (Heap.get?_push_of_some _ e)
  have okIn : ∀ {σ' : L2.St} {H' : Hp} {s' : Shared}, Inv (X.blk sC HC bsc ce fp) [] σ' H' s' → (∀ b ∈ fp, H' b = none) → ∀ b ∈ fp, FpOk (X.blk sC HC bsc ce fp) [] H' b := by
    intro σ' H' s' I' none' b hb
    exact ⟨none' b hb, (I'.ok.exf b hb).1, I'.ok.exfs b hb, .inl hb, fun x c e => (I'.ok.exf b hb).2 x c e, fun p hp => absurd (show p ∈ ([] : List (Addr × Obj)) ++ [] from hp) (by simp)⟩
  refine PpSet.codeAny_compStart_set ?_ (T.self X.A 0 _ _ _ stE ?_)
  all_goals
    refine PpSet.compLoopS_any (fun n s' => ∃ i H', Inv (X.blk sC HC bsc ce fp) [] (wipe σ (own.map (·.2))) H' s' ∧ tn i s'.heap ∧ (∀ b ∈ fp, H' b = none) ∧ W i n H') ?_ m0 ⟨0, HC, inner, stE, fpC, w0⟩
    rintro n sF ⟨i, HF, IF, stF, noneF, wF⟩
    rcases turn i n HF wF with ⟨stop, fin⟩ | ⟨more, Nx, hNx, each⟩
    · refine thnF (T.done (X.blk sC HC bsc ce fp) rfl rfl rfl calm i [] sF _ HF (fun _ _ => False) IF (okIn IF noneF) stF stop) fun r sG ⟨hr, IG⟩ => ?_
      subst hr
      have back : Inv X pins σ HF sG := IC.call' (ch := fp) IG.os IG.base IG.hok IG.bare fun b hb => ⟨(okC b hb).1.2.2.2.1, (okC b hb).1.2.1, (okC b hb).1.2.2.2.2.1, (okC b hb).1.2.2.2.2.2⟩
      have noLoc : HF sC.heap.objs.size = none := by
        have z : HF ce.locals = none := IG.free
        rwa [locC] at z
      obtain ⟨m, isNs, _⟩ := IG.loc
      replace isNs : sG.heap.Ns ce.locals m := isNs
      rw [locC] at isNs
      refine ⟨m, isNs, fun h'' same => ?_⟩
      obtain ⟨f0, f1, f2, f3, f4, f5⟩ := IC.fpOk (Nat.le_refl _) noLoc
      exact ⟨.ref D, HF, back.turned (t' := sG.toks) (fun b o hb e => (same.2 b hb).trans e) f0 f1 f3 f4 f5, rfl, fin⟩
    · refine thnF (T.item (X.blk sC HC bsc ce fp) rfl rfl rfl calm i [] sF _ HF (fun _ _ => False) IF (okIn IF noneF) stF more) fun r sG ⟨u, hr, yields⟩ => ?_
      subst hr
      refine thnF yields fun _ sH ⟨x, HH, IH, rH, yH, stH, noneH⟩ => ?_
      refine thnF (qg.run _ sH _ HH x u _ (IH.pinned (okIn IH noneH) (T.obj _ _ stH)) rH (each x HH yH)) fun _ sI ⟨σI, HI, II, wipeI, qI⟩ => ?_
      refine thnF (qt.run _ sI σI HI _ II qI) fun b sJ ⟨HJ, IJ, qJ⟩ => ?_
      have onward : ∀ {s' : Shared} {H' : Hp}, Inv (X.blk sC HC bsc ce fp) ([] ++ pinsAt fp sH.heap) σI H' s' → Nx H' → ∃ m, m < n ∧ ∃ i H', Inv (X.blk sC HC bsc ce fp) [] (wipe σ (own.map (·.2))) H' s' ∧ tn i s'.heap ∧ (∀ b ∈ fp, H' b = none) ∧ W i m H' := by
        intro s' H' I' nx
        obtain ⟨m', lt, w'⟩ := hNx H' nx
        have held : ∀ b ∈ fp, ∀ o, sH.heap.get? b = some o → s'.heap.get? b = some o ∧ H' b = none := by
          intro b hb o e
          have z := I'.pin (b, o) (List.mem_append_right _ (List.mem_append_right _ (mem_pinsAt hb e)))
          exact ⟨z.1, z.2.1⟩
        refine ⟨m', lt, i + 1, H', (I'.unpinned (pins := [])).weak (by rw [← wipeI, wipe_length]) (fun j v e => ?_), T.keep _ _ _ stH fun b hb o e => (held b hb o e).1, fun b hb => ?_, w'⟩
        · rw [← wipeI] at e
          exact (wipe_some e).1
        · obtain ⟨o, e, _⟩ := T.obj _ _ stH b hb
          exact (held b hb o e).2
      cases b with
      | false =>
        simp only [Bool.false_eq_true, if_false] at qJ ⊢
        exact onward IJ qJ
      | true =>
        simp only [if_true] at qJ ⊢
        refine thnF (qe.run _ sJ σI HJ _ IJ qJ) fun z sK ⟨yv, HK, IK, rK, c, S, n0, ey, atD, room, nx⟩ => ?_
        subst ey
        obtain ⟨tk, rfl⟩ : ∃ tk, z = Value.int c tk := rK
        refine thnF (mt_sadd (X := X.blk sC HC bsc ce fp) _ sK σI HK (.ref D) [.int c] (.ref D) [.int c tk] (fun _ H' => Nx H') IK rfl (.cons ⟨tk, rfl⟩ .nil) ⟨D, c, S, n0, rfl, rfl, atD, room, nx⟩) fun _ sL ⟨_, HL, IL, _, nx'⟩ => onward IL nx'
end
/-- over anything that is walked -/
theorem scWalk {w : World} {J : It} {n : Nat} {G : Hp → Prop} {Y : Nat → Hp → V → Hp → Prop} {g : TG} {tt : TT} {te : TE} {vs : List Nat} {σ : L2.St} {D : Addr} {H : Hp} {Q : VK} (wk : Walk J n G Y) (Pv : Nat → Hp → Prop)
    (h0 : Pv 0 (upd H D (SetO w D (fun _ => false) 0))) (hG : ∀ i H, i ≤ n → Pv i H → G H)
    (each : ∀ i x H H', i < n → Pv i H → Y i H x H' → g x (wipe σ vs) H' fun σ2 H2 => wipe σ2 vs = wipe σ vs ∧ tt σ2 H2 fun b H3 =>
      if b = true then te σ2 H3 fun y H4 => ∃ (c : Int) (S : Int → Bool) (m : Nat), y = .int c ∧ H4 D = some (SetO w D S m) ∧ m + 1 < scanBound ∧ Pv (i + 1) (upd H4 D (SetO w D (fun j => S j || decide (j = c)) (if S c = true then m else m + 1))) else Pv (i + 1) H3)
    (hd : ∀ H, Pv n H → Q (.ref D) H) : ScGo w J g tt te vs σ D H Q := by
  refine ⟨fun i m H => m = n - i ∧ i ≤ n ∧ Pv i H, ⟨n, rfl, Nat.zero_le _, h0⟩, ?_⟩
  rintro i m H ⟨rfl, hi, p⟩
  by_cases lt : i < n
  · exact .inr ⟨wk.goes i H lt (hG i H hi p), Pv (i + 1), fun H' p' => ⟨n - (i + 1), by omega, rfl, lt, p'⟩, fun x H' y => each i x H H' lt p (wk.yields i H x H' lt (hG i H hi p) y)⟩
  · obtain rfl : i = n := by omega
    exact .inl ⟨wk.stops H (hG _ H hi p), hd H p⟩
theorem R.sc {w : World} {wi : TI} {g : TG} {tt : TT} {te : TE} {vs : List Nat} {σ : L2.St} {H : Hp} {Q : VK} (q : wi σ H fun J H1 => ∀ D, H1 D = none → ScGo w J g tt te vs σ D H1 Q) : tScI w wi g tt te vs σ H Q := q
end Rl
namespace Rl
open PySem PySem.Spec PyProof.Rows L2
/-! ## the old machine's rows, as they are decoded -/
inductive Sh where
  | e | rs | rn | n | r
  deriving DecidableEq
def box (i : Int) : Str := ⟨#[97 + i.toNat]⟩
def alone (i : Int) : Str := (["halt", "back", "rest"] : List Str).getD i.toNat "rest"
def single (i : Int) : Str := (["in", "out", "keep", "take"] : List Str).getD i.toNat "in"
def target (i : Int) : Str := (["go", "zero", "nonzero", "less", "notless", "call"] : List Str).getD i.toNat "go"
def pairT : List (Int × Str) := [(2, "copy"), (3, "add"), (4, "sub"), (5, "and"), (6, "or"), (7, "xor"), (8, "test"), (10, "load"), (11, "store")]
def numT : List (Int × Str) := [(1, "set"), (9, "testn"), (12, "loadn"), (13, "storen")]
/-- the word of a first byte, and what follows it -/
def dec (b : Int) : Option (Str × Sh) :=
  if b < 3 then some (alone b, .e)
  else if b / 16 = 15 then some (single (b % 4), .r)
  else match pairT.lookup (b / 16) with
    | some w => some (w, .rs)
    | none => if b / 16 = 14 ∧ b % 16 < 6 then some (target (b % 16), .n)
      else match numT.lookup (b / 16) with
        | some w => if b % 4 = 0 then some (w, .rn) else none
        | none => none
def boxR (b : Int) : Str := box (b / 4 % 4)
def boxS (b : Int) : Str := box (b % 4)
/-- what a row is, as data: by its first byte and the one behind -/
def rowD (b n : Int) : Option (List PyData) := (dec b).map fun p => .str p.1 :: match p.2 with
  | .e => []
  | .rs => [.str (boxR b), .str (boxS b)]
  | .rn => [.str (boxR b), .int n]
  | .n => [.int n]
  | .r => [.str (boxR b)]
def isLong (b : Int) : Bool := match dec b with
  | some (_, .rn) => true
  | some (_, .n) => true
  | _ => false
/-- the row at an address and how many bytes it has -/
def rowAt (ns : List Int) (a : Int) : Option (List PyData × Int) :=
  if 0 ≤ a ∧ a < ns.length then
    (if isLong (ns.getD a.toNat 0) = true then (if a + 1 < ns.length then (rowD (ns.getD a.toNat 0) (ns.getD (a.toNat + 1) 0)).map fun l => (l, 2) else none)
    else (rowD (ns.getD a.toNat 0) 0).map fun l => (l, 1))
  else none
def optD : Option (List PyData) → PyData
  | some l => .tuple l
  | none => .none
def atD : Option (List PyData × Int) → PyData
  | some (l, m) => .tuple [.tuple l, .int m]
  | none => .none
/-- bytes -/
def By (ns : List Int) : Prop := ∀ n ∈ ns, 0 ≤ n ∧ n < 256
/-- a list or a tuple of these ints -/
def Code (K : PySem.W.Frag) (H : Hp) (v : V) (ns : List Int) : Prop := ∃ a, v = .ref a ∧ (SqL K H a (ns.map V.int) ∨ SqT K H a (ns.map V.int))
theorem Code.mono {K : PySem.W.Frag} {H H' : Hp} {v : V} {ns : List Int} (e : Same H H') (h : Code K H v ns) : Code K H' v ns := by
  obtain ⟨a, q, h⟩ := h
  exact ⟨a, q, h.elim (fun h => .inl (SqL.mono e h)) fun h => .inr (SqT.mono e h)⟩
theorem R.lenC {K : PySem.W.Frag} {H : Hp} {c : V} {ns : List Int} {Q : VK} (h : Code K H c ns) (q : Q (.int ns.length) H) : rLenA K [c] H Q := by
  obtain ⟨p, rfl, h⟩ := h
  rcases h with h | h
  · refine R.lenL h ?_
    rw [List.length_map]
    exact q
  · refine R.lenT h ?_
    rw [List.length_map]
    exact q
theorem R.ixC {K : PySem.W.Frag} {H : Hp} {c : V} {ns : List Int} {Q : VK} {i : Int} (h : Code K H c ns) (h0 : 0 ≤ i) (h1 : i < ns.length) (q : ∀ m, ns[i.toNat]? = some m → m ∈ ns → Q (.int m) H) : rIx K c (.int i) H Q := by
  obtain ⟨p, rfl, h⟩ := h
  have hl : i.toNat < ns.length := by omega
  have e : ns[i.toNat]? = some ns[i.toNat] := List.getElem?_eq_getElem hl
  have g : atI (ns.map V.int) i = some (.int ns[i.toNat]) := R.atI_pos h0 (by rw [List.getElem?_map, e]; rfl)
  rcases h with h | h
  · exact R.ixL h g (q _ e (List.mem_of_getElem? e))
  · exact R.ixT h g (q _ e (List.mem_of_getElem? e))
theorem SqL.code {K : PySem.W.Frag} {H : Hp} {p : Addr} {ns : List Int} (h : SqL K H p (ns.map V.int)) : Code K H (.ref p) ns := ⟨p, rfl, .inl h⟩
theorem SqT.code {K : PySem.W.Frag} {H : Hp} {p : Addr} {ns : List Int} (h : SqT K H p (ns.map V.int)) : Code K H (.ref p) ns := ⟨p, rfl, .inr h⟩
/-- the module's constants -/
structure MachC (K : PySem.W.Frag) (w : World) : Prop where
  alone : ∀ H, SqT K H (He.ga K "ALONE") [.str "halt", .str "back", .str "rest"]
  single : ∀ H, SqT K H (He.ga K "SINGLE") [.str "in", .str "out", .str "keep", .str "take"]
  targets : ∀ H, SqT K H (He.ga K "TARGETS") [.str "go", .str "zero", .str "nonzero", .str "less", .str "notless", .str "call"]
  pairs : KD K w (He.ga K "WORDS_OF_PAIRS") (pairT.map fun p => (Sum.inl p.1, V.str p.2))
  nums : KD K w (He.ga K "WORDS_OF_NUMBERED") (numT.map fun p => (Sum.inl p.1, V.str p.2))
theorem atI_abcd {i : Int} (h0 : 0 ≤ i) (h4 : i < 4) : atI ("abcd" : Str).cps.toList i = some (97 + i.toNat) := by
  obtain rfl | rfl | rfl | rfl : i = 0 ∨ i = 1 ∨ i = 2 ∨ i = 3 := by omega
  all_goals decide
/-! ## promises -/
def sp_short_row (K : PySem.W.Frag) (_ : World) : Sp := fun vs H Q _ => ∃ b : Int, vs = [.int b] ∧ 0 ≤ b ∧ b < 256 ∧ ∀ v H', Same H H' → Dp K H' v (optD (if isLong b then none else rowD b 0)) → Q v H'
def sp_long_row (K : PySem.W.Frag) (_ : World) : Sp := fun vs H Q _ => ∃ b n : Int, vs = [.int b, .int n] ∧ 0 ≤ b ∧ b < 256 ∧ ∀ v H', Same H H' → Dp K H' v (optD (if isLong b then rowD b n else none)) → Q v H'
def sp_row_at (K : PySem.W.Frag) (_ : World) : Sp := fun vs H Q _ => ∃ (c : V) (ns : List Int) (a : Int), vs = [c, .int a] ∧ Code K H c ns ∧ By ns ∧ ∀ v H', Same H H' → Dp K H' v (atD (rowAt ns a)) → Q v H'
end Rl
namespace Rl
open PySem PySem.Spec PyProof.Rows L2
/-! ## the law's reel of draws -/
/-- all but what stands at r is as it was -/
abbrev Fx (r : Addr) (H H' : Hp) : Prop := Same (but r H) (but r H')
theorem Fx.refl (r : Addr) (H : Hp) : Fx r H H := Same.refl _
theorem Fx.at {r a : Addr} {H H' : Hp} {o : HO} (h : Fx r H H') (n : a ≠ r) (e : H a = some o) : H' a = some o := Same.of_but h n e
/-- a reel stands at r: great cells, told ones, how many draws, the number that is stirred; nothing of it in S -/
def Reel (H : Hp) (r : Addr) (S : Addr → Prop) : Prop := ∃ (g c : Addr) (k st : Int) (gs cs : List Int), H r = some (.lst [.ref g, .ref c, .int k, .int st]) ∧
  H g = some (.lst (gs.map V.int)) ∧ H c = some (.lst (cs.map V.int)) ∧ g ≠ r ∧ c ≠ r ∧ cs ≠ [] ∧ gs.length ≤ 1000 ∧ 0 ≤ st ∧ st < 2 ^ 127 ∧ ¬ S g ∧ ¬ S c ∧ ¬ S r ∧ ∀ a, S a → ∃ o, H a = some o
abbrev S0 : Addr → Prop := fun _ => False
abbrev S1 (l : Addr) (S : Addr → Prop) : Addr → Prop := fun a => a = l ∨ S a
section
variable {H H' : Hp} {r : Addr} {S S' : Addr → Prop}
theorem Reel.some (h : Reel H r S) : ∃ o, H r = some o := by
  obtain ⟨_, _, _, _, _, _, h, _⟩ := h
  exact ⟨_, h⟩
theorem Reel.isL (h : Reel H r S) : ∃ o, H r = Option.some (.lst o) := by
  obtain ⟨_, _, _, _, _, _, h, _⟩ := h
  exact ⟨_, h⟩
theorem Reel.ne {p : Addr} (h : Reel H r S) (n : H p = none) : p ≠ r := fun e => by
  obtain ⟨o, h⟩ := h.some
  rw [e, h] at n
  cases n
theorem Reel.neS {p : Addr} (h : Reel H r S) (n : S p) : p ≠ r := fun e => by
  obtain ⟨_, _, _, _, _, _, _, _, _, _, _, _, _, _, _, _, _, h, _⟩ := h
  exact h (e ▸ n)
/-- new things, changes elsewhere: the reel stays -/
theorem Reel.keep (h : Reel H r S) (e : Same H H') : Reel H' r S := by
  obtain ⟨g, c, k, st, gs, cs, h1, h2, h3, h4, h5, h6, h7, h8, h9, h10, h11, h12, h13⟩ := h
  exact ⟨g, c, k, st, gs, cs, e _ _ h1, e _ _ h2, e _ _ h3, h4, h5, h6, h7, h8, h9, h10, h11, h12, fun a ha => (h13 a ha).elim fun o z => ⟨o, e _ _ z⟩⟩
theorem Reel.sub (h : Reel H r S) (e : ∀ a, S' a → S a) : Reel H r S' := by
  obtain ⟨g, c, k, st, gs, cs, h1, h2, h3, h4, h5, h6, h7, h8, h9, h10, h11, h12, h13⟩ := h
  exact ⟨g, c, k, st, gs, cs, h1, h2, h3, h4, h5, h6, h7, h8, h9, fun z => h10 (e _ z), fun z => h11 (e _ z), fun z => h12 (e _ z), fun a ha => h13 a (e _ ha)⟩
theorem Reel.zero (h : Reel H r S) : Reel H r S0 := h.sub fun _ z => z.elim
theorem Reel.add {l : Addr} {o : HO} (h : Reel H r S) (n : H l = none) : Reel (upd H l o) r (S1 l S) := by
  obtain ⟨g, c, k, st, gs, cs, h1, h2, h3, h4, h5, h6, h7, h8, h9, h10, h11, h12, h13⟩ := h
  refine ⟨g, c, k, st, gs, cs, upd_get n h1, upd_get n h2, upd_get n h3, h4, h5, h6, h7, h8, h9, fun z => z.elim (ne_of_none h2 n) h10, fun z => z.elim (ne_of_none h3 n) h11, fun z => z.elim (ne_of_none h1 n) h12, fun a ha => ?_⟩
  rcases ha with rfl | ha
  · exact ⟨_, upd_same⟩
  · obtain ⟨o, z⟩ := h13 a ha
    exact ⟨o, upd_get n z⟩
theorem Reel.mut {l : Addr} {o : HO} (h : Reel H r S) (n : S l) : Reel (upd H l o) r S := by
  obtain ⟨g, c, k, st, gs, cs, h1, h2, h3, h4, h5, h6, h7, h8, h9, h10, h11, h12, h13⟩ := h
  refine ⟨g, c, k, st, gs, cs, upd_mut (fun z => h12 (z ▸ n)) h1, upd_mut (fun z => h10 (z ▸ n)) h2, upd_mut (fun z => h11 (z ▸ n)) h3, h4, h5, h6, h7, h8, h9, h10, h11, h12, fun a ha => ?_⟩
  by_cases e : a = l
  · rw [e]
    exact ⟨_, upd_same⟩
  · obtain ⟨o, z⟩ := h13 a ha
    exact ⟨o, upd_mut e z⟩
end
theorem shaped_ints (ns : List Int) : SeqAt.shaped (.list (ns.map PyData.int)) = true := by
  have h1 : ∀ ns : List Int, PyData.canLayAll0 (ns.map PyData.int) = true := fun ns => by
    induction ns with
    | nil => simp only [List.map_nil, PyData.canLayAll0]
    | cons n r ih => simp only [List.map_cons, PyData.canLayAll0, PyData.canLay0, ih, Bool.and_self]
  have h2 : ∀ ns : List Int, PyData.depthAll (ns.map PyData.int) = 0 := fun ns => by
    induction ns with
    | nil => simp only [List.map_nil, PyData.depthAll]
    | cons n r ih => simp only [List.map_cons, PyData.depthAll, PyData.depth, ih]; rfl
  unfold SeqAt.shaped
  simp only [PyData.canLay0, PyData.depth, h1, h2]
  rfl
theorem eqv_ints_nil (ns : List Int) : PyData.eqv (.list (ns.map PyData.int)) (.list []) = ns.isEmpty := by
  cases ns with
  | nil => simp only [List.map_nil, PyData.eqv, PyData.eqvAll, List.isEmpty_nil]
  | cons n r => simp only [List.map_cons, PyData.eqv, PyData.eqvAll, List.isEmpty_cons]
theorem eqvAll_ints (ns : List Int) : PyData.eqvAll (ns.map PyData.int) (ns.map PyData.int) = true := by
  induction ns with
  | nil => simp only [List.map_nil, PyData.eqvAll]
  | cons n r ih => simp only [List.map_cons, PyData.eqvAll, PyData.eqv, ih]; simp
theorem eqv_ints (ns : List Int) : PyData.eqv (.list (ns.map PyData.int)) (.list (ns.map PyData.int)) = true := by
  simp only [PyData.eqv, eqvAll_ints]
theorem SqL.ints {K : PySem.W.Frag} {H : Hp} {p : Addr} {ns : List Int} (h : SqL K H p (ns.map V.int)) : Dp K H (.ref p) (.list (ns.map PyData.int)) := .lst h (DpAll.ints ns)
theorem Fx.trans {r : Addr} {H1 H2 H3 : Hp} (a : Fx r H1 H2) (b : Fx r H2 H3) : Fx r H1 H3 := Same.trans a b
theorem Fx.same {r : Addr} {B H H' : Hp} (h : Fx r H H') (hb : B r = none) (e : Same B H) : Same B H' := fun a o z => h.at (ne_of_none z hb) (e a o z)
theorem Fx.mutN {r l : Addr} {H H' : Hp} {o : HO} (n : H l = none) (h : Fx r H H') : Fx r H (upd H' l o) := fun b u e => by
  have nb : b ≠ r := fun z => by
    rw [z, but_none] at e
    cases e
  have nl : b ≠ l := fun z => by
    have e2 := but_same b u e
    rw [z, n] at e2
    cases e2
  exact but_get nb (upd_mut nl (but_same b u (h b u e)))
/-- what is free then was free -/
theorem Fx.free {r l : Addr} {H H' : Hp} {S : Addr → Prop} (h : Fx r H H') (hR : Reel H' r S) (n : H' l = none) : H l = none := by
  cases e : H l with
  | none => rfl
  | some o =>
    have z := h.at (hR.ne n) e
    rw [n] at z
    cases z
theorem Same.mut {B H : Hp} {l : Addr} {o : HO} (hb : B l = none) (e : Same B H) : Same B (upd H l o) := fun a o z => upd_mut (ne_of_none z hb) (e a o z)
/-- [a draw of the reel for k in range(n)]: a new list of ints -/
theorem lcDraws {σ : L2.St} {H : Hp} {Q : VK} {te : TE} {j : Nat} {lo : Int} {m : Nat} {r : Addr} {S : Addr → Prop} (P : Int → Prop) (hR : Reel H r S) (hm : m < sizeLine) (hw : ∀ x, wipe ((wipe σ [j]).set j (some x)) [j] = wipe σ [j])
    (he : ∀ i D H', i < m → H D = none → Fx r H H' → Reel H' r (S1 D S) → ∀ Q : VK, (∀ v H'', Fx r H' H'' → Reel H'' r (S1 D S) → P v → Q (.int v) H'') → te ((wipe σ [j]).set j (some (.int (lo + (i : Nat))))) H' Q)
    (q : ∀ D H' (ns : List Int), H D = none → D ≠ r → Fx r H H' → Reel H' r (S1 D S) → H' D = some (.lst (ns.map V.int)) → ns.length = m → (∀ v ∈ ns, P v) → Q (.ref D) H') :
    ∀ D, H D = none → R.LcLoop (Itr lo m) (L2.gName j) tYes te [j] σ D H Q := by
  intro D hD
  have nD : D ≠ r := hR.ne hD
  refine R.lcI walk_range (fun i H' => Fx r H H' ∧ Reel H' r (S1 D S) ∧ ∃ ns : List Int, H' D = some (.lst (ns.map V.int)) ∧ ns.length = i ∧ ∀ v ∈ ns, P v) ⟨sm_bnew hD (Same.refl _), hR.add hD, [], upd_same, rfl, fun v hv => by cases hv⟩ (fun _ _ _ _ => True.intro) ?_ ?_
  · rintro i x H1 H' hi ⟨z1, z2, ns, z3, z4, z5⟩ ⟨rfl, rfl⟩
    refine ⟨hw _, ?_⟩
    unfold tYes
    refine iteT (he i D _ hi hD z1 z2 _ fun v H'' e2 r2 pv => ?_)
    have hD2 : H'' D = some (.lst (ns.map V.int)) := e2.at nD z3
    refine ⟨_, hD2, ?_, ?_, r2.mut (.inl rfl), ns ++ [v], ?_, ?_, ?_⟩
    · rw [List.length_map, z4]
      omega
    · intro b o e
      have nb : b ≠ r := fun z => by
        rw [z, but_none] at e
        cases e
      have e3 := e2 b o (z1 b o e)
      have hb : H b = some o := but_same b o e
      exact but_get nb (upd_mut (ne_of_none hb hD) (but_same b o e3))
    · rw [upd_same, List.map_append]
      rfl
    · rw [List.length_append, z4]
      rfl
    · intro u hu
      rcases List.mem_append.mp hu with hu | hu
      · exact z5 u hu
      · rw [List.mem_singleton.mp hu]
        exact pv
  · rintro H' ⟨z1, z2, ns, z3, z4, z5⟩
    exact q D H' ns hD nD z1 z2 z3 z4 z5
theorem By.set {ds : List Int} {k : Nat} {v : Int} (h : By ds) (h0 : 0 ≤ v) (h1 : v < 256) : By (ds.set k v) := fun n hn => by
  rcases List.mem_or_eq_of_mem_set hn with z | z
  · exact h n z
  · rw [z]
    exact ⟨h0, h1⟩
theorem By.take_add {ds : List Int} {k : Nat} {v : Int} (h : By ds) (h0 : 0 ≤ v) (h1 : v < 256) : By (ds.take k ++ [v]) := fun n hn => by
  rcases List.mem_append.mp hn with z | z
  · exact h n (List.mem_of_mem_take z)
  · rw [List.mem_singleton.mp z]
    exact ⟨h0, h1⟩
end Rl
namespace Rl
open PySem PySem.Spec PyProof.Rows L2
/-! ## the other laws' spring of draws -/
/-- a spring stands at r: the figures left, the number that is stirred, how many draws came of it -/
def Spr (H : Hp) (r : Addr) : Prop := ∃ a b c : Int, H r = some (.lst [.int a, .int b, .int c]) ∧ 0 ≤ a ∧ 0 ≤ b ∧ b < 2305843009213693951
theorem Spr.some {H : Hp} {r : Addr} (h : Spr H r) : ∃ o, H r = some o := by
  obtain ⟨_, _, _, h, _⟩ := h
  exact ⟨_, h⟩
theorem Spr.ne {H : Hp} {r p : Addr} (h : Spr H r) (n : H p = none) : p ≠ r := fun e => by
  obtain ⟨o, h⟩ := h.some
  rw [e, h] at n
  cases n
theorem Spr.keep {H H' : Hp} {r : Addr} (h : Spr H r) (e : Same H H') : Spr H' r := by
  obtain ⟨a, b, c, h1, h2⟩ := h
  exact ⟨a, b, c, e _ _ h1, h2⟩
theorem Spr.mut {H : Hp} {r l : Addr} {o : HO} (h : Spr H r) (n : l ≠ r) : Spr (upd H l o) r := by
  obtain ⟨a, b, c, h1, h2⟩ := h
  exact ⟨a, b, c, upd_mut n.symm h1, h2⟩
/-- what was not there is not there ahead -/
theorem Fx.freeS {r l : Addr} {H H' : Hp} (h : Fx r H H') (hR : Spr H' r) (n : H' l = none) : H l = none := by
  cases e : H l with
  | none => rfl
  | some v =>
    have z := h.at (hR.ne n) e
    rw [n] at z
    cases z
def sp_law_spring (K : PySem.W.Frag) (_ : World) : Sp := fun vs H Q _ => ∃ (a : Addr) (ns : List Int), vs = [.ref a] ∧ SqL K H a (ns.map V.int) ∧ ns.length ≤ 63 ∧ ∀ r H', Same H H' → H r = none → Spr H' r → Q (.ref r) H'
def sp_law_draw (_ : PySem.W.Frag) (_ : World) : Sp := fun vs H Q _ => ∃ (r : Addr) (m : Int), vs = [.ref r, .int m] ∧ Spr H r ∧ 0 < m ∧ m < 1073741824 ∧ ∀ n H', Fx r H H' → Spr H' r → 0 ≤ n → n < m → Q (.int n) H'
theorem len_law_spring {K : PySem.W.Frag} {w : World} {vs : List V} {H : Hp} {Q : VK} {E : XK} (h : sp_law_spring K w vs H Q E) : vs.length = 1 := by
  obtain ⟨a, ns, rfl, _⟩ := h
  rfl
theorem len_law_draw {K : PySem.W.Frag} {w : World} {vs : List V} {H : Hp} {Q : VK} {E : XK} (h : sp_law_draw K w vs H Q E) : vs.length = 2 := by
  obtain ⟨r, m, rfl, _⟩ := h
  rfl
end Rl
namespace Rl
open PySem PySem.Spec PyProof.Rows L2
/-- _law_spring: slots 0 _law_script, 1 _law_figures, 2 _law_stir, 3 _law_cell -/
def t_law_spring (K : PySem.W.Frag) (w : World) : TS :=
  (tSeq (tAsg (tC (.int 0)) (gName 1)) (tSeq (tAsg (tC (.int 88651)) (gName 2)) (tSeq (tFor (iSeq K (tSl (rSlA K) (tVar 0) tNoPart (tPart (tC (.int 63))))) (gName 3) (tSeq (tIfS (tTest (tOp (rGeA) (tCB (rAbs) (tCons (tVar 3) tNil)) (tOp (rPowA) (tC (.int 10)) (tC (.int 18))))) (tAsg (tOp (rAddA K) (tOp (rMulA) (tVar 1) (tOp (rPowA) (tC (.int 10)) (tC (.int 60)))) (tOp (rModA) (tCB (rAbs) (tCons (tVar 3) tNil)) (tOp (rPowA) (tC (.int 10)) (tC (.int 60))))) (gName 1)) tNext) (tAsg (tOp (rModA) (tOp (rAddA K) (tOp (rAddA K) (tOp (rMulA) (tVar 2) (tC (.int 69069))) (tOp (rModA) (tVar 3) (tC (.int 2305843009213693921)))) (tC (.int 7))) (tC (.int 2305843009213693951))) (gName 2)))) (tRet (tLst (tCons (tVar 1) (tCons (tVar 2) (tCons (tC (.int 0)) tNil))))))))
abbrev N_law_spring : List Str := ["_law_script", "_law_figures", "_law_stir", "_law_cell"]

/-- _law_draw: slots 0 _law_spring_here, 1 _law_many, 2 _law_found, 3 _law_stir -/
def t_law_draw (K : PySem.W.Frag) (w : World) : TS :=
  (tSeq (tIfS (tTest (tOp (rGtA) (tOp (rIx K) (tVar 0) (tC (.int 0))) (tC (.int 0)))) (tSeq (tAsg (tOp (rModA) (tOp (rIx K) (tVar 0) (tC (.int 0))) (tVar 1)) (gName 2)) (tSeq (tAsg (tOp (rDivA) (tOp (rIx K) (tVar 0) (tC (.int 0))) (tVar 1)) (gSub (tVar 0) (tC (.int 0)) rSetL)) (tRet (tVar 2)))) tNext) (tSeq (tAsg (tOp (rAddA K) (tOp (rIx K) (tVar 0) (tC (.int 2))) (tC (.int 1))) (gSub (tVar 0) (tC (.int 2)) rSetL)) (tSeq (tAsg (tOp (rModA) (tOp (rMulA) (tOp (rIx K) (tVar 0) (tC (.int 1))) (tOp (rIx K) (tVar 0) (tC (.int 1)))) (tC (.int 2305843009213693951))) (gName 3)) (tSeq (tAsg (tOp (rModA) (tOp (rAddA K) (tOp (rAddA K) (tVar 3) (tOp (rMulA) (tOp (rMulA) (tC (.int 7919)) (tOp (rIx K) (tVar 0) (tC (.int 2)))) (tOp (rIx K) (tVar 0) (tC (.int 1))))) (tC (.int 104729))) (tC (.int 2305843009213693951))) (gSub (tVar 0) (tC (.int 1)) rSetL)) (tRet (tOp (rModA) (tOp (rDivA) (tOp (rIx K) (tVar 0) (tC (.int 1))) (tC (.int 65537))) (tVar 1)))))))
abbrev N_law_draw : List Str := ["_law_spring_here", "_law_many", "_law_found", "_law_stir"]

end Rl
namespace Rl
open PySem PySem.Spec PyProof.Rows L2
/-! ## the law's table of first bytes -/
def shS : Sh → Str
  | .e => ""
  | .rs => "rs"
  | .rn => "rn"
  | .n => "n"
  | .r => "r"
abbrev TEnt := Option (Str × Str)
def Ent (H : Hp) (v : V) : TEnt → Prop
  | none => v = .non
  | some (a, b) => ∃ p, v = .ref p ∧ H p = some (.tup [.str a, .str b])
theorem Ent.mono {H H' : Hp} {v : V} {e : TEnt} (s : Same H H') (h : Ent H v e) : Ent H' v e := by
  cases e with
  | none => exact h
  | some e =>
    obtain ⟨p, h1, h2⟩ := h
    exact ⟨p, h1, s _ _ h2⟩
structure Tab (H : Hp) (t : Addr) (T : List TEnt) : Prop where
  len : T.length = 256
  ex : ∃ xs : List V, H t = some (.lst xs) ∧ xs.length = 256 ∧ ∀ (i : Nat) (v : V) (e : TEnt), xs[i]? = some v → T[i]? = some e → Ent H v e
theorem Tab.mono {H H' : Hp} {t : Addr} {T : List TEnt} (s : Same H H') (h : Tab H t T) : Tab H' t T := by
  obtain ⟨h0, xs, h1, h2, h3⟩ := h
  exact ⟨h0, xs, s _ _ h1, h2, fun i v e a b => (h3 i v e a b).mono s⟩
theorem Tab.ne {H : Hp} {t p : Addr} {T : List TEnt} (h : Tab H t T) (n : H p = none) : p ≠ t := by
  obtain ⟨_, xs, g, _⟩ := h
  exact fun z => by rw [z, g] at n; cases n
theorem Tab.but {H : Hp} {t r : Addr} {T : List TEnt} {rs : List V} (h : Tab H t T) (n : t ≠ r) (e : H r = some (.lst rs)) : Tab (but r H) t T := by
  obtain ⟨h0, xs, h1, h2, h3⟩ := h
  refine ⟨h0, xs, but_get n h1, h2, fun i v e' a b => ?_⟩
  have z := h3 i v e' a b
  cases e' with
  | none => exact z
  | some e' =>
    obtain ⟨p, z1, z2⟩ := z
    exact ⟨p, z1, but_get (fun y => by rw [y, e] at z2; cases z2) z2⟩
theorem Tab.get {K : PySem.W.Frag} {H : Hp} {t : Addr} {T : List TEnt} (h : Tab H t T) {i : Int} (h0 : 0 ≤ i) (h1 : i < 256) {e : TEnt} (he : T[i.toNat]? = some e) {Q : VK} (q : ∀ v, Ent H v e → Q v H) : rIx K (.ref t) (.int i) H Q := by
  obtain ⟨g0, xs, g1, g2, g3⟩ := h
  exact R.ixLV (SqL.of g1) h0 (by omega) fun m hm _ => q m (g3 _ _ _ hm he)
theorem R.setTab {H : Hp} {t p : Addr} {T : List TEnt} {a b : Str} {i : Int} {n : Nat} {QS : Hp → Prop} (h : Tab H t T) (hp : H p = some (.tup [.str a, .str b])) (hn : i = (n : Int)) (h1 : n < 256)
    (q : ∀ H', Tab H' t (T.set n (some (a, b))) → Fx t H H' → QS H') : rSetL (.ref t) (.int i) (.ref p) H QS := by
  obtain ⟨g0, xs, g1, g2, g3⟩ := h
  refine R.setL (k := n) g1 ?_ (q _ ⟨?_, xs.set n (.ref p), upd_same, ?_, ?_⟩ ?_)
  · rw [hn, g2]
    unfold ixN
    rw [if_pos (by omega), if_pos (by omega)]
    rfl
  · rw [List.length_set]; exact g0
  · rw [List.length_set]; exact g2
  · intro j v e h2 h3
    have np : p ≠ t := fun z => by
      rw [z, g1] at hp
      cases hp
    by_cases hj : n = j
    · subst hj
      rw [List.getElem?_set_self (by omega)] at h2 h3
      obtain rfl := Option.some.inj h2
      obtain rfl := Option.some.inj h3
      exact ⟨p, rfl, by rw [upd_ne np]; exact hp⟩
    · rw [List.getElem?_set_ne hj] at h2 h3
      have z := g3 j v e h2 h3
      cases e with
      | none => exact z
      | some e =>
        obtain ⟨p2, z1, z2⟩ := z
        refine ⟨p2, z1, ?_⟩
        rw [upd_ne]
        · exact z2
        · intro z3
          rw [z3, g1] at z2
          cases z2
  · exact sm_bmut (Same.refl _)
def w1 (k : Nat) : Str := (["halt", "back", "rest"] : List Str).getD k ""
def w2 (k : Nat) : Str := (["copy", "add", "sub", "and", "or", "xor", "test", "", "load", "store"] : List Str).getD k ""
def w3 (k : Nat) : Nat × Str := ([(1, "set"), (9, "testn"), (12, "loadn"), (13, "storen")] : List (Nat × Str)).getD k (0, "")
def w4 (k : Nat) : Str := (["go", "zero", "nonzero", "less", "notless", "call"] : List Str).getD k ""
def w5 (k : Nat) : Str := (["in", "out", "keep", "take"] : List Str).getD (k % 4) ""
abbrev TL := List TEnt
def tb0 : TL := List.replicate 256 none
def tb1 (i : Nat) : TL := (List.range i).foldl (fun T k => T.set k (some (w1 k, ""))) tb0
def in2 (k : Nat) (T : TL) (j : Nat) : TL := (List.range j).foldl (fun T j => T.set (32 + 16 * k + j) (some (w2 k, "rs"))) T
def n2 (k : Nat) : Nat := if w2 k = "" then 0 else 16
def tb2 (i : Nat) : TL := (List.range i).foldl (fun T k => in2 k T (n2 k)) (tb1 3)
def in3 (k : Nat) (T : TL) (j : Nat) : TL := (List.range j).foldl (fun T j => T.set (16 * (w3 k).1 + 4 * j) (some ((w3 k).2, "rn"))) T
def tb3 (i : Nat) : TL := (List.range i).foldl (fun T k => in3 k T 4) (tb2 10)
def tb4 (i : Nat) : TL := (List.range i).foldl (fun T k => T.set (224 + k) (some (w4 k, "n"))) (tb3 4)
def tb5 (i : Nat) : TL := (List.range i).foldl (fun T k => T.set (240 + k) (some (w5 k, "r"))) (tb4 6)
theorem fold_succ {α : Type} (f : α → Nat → α) (x : α) (i : Nat) : (List.range (i + 1)).foldl f x = f ((List.range i).foldl f x) i := by
  rw [List.range_succ, List.foldl_append]
  rfl
theorem tb2_0 : tb2 0 = tb1 3 := by unfold tb2; rw [List.range_zero, List.foldl_nil]
theorem tb3_0 : tb3 0 = tb2 10 := by unfold tb3; rw [List.range_zero, List.foldl_nil]
theorem tb4_0 : tb4 0 = tb3 4 := by unfold tb4; rw [List.range_zero, List.foldl_nil]
theorem tb5_0 : tb5 0 = tb4 6 := by unfold tb5; rw [List.range_zero, List.foldl_nil]
theorem in2_0 (k : Nat) (T : TL) : in2 k T 0 = T := by unfold in2; rw [List.range_zero, List.foldl_nil]
theorem in3_0 (k : Nat) (T : TL) : in3 k T 0 = T := by unfold in3; rw [List.range_zero, List.foldl_nil]
abbrev tabT : TL := tb5 16
theorem tab_dec : ∀ b : Fin 256, tabT[b.val]? = some ((dec (b.val : Int)).map fun p => (p.1, shS p.2)) := by decide +kernel
theorem tabT_at {i : Int} (h0 : 0 ≤ i) (h1 : i < 256) : tabT[i.toNat]? = some ((dec i).map fun p => (p.1, shS p.2)) := by
  have h := tab_dec ⟨i.toNat, by omega⟩
  have e : ((i.toNat : Nat) : Int) = i := Int.toNat_of_nonneg h0
  rw [← e]
  exact h
def sp_law_table (K : PySem.W.Frag) (_ : World) : Sp := fun vs H Q _ => vs = [] ∧ ∀ t H', Same H H' → H t = none → Tab H' t tabT → Q (.ref t) H'
theorem len_law_table {K : PySem.W.Frag} {w : World} {vs : List V} {H : Hp} {Q : VK} {E : XK} (h : sp_law_table K w vs H Q E) : vs.length = 0 := by
  obtain ⟨rfl, _⟩ := h
  rfl
end Rl
namespace Rl
open PySem PySem.Spec PyProof.Rows L2
/-! ## the law's own likeness: two things that are the same data -/
/-- no deeper than n, no list too long -/
def Nrw : Nat → PyData → Prop
  | 0, .list _ => False
  | 0, .tuple _ => False
  | n + 1, .list ds => ds.length < sizeLine ∧ ∀ d ∈ ds, Nrw n d
  | n + 1, .tuple ds => ds.length < sizeLine ∧ ∀ d ∈ ds, Nrw n d
  | _, _ => True
def spA (K : PySem.W.Frag) (_ : World) : Nat → Sp
  | 0 => fun _ _ _ _ => False
  | n + 1 => fun vs H Q _ => ∃ f d data, vs = [f, d] ∧ Dp K H f data ∧ Dp K H d data ∧ Nrw n data ∧ ∀ H', Same H H' → Q (.bl true) H'
abbrev sp_law_alike (K : PySem.W.Frag) (w : World) : Sp := spA K w 4
theorem len_law_alike {K : PySem.W.Frag} {w : World} {n : Nat} {vs : List V} {H : Hp} {Q : VK} {E : XK} (h : spA K w n vs H Q E) : vs.length = 2 := by
  cases n with
  | zero => cases h
  | succ n =>
    obtain ⟨f, d, data, rfl, _⟩ := h
    rfl
theorem all_true (n : Nat) : ((List.range n).map fun _ => true).all id = true := by
  rw [List.all_map]
  exact List.all_eq_true.mpr fun _ _ => rfl
end Rl
namespace Rl
open PySem PySem.Spec PyProof.Rows L2
/-! ## the law's own row -/
def isN : Sh → Bool
  | .rn => true
  | .n => true
  | _ => false
theorem isLong_dec {b : Int} {w : Str} {sh : Sh} (h : dec b = some (w, sh)) : isLong b = isN sh := by
  unfold isLong
  rw [h]
  cases sh <;> rfl
theorem n_in (sh : Sh) : (!(Builtin.Str.occurrences (shS sh) "n" 0 (shS sh).length 1).isEmpty) = isN sh := by
  cases sh <;> decide +kernel
theorem sh_cps (sh : Sh) : ∀ c ∈ (shS sh).cps.toList, c = 114 ∨ c = 115 ∨ c = 110 := by
  cases sh <;> decide +kernel
theorem sh_size (sh : Sh) : (shS sh).cps.size < sizeLine := by
  cases sh <;> decide
theorem sh_size1 (sh : Sh) : 1 + (shS sh).cps.toList.length ≤ sizeLine := by
  cases sh <;> decide
/-- what stands for a sign -/
def fS (b n : Int) (c : Nat) : V := if c = 114 then .str (boxR b) else if c = 115 then .str (boxS b) else .int n
def restD (b n : Int) : Sh → List PyData
  | .e => []
  | .rs => [.str (boxR b), .str (boxS b)]
  | .rn => [.str (boxR b), .int n]
  | .n => [.int n]
  | .r => [.str (boxR b)]
theorem rowD_dec {b n : Int} {w : Str} {sh : Sh} (h : dec b = some (w, sh)) : rowD b n = some (.str w :: restD b n sh) := by
  unfold rowD
  rw [h]
  cases sh <;> rfl
theorem restD_n {b n m : Int} {sh : Sh} (h : isN sh = false) : restD b n sh = restD b m sh := by
  cases sh <;> first | rfl | cases h
theorem fS_dp {K : PySem.W.Frag} {H : Hp} (b n : Int) (sh : Sh) : DpAll K H ((shS sh).cps.toList.map (fS b n)) (restD b n sh) := by
  cases sh with
  | e => exact .nil
  | rs => exact .cons (.str _) (.cons (.str _) .nil)
  | rn => exact .cons (.str _) (.cons (.int _) .nil)
  | n => exact .cons (.int _) .nil
  | r => exact .cons (.str _) .nil
def sp_law_row (K : PySem.W.Frag) (_ : World) : Sp := fun vs H Q _ => ∃ (t a : Addr) (ns : List Int) (i : Int), vs = [.ref t, .ref a, .int i] ∧ Tab H t tabT ∧ SqL K H a (ns.map V.int) ∧ By ns ∧ ns.length ≤ 100000 ∧
  ∀ v H', Same H H' → Dp K H' v (atD (rowAt ns i)) → Q v H'
theorem len_law_row {K : PySem.W.Frag} {w : World} {vs : List V} {H : Hp} {Q : VK} {E : XK} (h : sp_law_row K w vs H Q E) : vs.length = 3 := by
  obtain ⟨_, _, _, _, rfl, _⟩ := h
  rfl
theorem rowAt_out {ns : List Int} {a : Int} (h : ¬ (0 ≤ a ∧ a < ns.length)) : rowAt ns a = none := by
  unfold rowAt
  exact if_neg h
theorem rowAt_in {ns : List Int} {a b : Int} (h : 0 ≤ a ∧ a < ns.length) (hb : ns[a.toNat]? = some b) : rowAt ns a = (if isLong b = true then (if a + 1 < ns.length then (rowD b (ns.getD (a.toNat + 1) 0)).map fun l => (l, 2) else none) else (rowD b 0).map fun l => (l, 1)) := by
  unfold rowAt
  rw [if_pos h, List.getD_eq_getElem?_getD, hb]
  rfl
theorem nrw_rest (b n : Int) (sh : Sh) : (restD b n sh).length ≤ 2 ∧ ∀ d ∈ restD b n sh, Nrw 1 d := by
  cases sh <;> refine ⟨Nat.le_of_ble_eq_true rfl, fun d hd => ?_⟩ <;> unfold restD at hd <;> simp only [List.mem_cons, List.not_mem_nil, or_false] at hd
  · rcases hd with rfl | rfl <;> exact True.intro
  · rcases hd with rfl | rfl <;> exact True.intro
  · rw [hd]; exact True.intro
  · rw [hd]; exact True.intro
theorem nrw_rowD {b n : Int} {l : List PyData} (h : rowD b n = some l) : Nrw 2 (.tuple l) := by
  cases hd : dec b with
  | none =>
    unfold rowD at h
    rw [hd] at h
    cases h
  | some p =>
    obtain ⟨w, sh⟩ := p
    rw [rowD_dec hd] at h
    obtain rfl := Option.some.inj h
    obtain ⟨h1, h2⟩ := nrw_rest b n sh
    refine ⟨Nat.lt_of_le_of_lt (m := 3) (by rw [List.length_cons]; omega) (by decide), fun d hd => ?_⟩
    rcases List.mem_cons.mp hd with rfl | hd
    · exact True.intro
    · exact h2 d hd
theorem nrw_at (ns : List Int) (a : Int) : Nrw 3 (atD (rowAt ns a)) := by
  cases h : rowAt ns a with
  | none => exact True.intro
  | some p =>
    obtain ⟨l, m⟩ := p
    have hl : ∃ b n, rowD b n = some l := by
      unfold rowAt at h
      split at h
      · split at h
        · split at h
          · cases g : rowD (ns.getD a.toNat 0) (ns.getD (a.toNat + 1) 0) with
            | none => rw [g] at h; cases h
            | some l2 =>
              rw [g] at h
              cases h
              exact ⟨_, _, g⟩
          · cases h
        · cases g : rowD (ns.getD a.toNat 0) 0 with
          | none => rw [g] at h; cases h
          | some l2 =>
            rw [g] at h
            cases h
            exact ⟨_, _, g⟩
      · cases h
    obtain ⟨b, n, hl⟩ := hl
    refine ⟨(by decide : 2 < sizeLine), fun d hd => ?_⟩
    rcases List.mem_cons.mp hd with rfl | hd
    · exact nrw_rowD hl
    · rw [List.mem_singleton.mp hd]
      exact True.intro
end Rl
namespace Rl
open PySem PySem.Spec PyProof.Rows L2
/-! ## where a row goes on -/
def wordOf : List PyData → Str
  | .str w :: _ => w
  | _ => ""
def numOf : List PyData → Int
  | _ :: .int n :: _ => n
  | _ => 0
def endsT : List Str := ["halt", "back", "go"]
def tgtT : List Str := ["go", "zero", "nonzero", "less", "notless", "call"]
def behind (ns : List Int) (a : Int) : Option Int := match rowAt ns a with
  | some (l, m) => if wordOf l ∈ endsT then none else some (a + m)
  | none => none
def tgt (ns : List Int) (a : Int) : Option Int := match rowAt ns a with
  | some (l, _) => if wordOf l ∈ tgtT then some (numOf l) else none
  | none => none
def isCall (ns : List Int) (a : Int) : Bool := match rowAt ns a with
  | some (l, _) => decide (wordOf l = "call")
  | none => false
def optV : Option Int → V
  | some i => .int i
  | none => .non
theorem tgt_dec : ∀ b : Fin 256, (match dec (b.val : Int) with
    | some (w, sh) => decide (w ∈ tgtT) == decide (sh = .n)
    | none => true) = true := by decide +kernel
theorem row_shape {ns : List Int} {a m : Int} {l : List PyData} (hb : By ns) (h : rowAt ns a = some (l, m)) : ∃ w rest, l = .str w :: rest ∧ (w ∈ tgtT → ∃ n, rest = [.int n]) := by
  unfold rowAt at h
  by_cases hin : 0 ≤ a ∧ a < ns.length
  · rw [if_pos hin] at h
    obtain ⟨b, e⟩ : ∃ b, ns[a.toNat]? = some b := ⟨_, List.getElem?_eq_getElem (by omega)⟩
    have hb2 := hb b (List.mem_of_getElem? e)
    have hl : ∃ n, rowD b n = some l := by
      rw [List.getD_eq_getElem?_getD, e] at h
      simp only [Option.getD_some] at h
      split at h
      · split at h
        · cases g : rowD b (ns.getD (a.toNat + 1) 0) with
          | none => rw [g] at h; cases h
          | some l2 =>
            rw [g] at h
            cases h
            exact ⟨_, g⟩
        · cases h
      · cases g : rowD b 0 with
        | none => rw [g] at h; cases h
        | some l2 =>
          rw [g] at h
          cases h
          exact ⟨_, g⟩
    obtain ⟨n, hl⟩ := hl
    cases hd : dec b with
    | none =>
      unfold rowD at hl
      rw [hd] at hl
      cases hl
    | some p =>
      obtain ⟨w, sh⟩ := p
      rw [rowD_dec hd] at hl
      refine ⟨w, restD b n sh, (Option.some.inj hl).symm, fun hw => ?_⟩
      have t := tgt_dec ⟨b.toNat, by omega⟩
      have e2 : ((b.toNat : Nat) : Int) = b := Int.toNat_of_nonneg hb2.1
      simp only [e2, hd] at t
      have hs : sh = .n := by
        rw [decide_eq_true hw] at t
        exact of_decide_eq_true (eq_of_beq t).symm
      rw [hs]
      exact ⟨n, rfl⟩
  · rw [if_neg hin] at h
    cases h
theorem dp_at {K : PySem.W.Frag} {H : Hp} {v : V} {w : Str} {rest : List PyData} {m : Int} (h : Dp K H v (atD (some (.str w :: rest, m)))) : ∃ p q xs, v = .ref p ∧ SqT K H p [.ref q, .int m] ∧ SqT K H q (.str w :: xs) ∧ DpAll K H xs rest := by
  obtain ⟨p, ys, rfl, hp, ha⟩ := dp_tup h
  cases ha with
  | cons a1 t1 =>
    cases t1 with
    | cons a2 t2 =>
      cases t2
      obtain ⟨q, xs, rfl, hq, hb⟩ := dp_tup a1
      cases hb with
      | cons b1 s1 =>
        rw [dp_str b1] at hq
        rw [dp_int a2] at hp
        exact ⟨p, q, _, rfl, hp, hq, s1⟩
theorem in_strs (w : Str) : ∀ ws : List Str, inV (.str w) (ws.map V.str) = decide (w ∈ ws)
  | [] => rfl
  | z :: ws => by
    have ih := in_strs w ws
    unfold inV at ih ⊢
    rw [List.map_cons, List.any_cons, ih]
    show (eqV (V.str z) (V.str w) || decide (w ∈ ws)) = _
    have e : eqV (V.str z) (V.str w) = decide (w = z) := by
      show decide (z = w) = decide (w = z)
      by_cases h : w = z
      · rw [decide_eq_true h, decide_eq_true h.symm]
      · rw [decide_eq_false h, decide_eq_false fun q => h q.symm]
    rw [e]
    by_cases h : w = z
    · subst h
      simp
    · simp [h]
theorem R.inStrs {K : PySem.W.Frag} {H : Hp} {Q : VK} {w : Str} {ws : List Str} {p : Addr} (h : SqL K H p (ws.map V.str) ∨ SqT K H p (ws.map V.str)) (q : Q (.bl (decide (w ∈ ws))) H) : rIn K false (.str w) (.ref p) H Q :=
  ⟨p, _, rfl, h, rfl, List.all_eq_true.mpr fun x hx => by
    obtain ⟨z, _, rfl⟩ := List.mem_map.mp hx
    rfl, by
    rw [← in_strs] at q
    exact q⟩
/-- the ints of a tuple of ints and Nones, as a set -/
theorem scOpts {K : PySem.W.Frag} {w : World} {σ : L2.St} {H : Hp} {Q : VK} {a : Addr} {j : Nat} (os : List (Option Int)) (h : SqT K H a (os.map optV)) (hl : os.length < 60) (hw : ∀ x, wipe ((wipe σ [j]).set j (some x)) [j] = wipe σ [j]) (hg : ∀ x, ((wipe σ [j]).set j (some x))[j]? = some (some x))
    (q : ∀ D H' S n, H D = none → Same H H' → H' D = some (SetO w D S n) → n < 64 → (∀ k, S k = true ↔ some k ∈ os) → Q (.ref D) H') :
    ∀ D, H D = none → ScGo w (Itt K a) (L2.gName j) (tTest (tOp rNotN (tVar j) (tC .non))) (tVar j) [j] σ D H Q := by
  intro D hD
  refine scWalk walk_tup (fun i H' => Same H H' ∧ ∃ S n, H' D = some (SetO w D S n) ∧ n ≤ i ∧ ∀ k, S k = true ↔ some k ∈ os.take i) ⟨same_upd hD, _, 0, upd_same, Nat.le_refl _, fun k => ?_⟩ (fun i H' _ z => SqT.mono z.1 h) ?_ (fun H' z => ?_)
  · constructor
    · intro z
      cases z
    · intro z
      cases z
  · rintro i x H1 H' hi ⟨z1, S, n, z2, z3, z4⟩ ⟨rfl, hx⟩
    rw [List.length_map] at hi
    rw [List.getElem?_map, List.getElem?_eq_getElem hi] at hx
    obtain rfl : optV os[i] = x := Option.some.inj hx
    have ht : os.take (i + 1) = os.take i ++ [os[i]] := by rw [List.take_add_one, List.getElem?_eq_getElem hi]; rfl
    refine ⟨hw _, ?_⟩
    refine ⟨_, hg _, rfl, ?_⟩
    cases ho : os[i] with
    | none =>
      refine ⟨false, rfl, iteF ⟨z1, S, n, z2, by omega, fun k => ?_⟩⟩
      rw [ht, ho, List.mem_append, z4 k]
      simp
    | some c =>
      refine ⟨true, rfl, iteT ⟨_, hg _, c, S, n, rfl, z2, Nat.lt_of_le_of_lt (m := 61) (by omega) (by decide), ?_, _, _, upd_same, ?_, fun k => ?_⟩⟩
      · intro b o e
        rw [upd_ne (ne_of_none e hD)]
        exact z1 _ _ e
      · split <;> omega
      · rw [ht, ho, List.mem_append, Bool.or_eq_true, z4 k, List.mem_singleton]
        constructor
        · rintro (z | z)
          · exact .inl z
          · exact .inr (by rw [of_decide_eq_true z])
        · rintro (z | z)
          · exact .inl z
          · exact .inr (decide_eq_true (Option.some.inj z))
  · obtain ⟨z1, S, n, z2, z3, z4⟩ := z
    rw [List.length_map] at z3
    rw [List.length_map, List.take_of_length_le (Nat.le_refl _)] at z4
    exact q D H' S n hD z1 z2 (by omega) z4
structure FindC (K : PySem.W.Frag) (w : World) : Prop where
  mach : MachC K w
  ends : ∀ H, SqT K H (He.ga K "ENDS") [.str "halt", .str "back", .str "go"]
/-- a new pair -/
def Pair2 (H : Hp) (v : V) (x y : Option Int) : Prop := ∃ p, v = .ref p ∧ H p = some (.tup [optV x, optV y])
def sp_behind_and_target (K : PySem.W.Frag) (_ : World) : Sp := fun vs H Q _ => ∃ (c : V) (ns : List Int) (a : Int), vs = [c, .int a] ∧ Code K H c ns ∧ By ns ∧ ∀ v H', Same H H' → Pair2 H' v (behind ns a) (tgt ns a) → Q v H'
def sp_is_call (K : PySem.W.Frag) (_ : World) : Sp := fun vs H Q _ => ∃ (c : V) (ns : List Int) (a : Int), vs = [c, .int a] ∧ Code K H c ns ∧ By ns ∧ ∀ H', Same H H' → Q (.bl (isCall ns a)) H'
/-- the places that a row goes on to -/
def Goes (ns : List Int) (a : Int) (L : List Int) : Prop := L.Pairwise (· < ·) ∧ ∀ k, k ∈ L ↔ (behind ns a = some k ∨ (isCall ns a = false ∧ tgt ns a = some k))
def sp_goes_on (K : PySem.W.Frag) (_ : World) : Sp := fun vs H Q _ => ∃ (c : V) (ns : List Int) (a : Int), vs = [c, .int a] ∧ Code K H c ns ∧ By ns ∧ ∀ p H' L, Same H H' → H p = none → H' p = some (.lst (L.map V.int)) → Goes ns a L → Q (.ref p) H'
def sp_law_onward (K : PySem.W.Frag) (_ : World) : Sp := fun vs H Q _ => ∃ (t a : Addr) (ns : List Int) (i : Int), vs = [.ref t, .ref a, .int i] ∧ Tab H t tabT ∧ SqL K H a (ns.map V.int) ∧ By ns ∧ ns.length ≤ 100000 ∧ ∀ v H', Same H H' → Pair2 H' v (behind ns i) (tgt ns i) → Q v H'
def sp_law_is_call (K : PySem.W.Frag) (_ : World) : Sp := fun vs H Q _ => ∃ (t a : Addr) (ns : List Int) (i : Int), vs = [.ref t, .ref a, .int i] ∧ Tab H t tabT ∧ SqL K H a (ns.map V.int) ∧ By ns ∧ ns.length ≤ 100000 ∧ ∀ H', Same H H' → Q (.bl (isCall ns i)) H'
theorem len_behind_and_target {K : PySem.W.Frag} {w : World} {vs : List V} {H : Hp} {Q : VK} {E : XK} (h : sp_behind_and_target K w vs H Q E) : vs.length = 2 := by
  obtain ⟨_, _, _, rfl, _⟩ := h
  rfl
theorem len_is_call {K : PySem.W.Frag} {w : World} {vs : List V} {H : Hp} {Q : VK} {E : XK} (h : sp_is_call K w vs H Q E) : vs.length = 2 := by
  obtain ⟨_, _, _, rfl, _⟩ := h
  rfl
theorem len_goes_on {K : PySem.W.Frag} {w : World} {vs : List V} {H : Hp} {Q : VK} {E : XK} (h : sp_goes_on K w vs H Q E) : vs.length = 2 := by
  obtain ⟨_, _, _, rfl, _⟩ := h
  rfl
theorem len_law_onward {K : PySem.W.Frag} {w : World} {vs : List V} {H : Hp} {Q : VK} {E : XK} (h : sp_law_onward K w vs H Q E) : vs.length = 3 := by
  obtain ⟨_, _, _, _, rfl, _⟩ := h
  rfl
theorem len_law_is_call {K : PySem.W.Frag} {w : World} {vs : List V} {H : Hp} {Q : VK} {E : XK} (h : sp_law_is_call K w vs H Q E) : vs.length = 3 := by
  obtain ⟨_, _, _, _, rfl, _⟩ := h
  rfl
/-- the same members, rising: the same list -/
theorem sorted_uniq : ∀ {L M : List Int}, L.Pairwise (· < ·) → M.Pairwise (· < ·) → (∀ k, k ∈ L ↔ k ∈ M) → L = M
  | [], [], _, _, _ => rfl
  | [], m :: M, _, _, h => by
    have := (h m).mpr List.mem_cons_self
    cases this
  | l :: L, [], _, _, h => by
    have := (h l).mp List.mem_cons_self
    cases this
  | l :: L, m :: M, hl, hm, h => by
    obtain ⟨l1, l2⟩ := List.pairwise_cons.mp hl
    obtain ⟨m1, m2⟩ := List.pairwise_cons.mp hm
    have e : l = m := by
      rcases List.mem_cons.mp ((h l).mp List.mem_cons_self) with z | z
      · exact z
      · rcases List.mem_cons.mp ((h m).mpr List.mem_cons_self) with y | y
        · exact y.symm
        · have := m1 l z
          have := l1 m y
          omega
    subst e
    rw [sorted_uniq l2 m2 fun k => ?_]
    constructor
    · intro hk
      rcases List.mem_cons.mp ((h k).mp (List.mem_cons_of_mem _ hk)) with z | z
      · have := l1 k hk
        omega
      · exact z
    · intro hk
      rcases List.mem_cons.mp ((h k).mpr (List.mem_cons_of_mem _ hk)) with z | z
      · have := m1 k hk
        omega
      · exact z
theorem Goes.uniq {ns : List Int} {a : Int} {L M : List Int} (h : Goes ns a L) (g : Goes ns a M) : L = M := sorted_uniq h.1 g.1 fun k => (h.2 k).trans (g.2 k).symm
end Rl
namespace Rl
open PySem PySem.Spec PyProof.Rows L2
theorem row_range {ns : List Int} {a m : Int} {l : List PyData} (h : rowAt ns a = some (l, m)) : 0 ≤ a ∧ a < ns.length ∧ 1 ≤ m ∧ a + m ≤ ns.length := by
  by_cases hin : 0 ≤ a ∧ a < ns.length
  · obtain ⟨b, e⟩ : ∃ b, ns[a.toNat]? = some b := ⟨_, List.getElem?_eq_getElem (by omega)⟩
    rw [rowAt_in hin e] at h
    split at h
    · split at h
      · cases g : rowD b (ns.getD (a.toNat + 1) 0) with
        | none => rw [g] at h; cases h
        | some l2 =>
          rw [g] at h
          cases h
          omega
      · cases h
    · cases g : rowD b 0 with
      | none => rw [g] at h; cases h
      | some l2 =>
        rw [g] at h
        cases h
        omega
  · rw [rowAt_out hin] at h
    cases h
theorem row_byte {ns : List Int} {a m n : Int} {w : Str} (hb : By ns) (hw : w ∈ tgtT) (h : rowAt ns a = some ([.str w, .int n], m)) : 0 ≤ n ∧ n < 256 := by
  obtain ⟨h0, h1, _, _⟩ := row_range h
  obtain ⟨b, e⟩ : ∃ b, ns[a.toNat]? = some b := ⟨_, List.getElem?_eq_getElem (by omega)⟩
  have hb2 := hb b (List.mem_of_getElem? e)
  rw [rowAt_in ⟨h0, h1⟩ e] at h
  obtain ⟨z, hz, hl⟩ : ∃ z, (0 ≤ z ∧ z < 256) ∧ rowD b z = some [.str w, .int n] := by
    split at h
    · split at h
      · rename_i h2
        refine ⟨ns.getD (a.toNat + 1) 0, ?_, ?_⟩
        · rw [List.getD_eq_getElem?_getD, List.getElem?_eq_getElem (by omega)]
          exact hb _ (List.getElem_mem _)
        · cases g : rowD b (ns.getD (a.toNat + 1) 0) with
          | none => rw [g] at h; cases h
          | some l2 =>
            rw [g] at h
            cases h
            rfl
      · cases h
    · refine ⟨0, by decide, ?_⟩
      cases g : rowD b 0 with
      | none => rw [g] at h; cases h
      | some l2 =>
        rw [g] at h
        cases h
        rfl
  cases hd : dec b with
  | none =>
    unfold rowD at hl
    rw [hd] at hl
    cases hl
  | some p =>
    obtain ⟨w2, sh⟩ := p
    rw [rowD_dec hd] at hl
    have t := tgt_dec ⟨b.toNat, by omega⟩
    have e2 : ((b.toNat : Nat) : Int) = b := Int.toNat_of_nonneg hb2.1
    simp only [e2, hd] at t
    have hl2 := Option.some.inj hl
    injection hl2 with x1 x2
    injection x1 with x1
    rw [x1, decide_eq_true hw] at t
    have hs : sh = .n := of_decide_eq_true (eq_of_beq t).symm
    rw [hs] at x2
    have x3 : PyData.int z = PyData.int n := (List.cons.inj x2).1
    injection x3 with x3
    omega
end Rl
namespace Rl
open PySem PySem.Spec PyProof.Rows L2
/-! ## the old machine, as it is -/
structure Mc where
  bx : List Int
  cells : List Int
  zero : Bool
  less : Bool
  kept : List Int
  places : List Int
  ahead : List Int
  outs : List Int
  place : Int
  fin : Option Str
def Mc.box (m : Mc) (r : Nat) : Int := m.bx.getD r 0
def Mc.put (m : Mc) (r : Nat) (v : Int) : Mc := { m with bx := m.bx.set r v }
def Mc.mark (m : Mc) (z l : Bool) : Mc := { m with zero := z, less := l }
/-- what a row says, its boxes by number -/
inductive Op where
  | halt | back | rest
  | set (r : Nat) (n : Int) | copy (r s : Nat)
  | sum (add : Bool) (r s : Nat)
  | bits (k : Fin 3) (r s : Nat)
  | test (r s : Nat) | testn (r : Nat) (n : Int)
  | load (r s : Nat) | loadn (r : Nat) (n : Int)
  | store (r s : Nat) | storen (r : Nat) (n : Int)
  | go (k : Fin 5) (t : Int)
  | call (t : Int)
  | inn (r : Nat) | out (r : Nat) | keep (r : Nat) | take (r : Nat)
def bxN (r : Nat) : Str := Rl.box (r : Int)
def bitsW : Fin 3 → Str
  | 0 => "and"
  | 1 => "or"
  | 2 => "xor"
def bitsF : Fin 3 → Int → Int → Int
  | 0 => Builtin.bitAnd
  | 1 => Builtin.bitOr
  | 2 => Builtin.bitXor
def goW : Fin 5 → Str
  | 0 => "go"
  | 1 => "zero"
  | 2 => "nonzero"
  | 3 => "less"
  | 4 => "notless"
def goB (m : Mc) : Fin 5 → Bool
  | 0 => true
  | 1 => m.zero
  | 2 => !m.zero
  | 3 => m.less
  | 4 => !m.less
def Op.data : Op → List PyData
  | .halt => [.str "halt"]
  | .back => [.str "back"]
  | .rest => [.str "rest"]
  | .set r n => [.str "set", .str (bxN r), .int n]
  | .copy r s => [.str "copy", .str (bxN r), .str (bxN s)]
  | .sum a r s => [.str (if a then "add" else "sub"), .str (bxN r), .str (bxN s)]
  | .bits k r s => [.str (bitsW k), .str (bxN r), .str (bxN s)]
  | .test r s => [.str "test", .str (bxN r), .str (bxN s)]
  | .testn r n => [.str "testn", .str (bxN r), .int n]
  | .load r s => [.str "load", .str (bxN r), .str (bxN s)]
  | .loadn r n => [.str "loadn", .str (bxN r), .int n]
  | .store r s => [.str "store", .str (bxN r), .str (bxN s)]
  | .storen r n => [.str "storen", .str (bxN r), .int n]
  | .go k t => [.str (goW k), .int t]
  | .call t => [.str "call", .int t]
  | .inn r => [.str "in", .str (bxN r)]
  | .out r => [.str "out", .str (bxN r)]
  | .keep r => [.str "keep", .str (bxN r)]
  | .take r => [.str "take", .str (bxN r)]
/-- which def does it -/
def Op.doer : Op → Str
  | .halt => "done_alone"
  | .back => "done_alone"
  | .rest => "done_alone"
  | .set .. => "done_set"
  | .copy .. => "done_set"
  | .sum .. => "done_sum"
  | .bits .. => "done_bits"
  | .test .. => "done_test"
  | .testn .. => "done_test"
  | .load .. => "done_load"
  | .loadn .. => "done_load"
  | .store .. => "done_store"
  | .storen .. => "done_store"
  | .go .. => "done_go"
  | .call .. => "done_call"
  | .inn .. => "done_in"
  | .out .. => "done_out"
  | .keep .. => "done_keep"
  | .take .. => "done_take"
/-- its boxes are boxes, its numbers bytes -/
def Op.Ok : Op → Prop
  | .halt => True
  | .back => True
  | .rest => True
  | .set r n => r < 4 ∧ 0 ≤ n ∧ n < 256
  | .copy r s => r < 4 ∧ s < 4
  | .sum _ r s => r < 4 ∧ s < 4
  | .bits _ r s => r < 4 ∧ s < 4
  | .test r s => r < 4 ∧ s < 4
  | .testn r n => r < 4 ∧ 0 ≤ n ∧ n < 256
  | .load r s => r < 4 ∧ s < 4
  | .loadn r n => r < 4 ∧ 0 ≤ n ∧ n < 256
  | .store r s => r < 4 ∧ s < 4
  | .storen r n => r < 4 ∧ 0 ≤ n ∧ n < 256
  | .go _ t => 0 ≤ t ∧ t < 256
  | .call t => 0 ≤ t ∧ t < 256
  | .inn r => r < 4
  | .out r => r < 4
  | .keep r => r < 4
  | .take r => r < 4
def Mc.act (m : Mc) : Op → Mc
  | .halt => { m with fin := some "halt" }
  | .back => if m.places = [] then { m with fin := some "bare" } else { m with place := m.places.getD (m.places.length - 1) 0, places := m.places.dropLast }
  | .rest => m
  | .set r n => m.put r n
  | .copy r s => m.put r (m.box s)
  | .sum a r s => (m.put r ((if a then m.box r + m.box s else m.box r - m.box s) % 256)).mark (decide ((if a then m.box r + m.box s else m.box r - m.box s) % 256 = 0)) (!decide (0 ≤ (if a then m.box r + m.box s else m.box r - m.box s) ∧ (if a then m.box r + m.box s else m.box r - m.box s) < 256))
  | .bits k r s => (m.put r (bitsF k (m.box r) (m.box s))).mark (decide (bitsF k (m.box r) (m.box s) = 0)) false
  | .test r s => m.mark (decide (m.box r = m.box s)) (decide (m.box r < m.box s))
  | .testn r n => m.mark (decide (m.box r = n)) (decide (m.box r < n))
  | .load r s => m.put r (m.cells.getD (m.box s % 64).toNat 0)
  | .loadn r n => m.put r (m.cells.getD (n % 64).toNat 0)
  | .store r s => { m with cells := m.cells.set (m.box r % 64).toNat (m.box s) }
  | .storen r n => { m with cells := m.cells.set (n % 64).toNat (m.box r) }
  | .go k t => if goB m k then { m with place := t } else m
  | .call t => if m.places.length = 16 then { m with fin := some "deep" } else { m with places := m.places ++ [m.place], place := t }
  | .inn r => if m.ahead = [] then m.put r 0 else { m.put r (m.ahead.getD 0 0) with ahead := m.ahead.drop 1 }
  | .out r => { m with outs := m.outs ++ [m.box r] }
  | .keep r => if m.kept.length = 16 then { m with fin := some "deep" } else { m with kept := m.kept ++ [m.box r] }
  | .take r => if m.kept = [] then { m with fin := some "bare" } else { m.put r (m.kept.getD (m.kept.length - 1) 0) with kept := m.kept.dropLast }
/-- what holds of it at any time -/
structure Mc.Ok (m : Mc) : Prop where
  bl : m.bx.length = 4
  bb : By m.bx
  cl : m.cells.length = 64
  cb : By m.cells
  kl : m.kept.length ≤ 16
  kb : By m.kept
  pl : m.places.length ≤ 16
  ab : By m.ahead
/-- a new one -/
def Mc.new (ahead : List Int) : Mc := ⟨[0, 0, 0, 0], List.replicate 64 0, false, false, [], [], ahead, [], 0, none⟩
/-- every row is one of these -/
theorem row_op {ns : List Int} {a m : Int} {l : List PyData} (hb : By ns) (h : rowAt ns a = some (l, m)) : ∃ op : Op, l = op.data ∧ op.Ok := by
  have r := row_range h
  obtain ⟨b, e⟩ : ∃ b, ns[a.toNat]? = some b := ⟨_, List.getElem?_eq_getElem (by omega)⟩
  have hb2 := hb b (List.mem_of_getElem? e)
  rw [rowAt_in ⟨r.1, r.2.1⟩ e] at h
  obtain ⟨z, hz, hl⟩ : ∃ z, (0 ≤ z ∧ z < 256) ∧ rowD b z = some l := by
    split at h
    · split at h
      · rename_i h2
        refine ⟨ns.getD (a.toNat + 1) 0, ?_, ?_⟩
        · rw [List.getD_eq_getElem?_getD, List.getElem?_eq_getElem (by omega)]
          exact hb _ (List.getElem_mem _)
        · cases g : rowD b (ns.getD (a.toNat + 1) 0) with
          | none => rw [g] at h; cases h
          | some l2 =>
            rw [g] at h
            cases h
            rfl
      · cases h
    · refine ⟨0, by decide, ?_⟩
      cases g : rowD b 0 with
      | none => rw [g] at h; cases h
      | some l2 =>
        rw [g] at h
        cases h
        rfl
  have hr : (b / 4 % 4).toNat < 4 := by omega
  have hs : (b % 4).toNat < 4 := by omega
  have er : bxN (b / 4 % 4).toNat = boxR b := by
    unfold bxN boxR
    rw [Int.toNat_of_nonneg (by omega)]
  have es : bxN (b % 4).toNat = boxS b := by
    unfold bxN boxS
    rw [Int.toNat_of_nonneg (by omega)]
  cases hd : dec b with
  | none =>
    unfold rowD at hl
    rw [hd] at hl
    cases hl
  | some p =>
    obtain ⟨wd, sh⟩ := p
    rw [rowD_dec hd] at hl
    obtain rfl := Option.some.inj hl
    have key : ∀ b : Fin 256, (match dec (b.val : Int) with
      | some (w, .e) => decide (w ∈ (["halt", "back", "rest"] : List Str))
      | some (w, .rs) => decide (w ∈ (["copy", "add", "sub", "and", "or", "xor", "test", "load", "store"] : List Str))
      | some (w, .rn) => decide (w ∈ (["set", "testn", "loadn", "storen"] : List Str))
      | some (w, .n) => decide (w ∈ (["go", "zero", "nonzero", "less", "notless", "call"] : List Str))
      | some (w, .r) => decide (w ∈ (["in", "out", "keep", "take"] : List Str))
      | none => true) = true := by decide +kernel
    have k := key ⟨b.toNat, by omega⟩
    have e2 : ((b.toNat : Nat) : Int) = b := Int.toNat_of_nonneg hb2.1
    simp only [e2, hd] at k
    cases sh with
    | e =>
      have k2 := of_decide_eq_true k
      simp only [List.mem_cons, List.not_mem_nil, or_false] at k2
      rcases k2 with rfl | rfl | rfl
      · exact ⟨.halt, rfl, True.intro⟩
      · exact ⟨.back, rfl, True.intro⟩
      · exact ⟨.rest, rfl, True.intro⟩
    | rs =>
      have k2 := of_decide_eq_true k
      simp only [List.mem_cons, List.not_mem_nil, or_false] at k2
      unfold restD
      rw [← er, ← es]
      rcases k2 with rfl | rfl | rfl | rfl | rfl | rfl | rfl | rfl | rfl
      · exact ⟨.copy _ _, rfl, hr, hs⟩
      · exact ⟨.sum true _ _, rfl, hr, hs⟩
      · exact ⟨.sum false _ _, rfl, hr, hs⟩
      · exact ⟨.bits 0 _ _, rfl, hr, hs⟩
      · exact ⟨.bits 1 _ _, rfl, hr, hs⟩
      · exact ⟨.bits 2 _ _, rfl, hr, hs⟩
      · exact ⟨.test _ _, rfl, hr, hs⟩
      · exact ⟨.load _ _, rfl, hr, hs⟩
      · exact ⟨.store _ _, rfl, hr, hs⟩
    | rn =>
      have k2 := of_decide_eq_true k
      simp only [List.mem_cons, List.not_mem_nil, or_false] at k2
      unfold restD
      rw [← er]
      rcases k2 with rfl | rfl | rfl | rfl
      · exact ⟨.set _ _, rfl, hr, hz⟩
      · exact ⟨.testn _ _, rfl, hr, hz⟩
      · exact ⟨.loadn _ _, rfl, hr, hz⟩
      · exact ⟨.storen _ _, rfl, hr, hz⟩
    | n =>
      have k2 := of_decide_eq_true k
      simp only [List.mem_cons, List.not_mem_nil, or_false] at k2
      unfold restD
      rcases k2 with rfl | rfl | rfl | rfl | rfl | rfl
      · exact ⟨.go 0 _, rfl, hz⟩
      · exact ⟨.go 1 _, rfl, hz⟩
      · exact ⟨.go 2 _, rfl, hz⟩
      · exact ⟨.go 3 _, rfl, hz⟩
      · exact ⟨.go 4 _, rfl, hz⟩
      · exact ⟨.call _, rfl, hz⟩
    | r =>
      have k2 := of_decide_eq_true k
      simp only [List.mem_cons, List.not_mem_nil, or_false] at k2
      unfold restD
      rw [← er]
      rcases k2 with rfl | rfl | rfl | rfl
      · exact ⟨.inn _, rfl, hr⟩
      · exact ⟨.out _, rfl, hr⟩
      · exact ⟨.keep _, rfl, hr⟩
      · exact ⟨.take _, rfl, hr⟩
end Rl
namespace Rl
open PySem PySem.Spec PyProof.Rows L2
/-! ## the bytes of a row -/
/-- the first byte -/
def Op.fst : Op → Int
  | .halt => 0
  | .back => 1
  | .rest => 2
  | .set r _ => 16 + 4 * r
  | .copy r s => 32 + 4 * r + s
  | .sum a r s => (if a then 48 else 64) + 4 * r + s
  | .bits k r s => 80 + 16 * (k.val : Nat) + 4 * r + s
  | .test r s => 128 + 4 * r + s
  | .testn r _ => 144 + 4 * r
  | .load r s => 160 + 4 * r + s
  | .loadn r _ => 192 + 4 * r
  | .store r s => 176 + 4 * r + s
  | .storen r _ => 208 + 4 * r
  | .go k _ => 224 + (k.val : Nat)
  | .call _ => 229
  | .inn r => 240 + 4 * r
  | .out r => 241 + 4 * r
  | .keep r => 242 + 4 * r
  | .take r => 243 + 4 * r
/-- the second one, if there is one -/
def Op.snd : Op → List Int
  | .set _ n => [n]
  | .testn _ n => [n]
  | .loadn _ n => [n]
  | .storen _ n => [n]
  | .go _ t => [t]
  | .call t => [t]
  | _ => []
def Op.bytes (op : Op) : List Int := op.fst :: op.snd
/-- as values -/
def flV : PyData → V
  | .str s => .str s
  | .int i => .int i
  | _ => .non
def Op.vals (op : Op) : List V := op.data.map flV
end Rl
namespace Rl
open PySem PySem.Spec PyProof.Rows L2
/-! ## words in lists, written; places in lists and texts -/
theorem in_ints (i : Int) : ∀ ns : List Int, inV (.int i) (ns.map V.int) = decide (i ∈ ns)
  | [] => rfl
  | z :: ns => by
    have ih := in_ints i ns
    unfold inV at ih ⊢
    rw [List.map_cons, List.any_cons, ih]
    show ((z == i) || decide (i ∈ ns)) = _
    by_cases h : i = z
    · subst h
      simp
    · have h2 : ¬ z = i := fun q => h q.symm
      simp [h, h2]
theorem R.inInts {K : PySem.W.Frag} {H : Hp} {Q : VK} {i : Int} {ns : List Int} {p : Addr} (h : SqL K H p (ns.map V.int) ∨ SqT K H p (ns.map V.int)) (q : Q (.bl (decide (i ∈ ns))) H) : rIn K false (.int i) (.ref p) H Q :=
  ⟨p, _, rfl, h, rfl, List.all_eq_true.mpr fun x hx => by
    obtain ⟨z, _, rfl⟩ := List.mem_map.mp hx
    rfl, by
    rw [← in_ints] at q
    exact q⟩
theorem R.ninInts {K : PySem.W.Frag} {H : Hp} {Q : VK} {i : Int} {ns : List Int} {p : Addr} (h : SqL K H p (ns.map V.int) ∨ SqT K H p (ns.map V.int)) (q : Q (.bl (!decide (i ∈ ns))) H) : rIn K true (.int i) (.ref p) H Q :=
  ⟨p, _, rfl, h, rfl, List.all_eq_true.mpr fun x hx => by
    obtain ⟨z, _, rfl⟩ := List.mem_map.mp hx
    rfl, by
    rw [← in_ints] at q
    exact q⟩
namespace R
section
variable {K : PySem.W.Frag} {σ : L2.St} {H : Hp} {Q : VK} {tk : TE} {n : Nat} {key : Str} {v : V} {nx bk ct : L2.St → Hp → Prop} {rt : VK} {t u : TS} {te tf : TE} {wd z : Str} {ws : List Str}
/-- a list of words, written -/
def strL : List Str → TA
  | [] => tNil
  | w :: ws => tCons (tC (.str w)) (strL ws)
theorem strL_ok : ∀ (ws : List Str) {σ : L2.St} {H : Hp} {QA : List V → Hp → Prop}, QA (ws.map V.str) H → strL ws σ H QA
  | [], _, _, _, q => R.nil q
  | w :: ws, _, _, QA, q => R.cons (R.c (strL_ok ws (QA := fun xs H2 => QA (.str w :: xs) H2) q))
theorem inN (ws : List Str) (hn : wd ∉ ws) (q : ∀ H', Same H H' → u ⟨nx, rt, bk, ct⟩ σ H') (hl : ws.length ≤ sizeLine := by decide) (h0 : σ[n]? = some (some (.str wd)) := by with_unfolding_all rfl) : tIfS (tTest (tOp (rIn K false) (tVar n) (tLst (strL ws)))) t u ⟨nx, rt, bk, ct⟩ σ H :=
  R.ifS (R.test (R.op (R.var (R.lst (strL_ok ws ⟨by rw [List.length_map]; exact hl, fun l hl2 => R.inStrs (ws := ws) (.inl (SqL.of upd_same)) (R.bl (R.iDF hn (q _ (same_upd hl2))))⟩)) h0)))
theorem inY (ws : List Str) (hn : wd ∈ ws) (q : ∀ H', Same H H' → t ⟨nx, rt, bk, ct⟩ σ H') (hl : ws.length ≤ sizeLine := by decide) (h0 : σ[n]? = some (some (.str wd)) := by with_unfolding_all rfl) : tIfS (tTest (tOp (rIn K false) (tVar n) (tLst (strL ws)))) t u ⟨nx, rt, bk, ct⟩ σ H :=
  R.ifS (R.test (R.op (R.var (R.lst (strL_ok ws ⟨by rw [List.length_map]; exact hl, fun l hl2 => R.inStrs (ws := ws) (.inl (SqL.of upd_same)) (R.bl (R.iDT hn (q _ (same_upd hl2))))⟩)) h0)))
theorem eqN (hn : wd ≠ z) (q : u ⟨nx, rt, bk, ct⟩ σ H) (h0 : σ[n]? = some (some (.str wd)) := by with_unfolding_all rfl) : tIfS (tTest (tOp (rEqA K) (tVar n) (tC (.str z)))) t u ⟨nx, rt, bk, ct⟩ σ H := R.ifS (R.test (R.op (R.var (R.c (R.eqS (R.bl (R.iDF hn q)))) h0)))
theorem eqY (hn : wd = z) (q : t ⟨nx, rt, bk, ct⟩ σ H) (h0 : σ[n]? = some (some (.str wd)) := by with_unfolding_all rfl) : tIfS (tTest (tOp (rEqA K) (tVar n) (tC (.str z)))) t u ⟨nx, rt, bk, ct⟩ σ H := R.ifS (R.test (R.op (R.var (R.c (R.eqS (R.bl (R.iDT hn q)))) h0)))
theorem andN {c : TT} (hn : wd ≠ z) (q : u ⟨nx, rt, bk, ct⟩ σ H) (h0 : σ[n]? = some (some (.str wd)) := by with_unfolding_all rfl) : tIfS (tAnd (tTest (tOp (rEqA K) (tVar n) (tC (.str z)))) c) t u ⟨nx, rt, bk, ct⟩ σ H :=
  R.ifS (R.and' (R.test (R.op (R.var (R.c (R.eqS (R.bl (R.iDF hn (R.iF q))))) h0))))
theorem andY {c : TT} (hn : wd = z) (q : c σ H fun b H1 => if b = true then t ⟨nx, rt, bk, ct⟩ σ H1 else u ⟨nx, rt, bk, ct⟩ σ H1) (h0 : σ[n]? = some (some (.str wd)) := by with_unfolding_all rfl) : tIfS (tAnd (tTest (tOp (rEqA K) (tVar n) (tC (.str z)))) c) t u ⟨nx, rt, bk, ct⟩ σ H :=
  R.ifS (R.and' (R.test (R.op (R.var (R.c (R.eqS (R.bl (R.iDT hn q)))) h0))))
theorem eN (hn : wd ≠ z) (q : tf σ H Q) (h0 : σ[n]? = some (some (.str wd)) := by with_unfolding_all rfl) : tIf (tTest (tOp (rEqA K) (tVar n) (tC (.str z)))) te tf σ H Q := R.ifE (R.test (R.op (R.var (R.c (R.eqS (R.bl (R.iDF hn q)))) h0)))
theorem eY (hn : wd = z) (q : te σ H Q) (h0 : σ[n]? = some (some (.str wd)) := by with_unfolding_all rfl) : tIf (tTest (tOp (rEqA K) (tVar n) (tC (.str z)))) te tf σ H Q := R.ifE (R.test (R.op (R.var (R.c (R.eqS (R.bl (R.iDT hn q)))) h0)))
theorem rw0 {p : Addr} {x : V} {xs : List V} (hp : SqT K H p (x :: xs)) (q : Q x H) (h0 : σ[n]? = some (some (.ref p)) := by with_unfolding_all rfl) : tOp (rIx K) (tVar n) (tC (.int 0)) σ H Q := R.op (R.var (R.c (R.ixT0 hp q)) h0)
theorem rw1 {p : Addr} {x y : V} {xs : List V} (hp : SqT K H p (x :: y :: xs)) (q : Q y H) (h0 : σ[n]? = some (some (.ref p)) := by with_unfolding_all rfl) : tOp (rIx K) (tVar n) (tC (.int 1)) σ H Q := R.op (R.var (R.c (R.ixT1 hp q)) h0)
theorem rw2 {p : Addr} {x y z : V} {xs : List V} (hp : SqT K H p (x :: y :: z :: xs)) (q : Q z H) (h0 : σ[n]? = some (some (.ref p)) := by with_unfolding_all rfl) : tOp (rIx K) (tVar n) (tC (.int 2)) σ H Q := R.op (R.var (R.c (R.ixT hp (atI_pos (by decide) rfl) q)) h0)
theorem eqV_str {a b : Str} : eqV (V.str a) (V.str b) = decide (a = b) := rfl
theorem lstIx {p : Addr} {j : Nat} (h : SqL K H p (ws.map V.str)) (hj : ws[j]? = some wd) (hn : ∀ m, m < j → ws[m]? ≠ some wd) (q : Q (.int j) H) : rIndex K (.ref p) [.str wd] H Q := by
  refine ⟨p, _, .str wd, j, .str wd, rfl, rfl, h, rfl, List.all_eq_true.mpr fun x hx => ?_, by rw [List.getElem?_map, hj]; rfl, by rw [eqV_str, decide_eq_true rfl], fun m z' hm hz => ?_, q⟩
  · obtain ⟨y, _, rfl⟩ := List.mem_map.mp hx
    rfl
  · rw [List.getElem?_map] at hz
    cases e : ws[m]? with
    | none =>
      rw [e] at hz
      cases hz
    | some y =>
      rw [e] at hz
      obtain rfl : V.str y = z' := Option.some.inj hz
      rw [eqV_str, decide_eq_false fun e2 => hn m hm (by rw [e, e2])]
/-- [..].index(word), the list written -/
theorem ixOf (ws : List Str) {j : Nat} (hj : ws[j]? = some wd) (hn : ∀ m, m < j → ws[m]? ≠ some wd) (q : ∀ H', Same H H' → Q (.int j) H') (hl : ws.length ≤ sizeLine := by decide) (h0 : σ[n]? = some (some (.str wd)) := by with_unfolding_all rfl) : tBM K "list" (rIndex K) (tLst (strL ws)) (tCons (tVar n) tNil) σ H Q :=
  R.bm (R.lst (strL_ok ws ⟨by rw [List.length_map]; exact hl, fun l hl2 => R.tyL upd_same (R.cons (R.var (R.nil (lstIx (ws := ws) (SqL.of upd_same) hj hn (q _ (same_upd hl2)))) h0))⟩))
end
end R
end Rl
namespace Rl
open PySem PySem.Spec PyProof.Rows L2
/-! ## a, *rest = a tuple or a list -/
/-- n targets, the last one starred -/
def gStar (K : PySem.W.Frag) (n : Nat) (t : TGs) : TG := fun v σ H Q => ∃ a xs, v = .ref a ∧ (SqT K H a xs ∨ SqL K H a xs) ∧ n ≤ xs.length + 1 ∧ xs.length ≤ 16384 ∧ ∀ D, H D = none → t (xs.take (n - 1) ++ [.ref D]) σ (upd H D (.lst (xs.drop (n - 1)))) Q
section
variable {X : Cx}
/-- behind the draws: the rest is laid down as a list -/
theorem star_laid {pins : List (Addr × Obj)} {σ : L2.St} {H : Hp} {s : Shared} {xs : List V} {us : List Value} {k : Nat} {E : Value → Shared → Prop} {P : List Value → Shared → Prop} (I : Inv X pins σ H s) (rv : Vals xs us) (hz : xs.length ≤ 16384)
    {h' : Heap} {tk : Nat} (keep : ∀ b o, s.heap.get? b = some o → h'.get? b = some o)
    (fin : ∀ D s', Inv X pins σ (upd H D (.lst (xs.drop k))) s' → H D = none → P (us.take k ++ [.ref D] ++ []) s') :
    wpAny (model X.prog X.w) X.A (newList (us.drop k) >>= fun d => pure (us.take k ++ [d] ++ [])) P E { s with heap := h', toks := tk } := by
  have J : Inv X pins σ H { s with heap := h', toks := tk } := I.kept keep
  have small : (us.drop k).length ≤ sizeLine := by
    rw [List.length_drop, ← rv.length, sizeLine_eq]
    omega
  have small2 : (xs.drop k).length ≤ sizeLine := by
    rw [List.length_drop, sizeLine_eq]
    omega
  refine wpAny_bind (wpAny_newList ?_ small)
  refine wpAny_pure (fin _ _ (J.laid (t' := tk) (fun b o e => Heap.get?_push_of_some _ e) (Nat.le_refl _) ?_) (J.hok.fresh (Nat.le_refl _)))
  exact ⟨small2, us.drop k, 0, rv.drop k, Heap.get?_push_size _ rfl⟩
theorem pg_star {es : List Expr} {kk : Nat} {pos : Pos} {t : TGs} {i : Nat} (hc : X.calm = true) (h : PGs X es t)
    (hn : (assignEach es X.env).length = i + 1 := by rfl) (hst : (assignEach es X.env).findIdx? (·.1) = some i := by rfl) : PG X (.Tuple es kk pos) (gStar X.K (i + 1) t) := by
  refine ⟨fun pins s σ H v u Q I r hw => ?_⟩
  obtain ⟨a, xs, e1, hq, hl, hz, hw⟩ := hw
  subst e1
  cases r
  have hh := I.ok.hd hc
  rw [assign_Tuple]
  refine wpAny_bind (wpAny_standAt ?_)
  unfold unpack
  rw [hn, hst]
  refine wpAny_bind (wpAny_holding ?_)
  rcases hq with hq | hq
  · obtain ⟨its, rv, ht, _⟩ := I.tuple hq
    have hsz : its.toArray.size = xs.length := by rw [List.size_toArray, ← rv.length]
    have hlt : a ≠ s.heap.objs.size := by obtain ⟨o, ho, _⟩ := ht; exact Nat.ne_of_lt (Heap.lt_size ho)
    unfold unpackItems
    refine wpAny_bind ?_
    unfold notIterableAtAll
    refine wpAny_bind (wpAny_specialOf ht.typeIs slot_tuple_iter.lookup ?_)
    refine wpAny_pure ?_
    simp only [Bool.false_eq_true, if_false]
    refine wpAny_bind (wpAny_holding (iter_tuple ht ?_))
    refine wpAny_bind (wpAny_holding (draw_tuple hlt i 0 _ _ ⟨_, Heap.get?_push_size _ rfl, rfl, rfl⟩ (ht.push _) (by omega) fun h₁ hit₁ hs₁ => ?_))
    have hl₁ : IsTup h₁ a its.toArray := (ht.push _).extBut hs₁.extBut hlt
    rw [Nat.zero_add] at hit₁
    have hit₁' := hit₁
    obtain ⟨oi, hoi, _⟩ := hit₁'
    have hl₁' := hl₁
    obtain ⟨ol, hol, _⟩ := hl₁'
    rw [List.drop_zero]
    have hfl : (its.toArray.toList.take i).length = i := by rw [List.length_take, Array.length_toList]; omega
    rw [if_neg (show ¬ ((its.toArray.toList.take i).length < i) by rw [hfl]; omega)]
    refine wpAny_bind (wpAny_holding (PySem.W.kun_collect (s := { s with heap := h₁ }) (T := "tuple_iterator") (.inr (.inr (.inr rfl))) (Walks.tuple (A := X.A.in1) hh s.heap.objs.size a hlt its.toArray) (fun j u st => st.1.typeIs) (k := i) (by omega) ⟨hit₁, hl₁⟩ (Heap.lt_size hoi) (Heap.lt_size hol) (fun h₂ tk hk => ?_) (by rw [sizeLine_eq]; omega)))
    have hrl : (its.toArray.toList.drop i).length = its.toArray.size - i := by rw [List.length_drop, Array.length_toList]
    show wpAny _ _ (if (its.toArray.toList.drop i).length < i + 1 - 1 - i then _ else _) _ _ _
    rw [if_neg (by omega)]
    show wpAny _ _ (newList ((its.toArray.toList.drop i).take ((its.toArray.toList.drop i).length - (i + 1 - 1 - i))) >>= fun d => pure (its.toArray.toList.take i ++ [d] ++ (its.toArray.toList.drop i).drop ((its.toArray.toList.drop i).length - (i + 1 - 1 - i)))) _ _ _
    rw [show i + 1 - 1 - i = 0 by omega, Nat.sub_zero, List.take_length, List.drop_length]
    refine star_laid (xs := xs) I (by rw [List.toList_toArray]; exact rv) hz (fun b o e => hk b o (Nat.ne_of_lt (Heap.lt_size e)) (hs₁.extBut b o (Nat.ne_of_lt (Heap.lt_size e)) (Heap.get?_push_of_some _ e))) fun D s' I' hD => ?_
    refine h.run pins _ σ _ (xs.take i ++ [.ref D]) _ Q I' ?_ (hw D hD)
    rw [List.append_nil]
    exact (by rw [List.toList_toArray]; exact rv.take i : Vals (xs.take i) (its.toArray.toList.take i)).append (.cons (rfl : RelV (V.ref D) (Value.ref D)) .nil)
  · obtain ⟨its, rv, ht0, _⟩ := I.list hq
    have ht : s.heap.IsList a its.toArray := ht0.isList
    have hsz : its.toArray.size = xs.length := by rw [List.size_toArray, ← rv.length]
    have hlt : a ≠ s.heap.objs.size := by obtain ⟨o, ho, _⟩ := ht; exact Nat.ne_of_lt (Heap.lt_size ho)
    unfold unpackItems
    refine wpAny_bind ?_
    unfold notIterableAtAll
    refine wpAny_bind (wpAny_specialOf ht.typeIs slot_list_iter.lookup ?_)
    refine wpAny_pure ?_
    simp only [Bool.false_eq_true, if_false]
    refine wpAny_bind (wpAny_holding (wpAny_pyIter_list ht ?_))
    refine wpAny_bind (wpAny_holding (PySem.W.kun_draw hlt i 0 _ _ ⟨_, Heap.get?_push_size _ rfl, rfl, rfl⟩ (ht.push _) (by omega) fun h₁ hit₁ hs₁ => ?_))
    have hl₁ : h₁.IsList a its.toArray := (ht.push _).extBut hs₁.extBut hlt
    rw [Nat.zero_add] at hit₁
    have hit₁' := hit₁
    obtain ⟨oi, hoi, _⟩ := hit₁'
    have hl₁' := hl₁
    obtain ⟨ol, hol, _⟩ := hl₁'
    rw [List.drop_zero]
    have hfl : (its.toArray.toList.take i).length = i := by rw [List.length_take, Array.length_toList]; omega
    rw [if_neg (show ¬ ((its.toArray.toList.take i).length < i) by rw [hfl]; omega)]
    refine wpAny_bind (wpAny_holding (PySem.W.kun_collect (s := { s with heap := h₁ }) (T := "list_iterator") (.inr (.inr (.inl rfl))) (Walks.list (A := X.A.in1) hh s.heap.objs.size a hlt its.toArray) (fun j u st => st.1.typeIs) (k := i) (by omega) ⟨hit₁, hl₁⟩ (Heap.lt_size hoi) (Heap.lt_size hol) (fun h₂ tk hk => ?_) (by rw [sizeLine_eq]; omega)))
    have hrl : (its.toArray.toList.drop i).length = its.toArray.size - i := by rw [List.length_drop, Array.length_toList]
    show wpAny _ _ (if (its.toArray.toList.drop i).length < i + 1 - 1 - i then _ else _) _ _ _
    rw [if_neg (by omega)]
    show wpAny _ _ (newList ((its.toArray.toList.drop i).take ((its.toArray.toList.drop i).length - (i + 1 - 1 - i))) >>= fun d => pure (its.toArray.toList.take i ++ [d] ++ (its.toArray.toList.drop i).drop ((its.toArray.toList.drop i).length - (i + 1 - 1 - i)))) _ _ _
    rw [show i + 1 - 1 - i = 0 by omega, Nat.sub_zero, List.take_length, List.drop_length]
    refine star_laid (xs := xs) I (by rw [List.toList_toArray]; exact rv) hz (fun b o e => hk b o (Nat.ne_of_lt (Heap.lt_size e)) (hs₁.extBut b o (Nat.ne_of_lt (Heap.lt_size e)) (Heap.get?_push_of_some _ e))) fun D s' I' hD => ?_
    refine h.run pins _ σ _ (xs.take i ++ [.ref D]) _ Q I' ?_ (hw D hD)
    rw [List.append_nil]
    exact (by rw [List.toList_toArray]; exact rv.take i : Vals (xs.take i) (its.toArray.toList.take i)).append (.cons (rfl : RelV (V.ref D) (Value.ref D)) .nil)
/-- a starred target takes its value as the name within -/
theorem pgs_star {e : Expr} {p : Pos} {es : List Expr} {t : TG} {u : TGs} (h1 : PG X e t) (h2 : PGs X es u)
    (hs : (assignEach (.Starred e p :: es) X.env).map (·.2) = assign e X.env :: (assignEach es X.env).map (·.2) := by rfl) : PGs X (.Starred e p :: es) (gCons t u) := by
  refine ⟨fun pins s σ H vs us Q I r h => ?_⟩
  obtain ⟨v, vr, e1, h⟩ := h
  subst e1
  cases r with
  | cons r rr =>
    rw [hs]
    refine assignInOrder_cons (thn (h1.run pins s σ H _ _ _ I r h) fun _ s1 ⟨σ1, H1, I1, q1⟩ => ?_)
    exact h2.run pins s1 σ1 H1 _ _ Q I1 rr q1
end
end Rl
namespace Rl
open PySem PySem.Spec PyProof.Rows L2
/-! ## what is never come to; places in texts and tuples; types in a tuple -/
def tNever : TS := fun _ _ _ => False
theorem ps_never {X : Cx} {st : Stmt} : PS X st tNever := ⟨fun _ _ _ _ _ _ h => h.elim⟩
def rStrIx : V → List V → Hp → VK → Prop := fun x xs H Q => ∃ a b i rest, x = .str a ∧ xs = [.str b] ∧ Builtin.Str.occurrences a b 0 a.length 1 = i :: rest ∧ Q (.int (i : Nat)) H
def rTupIx (K : PySem.W.Frag) : V → List V → Hp → VK → Prop := fun x xs H Q => ∃ p, ∃ ys : List Str, ∃ z j, x = .ref p ∧ xs = [.str z] ∧ SqT K H p (ys.map V.str) ∧ ys[j]? = some z ∧ (∀ m, m < j → ys[m]? ≠ some z) ∧ Q (.int (j : Nat)) H
namespace R
section
variable {K : PySem.W.Frag} {σ : L2.St} {H : Hp} {Q : VK}
theorem strIx {a b : Str} {i : Nat} {rest : List Nat} (h : Builtin.Str.occurrences a b 0 a.length 1 = i :: rest) (q : Q (.int i) H) : rStrIx (.str a) [.str b] H Q := ⟨a, b, i, rest, rfl, rfl, h, q⟩
theorem tupIx {p : Addr} {ys : List Str} {z : Str} {j : Nat} (h : SqT K H p (ys.map V.str)) (hj : ys[j]? = some z) (hn : ∀ m, m < j → ys[m]? ≠ some z) (q : Q (.int j) H) : rTupIx K (.ref p) [.str z] H Q := ⟨p, ys, z, j, rfl, rfl, h, hj, hn, q⟩
theorem tyS {s : Str} {A : Prop} (q : A) : tyV K "str" (.str s) H ∧ A := ⟨rfl, q⟩
theorem tyT {p : Addr} {A : Prop} (h : ∃ o, K.lookup p = some o ∧ o.cls = .type "tuple" ∧ o.dict = none) (q : A) : tyV K "tuple" (.ref p) H ∧ A := ⟨.inr (.inl ⟨rfl, h⟩), q⟩
/-- isinstance(x, (list, tuple)) -/
theorem isiLT {p : Addr} {xs : List V} {tp : Addr} (h : SqL K H p xs) (ht : H tp = some (.tup [.ty "list", .ty "tuple"])) (q : Q (.bl true) H) : rIsiT K [.ref p, .ref tp] H Q :=
  ⟨.ref p, tp, _, .type "list", [.type "list", .type "tuple"], true, rfl, ht, .cons (.ty _) (.cons (.ty _) .nil), sql_ty h, kitAny_cons (b := true) (kit_ty (by decide +kernel)) (fun z => nomatch z) fun _ => rfl, q⟩
theorem gStar {i : Nat} {t : TGs} {a : Addr} {xs : List V} {QS : L2.St → Hp → Prop} (h : SqT K H a xs ∨ SqL K H a xs) (hn : i ≤ xs.length) (hl : xs.length ≤ 16384) (q : ∀ D, H D = none → t (xs.take i ++ [.ref D]) σ (upd H D (.lst (xs.drop i))) QS) : Rl.gStar K (i + 1) t (.ref a) σ H QS := ⟨a, xs, rfl, h, by omega, hl, q⟩
end
end R
/-- a tuple of K that has no dict: a look that the head can take -/
def tupN (K : PySem.W.Frag) (x : Str) : Bool := match K.lookup (He.ga K x) with
  | some ⟨.type c, none, .seq _ _, _⟩ => decide (c = "tuple")
  | _ => false
theorem tupN_ok {K : PySem.W.Frag} {x : Str} (h : tupN K x = true) : ∃ o, K.lookup (He.ga K x) = some o ∧ o.cls = .type "tuple" ∧ o.dict = none := by
  unfold tupN at h
  cases q : K.lookup (He.ga K x) with
  | none =>
    rw [q] at h
    cases h
  | some o =>
    obtain ⟨oc, od, dt, osl⟩ := o
    rw [q] at h
    cases oc with
    | type c =>
      cases od with
      | none =>
        cases dt with
        | seq its n => exact ⟨_, rfl, by rw [of_decide_eq_true h], rfl⟩
        | _ => cases h
      | some _ => cases h
    | _ => cases h
end Rl
namespace Rl
open PySem PySem.Spec PyProof.Rows L2
/-! ## defs with defaults, called by keywords; methods; written dicts with text keys -/
/-- a def called with n values in their places and keywords named ks -/
structure ClN (P : Program) (w : World) (K : PySem.W.Frag) (mg : Str → Option Value) (base : Heap) (k : Nat) (x : Str) (n : Nat) (ks : List Str) (gV : List V → List V → List V) (sp : Sp) : Prop where
  ex : ∃ (f : Addr) (fd : FuncData) (ps : List Str) (g : List Value → List Value → List Value), FnOk P w K mg base CX0 k f fd ps sp ∧ mg x = some (.ref f) ∧ PySem.W.keepIn K (.ref f) = true ∧ KBn K fd ps n ks g gV
/-- the keywords' values behind the others -/
def gVc (vs zs : List V) : List V := vs ++ zs
section
variable {X : Cx} {k j n : Nat} {x : Str} {sp : Sp} {p pos : Pos} {e : Expr} {es : List Expr} {kws : List Keyword} {ks : List Str} {t tk : TA} {gV : List V → List V → List V}
theorem pe_cln {m : Nat} (c : ClN X.prog X.w X.K X.mg X.base k x n ks gV sp) (hr : Room j X.A) (hk : k ≤ j) (hg : Gl X x) (ha : PA X (e :: es) t) (hkw : PK X kws tk) (hm : ks.length = m := by rfl)
    (hall : (backToKw pos (keywordEach kws X.env)).all (·.1.isSome) = true := by rfl) (hks : (backToKw pos (keywordEach kws X.env)).filterMap (·.1) = ks := by rfl)
    (hdb : (x == ("__debug__" : Str)) = false := by decide) (he : starEach (e :: es) X.env = (false, eval e X.env) :: starEach es X.env := by rfl)
    (hpl : ((backTo pos (starEach (e :: es) X.env)).any (·.1) || (backToKw pos (keywordEach kws X.env)).any (·.1.isNone)) = false := by rfl) :
    PE X (.Call (.Name x p) (e :: es) kws pos) (tCallN n m sp gV E0 t tk) := by
  subst hm
  obtain ⟨f, fd, ps, g, F, hm, kp, b⟩ := c.ex
  exact pe_callN F (hr.mono hk) hg hm kp b pass0 ha hkw hall hks hdb he hpl
end
section
variable {P : Program} {w : World} {K : PySem.W.Frag} {mg : Str → Option Value} {base : Heap}
theorem Cl.mono {k j : Nat} {x : Str} {sp : Sp} (c : Cl P w K mg base k x sp) (h : k ≤ j) : Cl P w K mg base j x sp := by
  obtain ⟨f, fd, ps, F, r⟩ := c.ex
  exact ⟨f, fd, ps, F.mono h, r⟩
/-- a def's promise, its defaults and names any -/
theorem fo_of {x q : Str} {st : Stmt} {f : Addr} {fd : FuncData} {N ps : List Str} {k : Nat} {sp : Sp} {dvs : List V} {kws : List (Str × V)} (D : FunD K x q (defArgs st) (defBody st) (defScope st) dvs kws f fd) (S : FnScope N ps (defScope st)) (len : ∀ vs H Q E, sp vs H Q E → vs.length = ps.length)
    (hbody : ∀ (cdv : Value) (A : Around) (outer : List Env) (s : Shared) (H : Hp) (vs : List V) (Q : VK) (E : XK), Room k (A.deeper (envOfC q (defScope st) s.heap.objs.size f cdv)) → sp vs H Q E →
      ∃ t, PSs (cxOf CX0 P w K mg base N q (defScope st) f cdv A outer s H E) (defBody st) t ∧ t { nx := fun _ H' => Q .non H', rt := Q } (start N vs) H) : FnOk P w K mg base CX0 (k + 1) f fd ps sp :=
  FunD.ok D S len hbody
/-- keywords for all that is keyword-only, all others in their places -/
theorem kbc {x q : Str} {st : Stmt} {f : Addr} {fd : FuncData} {ps : List Str} {n : Nat} {ks : List Str} {dvs : List V} {kws : List (Str × V)} (D : FunD K x q (defArgs st) (defBody st) (defScope st) dvs kws f fd) (hd : dvs ≠ []) (hk : kws ≠ [])
    (h : ∀ (T D : Addr) (doc pm : Value) (an : Option Addr) (cdv ct : Value) (us its ws : List Value), us.length = n → its.length = dvs.length → ws.length = ks.length →
      ∃ k, bindArgs (PySem.W.fnOf x q (defArgs st) (defBody st) (defScope st) (.ref T) (.ref D) doc pm an cdv ct) ⟨us, ks.zip ws⟩ = seqItems? (.ref T) >>= k ∧ k (some its.toArray) = pure (ps.zip (us ++ ws))) : ∃ g, KBn K fd ps n ks g gVc := by
  obtain ⟨its, mv, b⟩ := D.kbinds n ks [] (fun us _ _ ws => us ++ ws) hd hk (fun _ z => nomatch z) (fun a _ _ b => a.append b) fun T D doc pm an cdv ct us its mv ws h1 h2 _ h4 => by
    obtain ⟨k, e1, e2⟩ := h T D doc pm an cdv ct us its ws h1 h2 h4
    exact ⟨k, e1, e2⟩
  exact ⟨_, b⟩
end
namespace R
theorem callN {σ : L2.St} {H : Hp} {Q : VK} {n m : Nat} {sp : Sp} {gV : List V → List V → List V} {E : XK} {t tk : TA} (q : t σ H fun vs H1 => tk σ H1 fun zs H2 => vs.length = n ∧ zs.length = m ∧ sp (gV vs zs) H2 Q E) : tCallN n m sp gV E t tk σ H Q := q
end R
/-- a written dict with text keys: a look that the head can take -/
def kdS (K : PySem.W.Frag) (a : Addr) (kvs : List (Str × He.Dv)) : Bool := match K.lookup a with
  | some ⟨.type c, none, .dict es _, sl⟩ => decide (c = "dict") && (sl.isEmpty && (!(a == sysModules) && kdAll K es.toList kvs))
  | _ => false
where
  kdAll (K : PySem.W.Frag) : List DictEntry → List (Str × He.Dv) → Bool
    | [], [] => true
    | e :: es, (k, d) :: r => (match e.key with
      | .str j _ => decide (j = k)
      | _ => false) && (He.relB (d.v K) e.val && kdAll K es r)
    | _, _ => false
theorem kdS_find {K : PySem.W.Frag} {w : World} (P : Program) : ∀ {es : List DictEntry} {kvs : List (Str × He.Dv)}, kdS.kdAll K es kvs = true → PySem.W.KeysLit w.params es →
    (∀ e ∈ es, ∃ k, (mixKind P w).is k e.key = true ∧ e.hash = (mixKind P w).hash k) ∧
    ∀ k, RelO (valV (kvs.map fun p => ((Sum.inr p.1 : Key), p.2.v K)) k) ((es.find? fun e => (mixKind P w).is k e.key).map (·.val))
  | [], [], _, _ => ⟨fun e he => (by cases he), fun k => True.intro⟩
  | e :: es, (j, d) :: r, h, ⟨⟨x, u, lk, lh⟩, ls⟩ => by
    obtain ⟨h1, h2⟩ := He.ba (show ((match e.key with
      | .str i _ => decide (i = j)
      | _ => false) && (He.relB (d.v K) e.val && kdS.kdAll K es r)) = true from h)
    obtain ⟨h5, h6⟩ := He.ba h2
    obtain ⟨i1, i2⟩ := kdS_find (w := w) P h6 ls
    rw [lk] at h1
    have ej : x = j := of_decide_eq_true h1
    subst ej
    have e1 : (mixKind P w).is (Sum.inr x : Key) e.key = true := by
      rw [lk]
      exact keyIs_str x u
    refine ⟨fun e' he => ?_, fun k => ?_⟩
    · rcases List.mem_cons.mp he with q | q
      · rw [q]
        exact ⟨Sum.inr x, e1, lh⟩
      · exact i1 e' q
    · rw [List.map_cons]
      by_cases q : (Sum.inr x : Key) = k
      · have q2 : (mixKind P w).is k e.key = true := by rw [← q]; exact e1
        rw [List.find?_cons_of_pos (p := fun (e : DictEntry) => (mixKind P w).is k e.key) q2, valV_pos (p := ((Sum.inr x : Key), d.v K)) q]
        exact He.relB_ok h5
      · have q2 : ¬ (mixKind P w).is k e.key = true := fun z => q ((mixKind P w).inj _ _ _ e1 z)
        rw [List.find?_cons_of_neg (p := fun (e : DictEntry) => (mixKind P w).is k e.key) q2, valV_neg (p := ((Sum.inr x : Key), d.v K)) q]
        exact i2 k
  | [], _ :: _, h, _ => by cases h
  | _ :: _, [], h, _ => by cases h
theorem kdS_ok {K : PySem.W.Frag} {w : World} {a : Addr} {kvs : List (Str × He.Dv)} (h : kdS K a kvs = true) (D : ∃ es n, KDict K w a es n) : KD K w a (kvs.map fun p => (Sum.inr p.1, p.2.v K)) := by
  obtain ⟨es, n, D⟩ := D
  obtain ⟨q, lit, sys⟩ := D
  unfold kdS at h
  rw [q] at h
  obtain ⟨h1, h2⟩ := He.ba h
  obtain ⟨h3, h4⟩ := He.ba h2
  obtain ⟨h5, h6⟩ := He.ba h4
  refine ⟨sys, fun P hp X => ?_⟩
  obtain ⟨i1, i2⟩ := kdS_find (w := w) P h6 lit
  refine ⟨fun k => findBy (mixKind P w).is es k, ⟨_, es, n, X _ _ q, ⟨rfl, rfl, rfl⟩, rfl, fun e he => i1 e (Array.mem_toList_iff.mpr he), fun k => rfl⟩, fun k => ?_⟩
  have z := i2 k
  obtain ⟨l⟩ := es
  show RelO _ ((Array.find? (fun e => (mixKind P w).is k e.key) l.toArray).map (·.val))
  rw [List.find?_toArray]
  exact z
end Rl
namespace Rl
open PySem PySem.Spec PyProof.Rows L2
/-! ## data that a text makes: expressions by what they tell in any later heap -/
/-- all but dicts is as it was -/
def SmD (H H' : Hp) : Prop := ∀ a o, H a = some o → (∀ kvs, o ≠ .dK kvs) → H' a = some o
theorem SmD.refl (H : Hp) : SmD H H := fun _ _ e _ => e
theorem SmD.trans {A B C : Hp} (h : SmD A B) (h2 : SmD B C) : SmD A C := fun a o e n => h2 a o (h a o e n) n
theorem _root_.L2.Same.smd {A B : Hp} (h : Same A B) : SmD A B := fun a o e _ => h a o e
theorem SmD.put {H : Hp} {p : Addr} {kvs : List (Key × V)} {o : HO} (h : H p = some (.dK kvs)) : SmD H (upd H p o) := fun a x e n => upd_mut (fun z => by rw [z, h] at e; exact n kvs (Option.some.inj e).symm) e
theorem SqL.smd {K : PySem.W.Frag} {H H' : Hp} {a : Addr} {xs : List V} (e : SmD H H') (h : SqL K H a xs) : SqL K H' a xs := by
  rcases h with (g | ⟨o, g⟩) | g
  · exact .inl (.inl (e _ _ g fun _ z => nomatch z))
  · exact .inl (.inr ⟨o, e _ _ g fun _ z => nomatch z⟩)
  · exact .inr g
theorem SqT.smd {K : PySem.W.Frag} {H H' : Hp} {a : Addr} {xs : List V} (e : SmD H H') (h : SqT K H a xs) : SqT K H' a xs := by
  rcases h with (g | ⟨o, g⟩) | g
  · exact .inl (.inl (e _ _ g fun _ z => nomatch z))
  · exact .inl (.inr ⟨o, e _ _ g fun _ z => nomatch z⟩)
  · exact .inr g
mutual
theorem Dp.smd {K : PySem.W.Frag} {H H' : Hp} (e : SmD H H') : ∀ {d : PyData} {v : V}, Dp K H v d → Dp K H' v d
  | _, _, .non => .non
  | _, _, .bl b => .bl b
  | _, _, .int i => .int i
  | _, _, .str x => .str x
  | _, _, .lst hs ha => .lst (SqL.smd e hs) (DpAll.smd e ha)
  | _, _, .tup hs ha => .tup (SqT.smd e hs) (DpAll.smd e ha)
theorem DpAll.smd {K : PySem.W.Frag} {H H' : Hp} (e : SmD H H') : ∀ {ds : List PyData} {vs : List V}, DpAll K H vs ds → DpAll K H' vs ds
  | _, _, .nil => .nil
  | _, _, .cons a b => .cons (Dp.smd e a) (DpAll.smd e b)
end
def rSetD : V → V → V → Hp → (Hp → Prop) → Prop := fun o i v H Q => ∃ a H', o = .ref a ∧ DPut H a i v H' ∧ Q H'
def DE (K : PySem.W.Frag) (te : TE) (σ : L2.St) (B : Hp) (d : PyData) : Prop := ∀ (H : Hp) (Q : VK), SmD B H → (∀ v H', Same H H' → Dp K H' v d → Q v H') → te σ H Q
def DA (K : PySem.W.Frag) (tr : TA) (σ : L2.St) (B : Hp) (ds : List PyData) : Prop := ∀ (H : Hp) (QA : List V → Hp → Prop), SmD B H → (∀ vs H', Same H H' → DpAll K H' vs ds → QA vs H') → tr σ H QA
/-- a dict that is made: its pairs' values -/
def DPs (K : PySem.W.Frag) (trs : List (TE × TE)) (σ : L2.St) (B : Hp) (tbl : List (Str × PyData)) : Prop := ∀ (H : Hp) (QP : List (V × V) → Hp → Prop), SmD B H →
  (∀ (kvs : List (Key × V)) H', Same H H' → kvs.map (·.1) = tbl.map (fun q => Sum.inr q.1) → DpAll K H' (kvs.map (·.2)) (tbl.map (·.2)) → QP (kvs.map fun kv => (kV kv.1, kv.2)) H') → tPairs trs σ H QP
section
variable {K : PySem.W.Frag} {σ : L2.St} {B : Hp} {d e : PyData} {ds : List PyData} {te tf : TE} {tr : TA} {n : Nat} {v : V} {p : Addr} {xs : List V}
theorem DE.int {i : Int} : DE K (tC (.int i)) σ B (.int i) := fun H Q _ q => q _ _ (Same.refl _) (.int i)
theorem DE.str {s : Str} : DE K (tC (.str s)) σ B (.str s) := fun H Q _ q => q _ _ (Same.refl _) (.str s)
theorem DE.non : DE K (tC .non) σ B .none := fun H Q _ q => q _ _ (Same.refl _) .non
theorem DE.cv (h : Dp K B v d) : DE K (tC v) σ B d := fun H Q s q => q _ _ (Same.refl _) (Dp.smd s h)
theorem DE.vr (h : Dp K B v d) (h0 : σ[n]? = some (some v) := by with_unfolding_all rfl) : DE K (tVar n) σ B d := fun H Q s q => R.var (q _ _ (Same.refl _) (Dp.smd s h)) h0
theorem DA.nil : DA K tNil σ B [] := fun H Q _ q => R.nil (q _ _ (Same.refl _) .nil)
theorem DA.cons (h : DE K te σ B d) (h2 : DA K tr σ B ds) : DA K (tCons te tr) σ B (d :: ds) := fun H Q s q => R.cons (h H _ s fun v H1 s1 d1 => h2 H1 _ (s.trans s1.smd) fun vs H2 s2 d2 => q _ _ (s1.trans s2) (.cons (Dp.mono s2 d1) d2))
theorem DE.tup (h : DA K tr σ B ds) (hl : ds.length ≤ 1000 := by first | decide | (simp only [List.length_cons, List.length_nil]; decide)) : DE K (tTup tr) σ B (.tuple ds) := fun H Q s q => R.tup (h H _ s fun vs H1 s1 d1 =>
  ⟨by rw [DpAll.length d1]; exact Nat.le_trans hl (by decide), fun p hp => q _ _ (s1.trans (same_upd hp)) (.tup (SqT.of upd_same) (DpAll.mono (same_upd hp) d1))⟩)
/-- a new list -/
theorem DA.newL (h : DA K tr σ B ds) (hl : ds.length ≤ 1000 := by first | decide | (simp only [List.length_cons, List.length_nil]; decide)) {H : Hp} {Q : VK} (s : SmD B H) (q : ∀ l vs H', Same H H' → H l = none → H' l = some (.lst vs) → DpAll K H' vs ds → Q (.ref l) H') : tLst tr σ H Q :=
  R.lst (h H _ s fun vs H1 s1 d1 => ⟨by rw [DpAll.length d1]; exact Nat.le_trans hl (by decide), fun p hp => q p vs _ (s1.trans (same_upd hp)) (s1.free hp) upd_same (DpAll.mono (same_upd hp) d1)⟩)
theorem DE.lst (h : DA K tr σ B ds) (hl : ds.length ≤ 1000 := by first | decide | (simp only [List.length_cons, List.length_nil]; decide)) : DE K (tLst tr) σ B (.list ds) := fun H Q s q => h.newL hl s fun l vs H1 s1 _ g d1 => q _ _ s1 (.lst (SqL.of g) d1)
/-- an item of a tuple -/
theorem DE.ix {i : Int} (h0 : σ[n]? = some (some (.ref p))) (h : SqT K B p xs) (hi : atI xs i = some v) (hd : Dp K B v d) : DE K (tOp (rIx K) (tVar n) (tC (.int i))) σ B d := fun H Q s q => R.op (R.var (R.c (R.ixT (SqT.smd s h) hi (q _ _ (Same.refl _) (Dp.smd s hd)))) h0)
/-- the last one -/
theorem DE.ixm {i : Int} (h0 : σ[n]? = some (some (.ref p))) (h : SqT K B p xs) (hi : atI xs (-i) = some v) (hd : Dp K B v d) : DE K (tOp (rIx K) (tVar n) (tUn (rU fun i => .int (-i)) (tC (.int i)))) σ B d := fun H Q s q => R.op (R.var (R.un (R.c (R.neg (R.ixT (SqT.smd s h) hi (q _ _ (Same.refl _) (Dp.smd s hd)))))) h0)
theorem DE.mod {i j : Int} (h : DE K te σ B (.int i)) (h2 : DE K tf σ B (.int j)) (hj : 0 < j) : DE K (tOp rModA te tf) σ B (.int (i % j)) := fun H Q s q => R.op (h H _ s fun v H1 s1 d1 => h2 H1 _ (s.trans s1.smd) fun v2 H2 s2 d2 => by
  rw [dp_int d1, dp_int d2]
  exact R.modI hj (q _ _ (s1.trans s2) (.int _)))
theorem DE.sub {i j : Int} (h : DE K te σ B (.int i)) (h2 : DE K tf σ B (.int j)) : DE K (tOp rSubA te tf) σ B (.int (i - j)) := fun H Q s q => R.op (h H _ s fun v H1 s1 d1 => h2 H1 _ (s.trans s1.smd) fun v2 H2 s2 d2 => by
  rw [dp_int d1, dp_int d2]
  exact R.subI (q _ _ (s1.trans s2) (.int _)))
theorem DE.add {i j : Int} (h : DE K te σ B (.int i)) (h2 : DE K tf σ B (.int j)) : DE K (tOp (rAddA K) te tf) σ B (.int (i + j)) := fun H Q s q => R.op (h H _ s fun v H1 s1 d1 => h2 H1 _ (s.trans s1.smd) fun v2 H2 s2 d2 => by
  rw [dp_int d1, dp_int d2]
  exact R.addI (q _ _ (s1.trans s2) (.int _)))
theorem DE.iT {t : TT} {b : Bool} (hb : b = true) (h : ∀ (H : Hp) (QB : Bool → Hp → Prop), SmD B H → QB b H → t σ H QB) (h2 : DE K te σ B d) : DE K (tIf t te tf) σ B d := fun H Q s q => R.ifE (h H _ s (by
  rw [hb]
  exact R.iT (h2 H Q s q)))
theorem DE.iF {t : TT} {b : Bool} (hb : b = false) (h : ∀ (H : Hp) (QB : Bool → Hp → Prop), SmD B H → QB b H → t σ H QB) (h2 : DE K tf σ B d) : DE K (tIf t te tf) σ B d := fun H Q s q => R.ifE (h H _ s (by
  rw [hb]
  exact R.iF (h2 H Q s q)))
/-- a name takes it -/
theorem DE.asg {nx bk ct : L2.St → Hp → Prop} {rt : VK} {H : Hp} (h : DE K te σ B d) (s : SmD B H) (q : ∀ v H', Same H H' → Dp K H' v d → nx (σ.set n (some v)) H') : tAsg te (gName n) ⟨nx, rt, bk, ct⟩ σ H := R.asg (h H _ s fun v H1 s1 d1 => R.gName (q v H1 s1 d1))
theorem DE.ret {nx bk ct : L2.St → Hp → Prop} {rt : VK} {H : Hp} (h : DE K te σ B d) (s : SmD B H) (q : ∀ v H', Same H H' → Dp K H' v d → rt v H') : tRet te ⟨nx, rt, bk, ct⟩ σ H := R.ret (h H _ s q)
theorem DPs.nil : DPs K [] σ B [] := fun H QP _ q => R.pairsN (q [] _ (Same.refl _) rfl .nil)
theorem DPs.cons {k : Str} {trs : List (TE × TE)} {tbl : List (Str × PyData)} (h : DE K te σ B d) (h2 : DPs K trs σ B tbl) : DPs K ((tC (.str k), te) :: trs) σ B ((k, d) :: tbl) := fun H QP s q => R.pairsC (R.c (h H _ s fun v H1 s1 d1 => h2 H1 _ (s.trans s1.smd) fun kvs H2 s2 hk d2 =>
  q ((Sum.inr k, v) :: kvs) H2 (s1.trans s2) (by rw [List.map_cons, List.map_cons, hk]) (.cons (Dp.mono s2 d1) d2)))
/-- what a dict with text keys has -/
def Good (K : PySem.W.Frag) (H : Hp) (kvs : List (Key × V)) (tbl : List (Str × PyData)) : Prop := ∀ k : Str, match tbl.lookup k with
  | some d => ∃ v, valV kvs (Sum.inr k) = some v ∧ Dp K H v d
  | none => valV kvs (Sum.inr k) = none
variable {H : Hp} {kvs : List (Key × V)} {tbl : List (Str × PyData)} {k : Str}
theorem Good.smd {H' : Hp} (h : Good K H kvs tbl) (s : SmD H H') : Good K H' kvs tbl := fun k => by
  have z := h k
  cases e : tbl.lookup k with
  | none =>
    rw [e] at z
    exact z
  | some d =>
    rw [e] at z
    obtain ⟨v, z1, z2⟩ := z
    exact ⟨v, z1, Dp.smd s z2⟩
theorem Good.get (h : Good K H kvs tbl) (e : tbl.lookup k = some d) : ∃ v, valV kvs (Sum.inr k) = some v ∧ Dp K H v d := by
  have z := h k
  rw [e] at z
  exact z
theorem Good.none (h : Good K H kvs tbl) (e : tbl.lookup k = none) : valV kvs (Sum.inr k) = none := by
  have z := h k
  rw [e] at z
  exact z
theorem Good.nil : Good K H [] [] := fun _ => rfl
theorem Good.put (h : Good K H kvs tbl) (hv : Dp K H v d) : Good K H (putK kvs (Sum.inr k) v) ((k, d) :: tbl) := fun j => by
  rw [List.lookup_cons, valV_put]
  by_cases e : j = k
  · subst e
    rw [show (j == j) = true from beq_self_eq_true j, if_pos rfl]
    exact ⟨v, rfl, hv⟩
  · rw [show (j == k) = false from beq_eq_false_iff_ne.mpr e, if_neg (fun z => e (Sum.inr.inj z))]
    exact h j
theorem Good.merge : ∀ {more : List (Key × V)} {tb : List (Str × PyData)} {kvs : List (Key × V)} {tbl : List (Str × PyData)}, Good K H kvs tbl → more.map (·.1) = tb.map (fun q => (Sum.inr q.1 : Key)) → DpAll K H (more.map (·.2)) (tb.map (·.2)) → Good K H (mergeK kvs more) (tb.reverse ++ tbl)
  | [], [], _, _, h, _, _ => h
  | (a, v) :: more, (k, d) :: tb, kvs, tbl, h, hk, hd => by
    rw [List.map_cons, List.map_cons] at hk hd
    obtain ⟨h1, h2⟩ := List.cons.inj hk
    obtain rfl : a = Sum.inr k := h1
    cases hd with
    | cons d1 d2 =>
      rw [List.reverse_cons, List.append_assoc]
      exact Good.merge (more := more) (tb := tb) (kvs := putK kvs (Sum.inr k) v) (tbl := (k, d) :: tbl) (Good.put h d1) h2 d2
  | [], _ :: _, _, _, _, hk, _ => by cases hk
  | _ :: _, [], _, _, _, hk, _ => by cases hk
/-- {k: e, ..} -/
theorem DPs.disp {trs : List (TE × TE)} {Q : VK} (h : DPs K trs σ B tbl) (s : SmD B H) (hl : tbl.length ≤ 15 := by first | decide | (simp only [List.length_cons, List.length_nil]; decide)) (q : ∀ p kvs H', Same H H' → H p = none → H' p = some (.dK kvs) → kvs.length ≤ 15 → Good K H' kvs tbl.reverse → Q (.ref p) H') : tDisp trs σ H Q :=
  R.disp fun p hp => h _ _ (s.trans (same_upd hp).smd) fun kvs H2 s2 hk hd => by
    have g2 : H2 p = some (.dK []) := s2 _ _ upd_same
    have sp : SmD H2 (upd H2 p (.dK (mergeK [] kvs))) := SmD.put g2
    have hl2 : kvs.length ≤ 15 := by
      have e : (kvs.map (·.1)).length = (tbl.map (fun q => (Sum.inr q.1 : Key))).length := by rw [hk]
      rw [List.length_map, List.length_map] at e
      omega
    refine ⟨g2, kvs, rfl, hl2, q p (mergeK [] kvs) _ (fun a o e => ?_) hp upd_same ?_ ?_⟩
    · rw [upd_ne (ne_of_none e hp)]
      exact s2 _ _ (same_upd hp _ _ e)
    · have z := length_mergeK kvs []
      rw [List.length_nil, Nat.zero_add] at z
      omega
    · have z := Good.merge (Good.nil (K := K) (H := upd H2 p (.dK (mergeK [] kvs)))) hk (DpAll.smd sp hd)
      rw [List.append_nil] at z
      exact z
/-- d[word], d[k] -/
theorem dgV {Q : VK} {td ty : TE} (hp : H p = some (.dK kvs)) (h : Good K H kvs tbl) (e : tbl.lookup k = some d) (h1 : ∀ Q2 : VK, Q2 (.ref p) H → td σ H Q2) (h2 : ∀ Q2 : VK, Q2 (.str k) H → ty σ H Q2) (q : ∀ v, Dp K H v d → Q v H) : tDGet td ty σ H Q := by
  obtain ⟨v, hv, dv⟩ := h.get e
  exact R.dget (h1 _ (h2 _ (R.dgetV hp (k := Sum.inr k) rfl hv (q v dv))))
/-- what a text tells in this very heap -/
def DX (K : PySem.W.Frag) (te : TE) (σ : L2.St) (H : Hp) (d : PyData) : Prop := ∀ Q : VK, (∀ v H', Same H H' → Dp K H' v d → Q v H') → te σ H Q
theorem DE.at' (h : DE K te σ B d) (s : SmD B H) : DX K te σ H d := fun Q q => h H Q s q
theorem DX.dg {td ty : TE} (hp : H p = some (.dK kvs)) (h : Good K H kvs tbl) (e : tbl.lookup k = some d) (h1 : ∀ Q2 : VK, Q2 (.ref p) H → td σ H Q2) (h2 : ∀ Q2 : VK, Q2 (.str k) H → ty σ H Q2) : DX K (tDGet td ty) σ H d := fun Q q => dgV hp h e h1 h2 fun v dv => q v _ (Same.refl _) dv
theorem DX.tag {z : Str} (h : DX K te σ H d) : DX K (tTup (tCons (tC (.str z)) (tCons te tNil))) σ H (.tuple [.str z, d]) := fun Q q => R.tup (R.cons (R.c (R.cons (h _ fun v H1 s1 d1 => R.nil ⟨by simp only [List.length_cons, List.length_nil]; decide, fun t ht =>
  q _ _ (s1.trans (same_upd ht)) (.tup (SqT.of upd_same) (.cons (.str _) (.cons (Dp.mono (same_upd ht) d1) .nil)))⟩))))
/-- d[k] = v -/
theorem dput1 {v : V} (hp : H p = some (.dK kvs)) (h : Good K H kvs tbl) (hl : kvs.length < 1000) (hv : Dp K H v d) {F : Hp → Prop} (q : ∀ kvs' H', SmD H H' → Fx p H H' → H' p = some (.dK kvs') → Good K H' kvs' ((k, d) :: tbl) → kvs'.length ≤ kvs.length + 1 → F H') : ∃ H', DPut H p (.str k) v H' ∧ F H' := by
  have sp : SmD H (upd H p (.dK (putK kvs (Sum.inr k) v))) := SmD.put hp
  exact ⟨_, .inl ⟨kvs, Sum.inr k, hp, rfl, Nat.lt_trans hl (by decide), rfl⟩, q _ _ sp (sm_bmut (Same.refl _)) upd_same ((h.put hv).smd sp) (length_putK _ _ _)⟩
theorem dpV {nx bk ct : L2.St → Hp → Prop} {rt : VK} {te : TE} {td ty : TE} (hp : H p = some (.dK kvs)) (h : Good K H kvs tbl) (hl : kvs.length < 1000) (he : DX K te σ H d) (h1 : ∀ (H2 : Hp) (Q2 : VK), Q2 (.ref p) H2 → td σ H2 Q2) (h2 : ∀ (H2 : Hp) (Q2 : VK), Q2 (.str k) H2 → ty σ H2 Q2)
    (q : ∀ kvs' H', SmD H H' → Fx p H H' → H' p = some (.dK kvs') → Good K H' kvs' ((k, d) :: tbl) → kvs'.length ≤ kvs.length + 1 → nx σ H') : sDPut td ty te ⟨nx, rt, bk, ct⟩ σ H := by
  refine he _ fun v H1 s1 d1 => h1 _ _ (h2 _ _ ?_)
  obtain ⟨H', g, z⟩ := dput1 (k := k) (s1 _ _ hp) (h.smd s1.smd) hl d1 (F := fun H' => nx σ H') fun kvs' H' a b c e f => q kvs' H' (s1.smd.trans a) ((Same.but s1).trans b) c e f
  exact ⟨p, H', rfl, g, z⟩
/-- d[k] = e, within a row of targets -/
theorem gdV {td ty : TE} {QS : L2.St → Hp → Prop} {v : V} (hp : H p = some (.dK kvs)) (h : Good K H kvs tbl) (hl : kvs.length < 1000) (hv : Dp K H v d) (h1 : ∀ (H2 : Hp) (Q2 : VK), Q2 (.ref p) H2 → td σ H2 Q2) (h2 : ∀ (H2 : Hp) (Q2 : VK), Q2 (.str k) H2 → ty σ H2 Q2)
    (q : ∀ kvs' H', SmD H H' → Fx p H H' → H' p = some (.dK kvs') → Good K H' kvs' ((k, d) :: tbl) → kvs'.length ≤ kvs.length + 1 → QS σ H') : gSub td ty rSetD v σ H QS := by
  refine R.gSub (h1 _ _ (h2 _ _ ?_))
  obtain ⟨H', g, z⟩ := dput1 (k := k) hp h hl hv (F := fun H' => QS σ H') q
  exact ⟨p, H', rfl, g, z⟩
/-- what was new is new: all else is as it was -/
theorem fx_new {H0 H1 H2 : Hp} (f : H0 p = none) (s : Same H0 H1) (x : Fx p H1 H2) : Same H0 H2 := fun a o e => x.at (ne_of_none e f) (s _ _ e)
theorem R.g3 {i j l : Nat} {x y z : V} {QS : L2.St → Hp → Prop} (h : SqT K H p [x, y, z]) (q : QS (((σ.set i (some x)).set j (some y)).set l (some z)) H) : L2.gTup K 3 (L2.gCons (L2.gName i) (L2.gCons (L2.gName j) (L2.gCons (L2.gName l) L2.gNil))) (.ref p) σ H QS :=
  ⟨p, [x, y, z], rfl, h, rfl, x, [y, z], rfl, y, [z], rfl, z, [], rfl, rfl, q⟩
end
/-! ## a dict that is filled, step by step, beside facts that stay -/
structure DcI (K : PySem.W.Frag) (H0 : Hp) (F : Hp → Prop) (p : Addr) (n : Nat) (tbl : List (Str × PyData)) (Hc : Hp) : Prop where
  mono : ∀ A B, SmD A B → F A → F B
  sm : Same H0 Hc
  new : H0 p = none
  fa : F Hc
  ex : ∃ kvs, Hc p = some (.dK kvs) ∧ kvs.length ≤ n ∧ Good K Hc kvs tbl
section
variable {K : PySem.W.Frag} {σ : L2.St} {d : PyData} {te : TE} {i n : Nat} {H0 Hc Hd : Hp} {F : Hp → Prop} {p : Addr} {tbl : List (Str × PyData)} {k : Str} {v : V}
theorem DcI.step (I : DcI K H0 F p n tbl Hc) (s : Same Hc Hd) : DcI K H0 F p n tbl Hd := by
  obtain ⟨kvs, g, l, gd⟩ := I.ex
  exact ⟨I.mono, I.sm.trans s, I.new, I.mono _ _ s.smd I.fa, kvs, s _ _ g, l, gd.smd s.smd⟩
theorem DcI.fact {F2 : Hp → Prop} (I : DcI K H0 F p n tbl Hc) (m : ∀ A B, SmD A B → F2 A → F2 B) (h : F2 Hc) : DcI K H0 F2 p n tbl Hc := ⟨m, I.sm, I.new, h, I.ex⟩
theorem DcI.put1 (I : DcI K H0 F p n tbl Hc) (hn : n < 1000) (hv : Dp K Hc v d) {G : Hp → Prop} (q : ∀ Hd, DcI K H0 F p (n + 1) ((k, d) :: tbl) Hd → SmD Hc Hd → G Hd) : ∃ Hd, DPut Hc p (.str k) v Hd ∧ G Hd := by
  obtain ⟨kvs, g, l, gd⟩ := I.ex
  exact dput1 g gd (Nat.lt_of_le_of_lt l hn) hv fun kvs' H' a b c e f => q H' ⟨I.mono, fx_new I.new I.sm b, I.new, I.mono _ _ a I.fa, kvs', c, by omega, e⟩ a
/-- d[k] = e -/
theorem DcI.put {nx bk ct : L2.St → Hp → Prop} {rt : VK} {ty : TE} (I : DcI K H0 F p n tbl Hc) (hn : n < 1000) (he : DX K te σ Hc d) (h0 : σ[i]? = some (some (.ref p))) (h2 : ∀ (H2 : Hp) (Q2 : VK), Q2 (.str k) H2 → ty σ H2 Q2)
    (q : ∀ Hd, DcI K H0 F p (n + 1) ((k, d) :: tbl) Hd → nx σ Hd) : sDPut (tVar i) ty te ⟨nx, rt, bk, ct⟩ σ Hc := by
  refine he _ fun v H1 s1 d1 => R.var (h2 _ _ ?_) h0
  obtain ⟨H', g, z⟩ := (I.step s1).put1 (k := k) hn d1 (G := fun H' => nx σ H') fun Hd I2 _ => q Hd I2
  exact ⟨p, H', rfl, g, z⟩
/-- d[k], within a row of targets -/
theorem DcI.gput {ty : TE} {QS : L2.St → Hp → Prop} (I : DcI K H0 F p n tbl Hc) (hn : n < 1000) (hv : Dp K Hc v d) (h0 : σ[i]? = some (some (.ref p))) (h2 : ∀ (H2 : Hp) (Q2 : VK), Q2 (.str k) H2 → ty σ H2 Q2)
    (q : ∀ Hd, DcI K H0 F p (n + 1) ((k, d) :: tbl) Hd → SmD Hc Hd → QS σ Hd) : gSub (tVar i) ty rSetD v σ Hc QS := by
  refine R.gSub (R.var (h2 _ _ ?_) h0)
  obtain ⟨H', g, z⟩ := I.put1 (k := k) hn hv (G := fun H' => QS σ H') q
  exact ⟨p, H', rfl, g, z⟩
theorem DcI.get {ty : TE} (I : DcI K H0 F p n tbl Hc) (e : tbl.lookup k = some d) (h0 : σ[i]? = some (some (.ref p))) (h2 : ∀ (H2 : Hp) (Q2 : VK), Q2 (.str k) H2 → ty σ H2 Q2) : DX K (tDGet (tVar i) ty) σ Hc d := by
  obtain ⟨kvs, g, l, gd⟩ := I.ex
  exact DX.dg g gd e (fun _ z => R.var z h0) (fun _ z => h2 _ _ z)
/-- a, b = d, e of two places -/
theorem DcI.gput2 {ty ty2 : TE} {QS : L2.St → Hp → Prop} {t : Addr} {v2 : V} {d2 : PyData} {k2 : Str} (I : DcI K H0 F p n tbl Hc) (hn : n < 999) (ht : SqT K Hc t [v, v2]) (hv : Dp K Hc v d) (hv2 : Dp K Hc v2 d2) (h0 : σ[i]? = some (some (.ref p))) (h2 : ∀ (H2 : Hp) (Q2 : VK), Q2 (.str k) H2 → ty σ H2 Q2) (h3 : ∀ (H2 : Hp) (Q2 : VK), Q2 (.str k2) H2 → ty2 σ H2 Q2)
    (q : ∀ Hd, DcI K H0 F p (n + 2) ((k2, d2) :: (k, d) :: tbl) Hd → QS σ Hd) : L2.gTup K 2 (L2.gCons (gSub (tVar i) ty rSetD) (L2.gCons (gSub (tVar i) ty2 rSetD) L2.gNil)) (.ref t) σ Hc QS :=
  ⟨t, [v, v2], rfl, ht, rfl, v, [v2], rfl, I.gput (by omega) hv h0 h2 fun Hd I2 s2 => ⟨v2, [], rfl, I2.gput (by omega) (Dp.smd s2 hv2) h0 h3 fun He I3 _ => ⟨rfl, q He I3⟩⟩⟩
/-- the two dicts' fields, made -/
theorem DX.two {ta tb : TE} {H : Hp} {Q : VK} {d2 : PyData} (h : DX K ta σ H d) (h2 : ∀ H', Same H H' → DX K tb σ H' d2) (q : ∀ t v v2 H', Same H H' → SqT K H' t [v, v2] → Dp K H' v d → Dp K H' v2 d2 → Q (.ref t) H') : tTup (tCons ta (tCons tb tNil)) σ H Q :=
  R.tup (R.cons (h _ fun v H1 s1 d1 => R.cons (h2 H1 s1 _ fun v2 H2 s2 e2 => R.nil ⟨by simp only [List.length_cons, List.length_nil]; decide, fun t ht => q t v v2 _ ((s1.trans s2).trans (same_upd ht)) (SqT.of upd_same) (Dp.mono (s2.trans (same_upd ht)) d1) (Dp.mono (same_upd ht) e2)⟩)))
end
/-! ## dicts: a place in a row of targets; get of a written one -/
theorem set_dict {X : Cx} (hu : X.A.units + 1 < cLine) : PSet X rSetD := by
  intro pins s σ H o i v ov iv u Q I ro ri rv h
  obtain ⟨a, H', rfl, g, q⟩ := h
  cases (show ov = Value.ref a from ro)
  exact d_setItem hu I g ri rv fun s4 I4 => ⟨H', I4, q⟩
/-- an object of K that has no dict -/
def NoDx (K : PySem.W.Frag) (a : Addr) : Prop := ∃ o, K.lookup a = some o ∧ o.dict = none
theorem kdS_dx {K : PySem.W.Frag} {a : Addr} {kvs : List (Str × He.Dv)} (h : kdS K a kvs = true) : NoDx K a := by
  unfold kdS at h
  cases q : K.lookup a with
  | none =>
    rw [q] at h
    cases h
  | some o =>
    obtain ⟨oc, od, dt, osl⟩ := o
    rw [q] at h
    cases oc with
    | type c =>
      cases od with
      | none => exact ⟨_, q, rfl⟩
      | some _ => cases dt <;> cases h
    | _ => cases od <;> cases dt <;> cases h
/-- d.get(y, x), d a written dict -/
def tGetKD (K : PySem.W.Frag) (w : World) (td ty tx : TE) : TE := fun σ H Q => td σ H fun x H1 => ∃ a kvs, x = .ref a ∧ KD K w a kvs ∧ NoDx K a ∧ ty σ H1 fun y H2 => tx σ H2 fun z H3 => ∃ k, y = kV k ∧ Q ((valV kvs k).getD z) H3
section
variable {X : Cx} {o e f : Expr} {apos cpos : Pos} {td ty tx : TE}
theorem pe_getKD (ho : PE X o td) (he : PE X e ty) (hf : PE X f tx) (m : M2 X o "get" apos e f cpos) : PE X (.Call (.Attribute o "get" apos) [e, f] [] cpos) (tGetKD X.K X.w td ty tx) := by
  refine ⟨fun pins s σ H Q I h => ?_⟩
  refine wpAny_Call_method m.base m.few m.line PySem.F.plainAttrs_dict PySem.F.slot_dict_get PySem.F.type_dict_get (thn (ho.run pins s σ H _ I h) fun u s1 ⟨x, H1, I1, rx, a, kvs, ex, D, ⟨ob, hob, hod⟩, q1⟩ => ?_)
  subst ex
  obtain rfl : u = Value.ref a := rx
  obtain ⟨f0, isD, _⟩ := D.get X.prog s1.heap I1.kIn
  refine ⟨isD.typeIs, fun b q => ?_, ?_⟩
  · cases q
    exact ⟨ob, I1.kIn _ _ hob, hod⟩
  rw [m.trees]
  refine Calls.callWith_builtin rfl (Calls.evalArgs_plain (Calls.spliced_cons (thn (he.run pins s1 σ H1 _ I1 q1) fun iv s2 ⟨y, H2, I2, ry, q2⟩ =>
    Calls.spliced_cons (thn (hf.run pins s2 σ H2 _ I2 q2) fun fv s3 ⟨z, H3, I3, rz, k, ey, q3⟩ => Calls.spliced_nil ?_))))
  subst ey
  obtain ⟨f1, isD3, same3⟩ := D.get X.prog s3.heap I3.kIn
  refine call_meetsIn PySem.F.slot_dict_get isD3.typeIs PySem.F.entry_dict_get (PySem.F.args_dict_get_3 _ _ _) (meets_dict_get_default (mixKind X.prog X.w) a (kV_is ry) D.lo fv) ⟨_, isD3, _, H3, I3.tok _, ?_, q3⟩
  exact (same3 k).getD rz
end
/-! ## tuples of K at any address: a look that the head can take -/
def tupAt (K : PySem.W.Frag) (a : PySem.W.Frag → Addr) (vs : List He.Dv) : Bool := match K.lookup (a K) with
  | some ⟨.type c, _, .seq its _, _⟩ => decide (c = "tuple") && (decide (its.size ≤ sizeLine) && He.relAll (vs.map (He.Dv.v K)) its.toList)
  | _ => false
theorem tupAt_ok {K : PySem.W.Frag} {a : PySem.W.Frag → Addr} {vs : List He.Dv} (h : tupAt K a vs = true) (H : Hp) : SqT K H (a K) (vs.map (He.Dv.v K)) := by
  unfold tupAt at h
  cases q : K.lookup (a K) with
  | none =>
    rw [q] at h
    cases h
  | some o =>
    obtain ⟨oc, od, dt, osl⟩ := o
    rw [q] at h
    cases oc with
    | type c =>
      cases dt with
      | seq its n =>
        obtain ⟨h1, h2⟩ := He.ba h
        obtain ⟨h3, h4⟩ := He.ba h2
        refine .inr ⟨_, its, n, q, ?_, rfl, ?_, ?_⟩
        · rw [of_decide_eq_true h1]
        · exact of_decide_eq_true h3
        · exact He.relAll_ok h4
      | _ => cases h
    | _ => cases h
/-- the value of the i-th entry of a dict of K, if it is an object -/
def entAt (x : Str) (i : Nat) (K : PySem.W.Frag) : Addr := match K.lookup (He.ga K x) with
  | some ⟨_, _, .dict es _, _⟩ => (match es.toList[i]? with
    | some e => (match e.val with
      | .ref a => a
      | _ => 0)
    | none => 0)
  | _ => 0
/-- the i-th item of a tuple of K, if it is an object -/
def itmAt (p : PySem.W.Frag → Addr) (i : Nat) (K : PySem.W.Frag) : Addr := match K.lookup (p K) with
  | some ⟨_, _, .seq its _, _⟩ => (match its.toList[i]? with
    | some (.ref a) => a
    | _ => 0)
  | _ => 0
end Rl
namespace Rl
open PySem PySem.Spec PyProof.Rows L2
/-! ## methods, instances made, defs held by a local name -/
section
variable {P : Program} {w : World} {K : PySem.W.Frag} {mg : Str → Option Value} {base : Heap}
/-- a method that may be called, every parameter given -/
structure ClM (P : Program) (w : World) (K : PySem.W.Frag) (mg : Str → Option Value) (base : Heap) (k : Nat) (C : Addr) (m : Str) (sp : Sp) : Prop where
  ex : ∃ (f : Addr) (fd : FuncData) (ps : List Str), FnOk P w K mg base CX0 k f fd ps sp ∧ Cls K C ∧ Meth K C m f ∧ Binds K fd ps []
/-- a class whose instances may be made, its __init__ with every parameter given -/
structure ClK (P : Program) (w : World) (K : PySem.W.Frag) (mg : Str → Option Value) (base : Heap) (k : Nat) (x : Str) (C : Addr) (sp : Sp) : Prop where
  ex : ∃ (f : Addr) (fd : FuncData) (ps : List Str), FnOk P w K mg base CX0 k f fd ps sp ∧ Mk K C f ∧ mg x = some (.ref C) ∧ Binds K fd ps []
end
section
variable {X : Cx} {k j i : Nat} {x : Str} {sp : Sp} {p pos apos : Pos} {o e : Expr} {es : List Expr} {t : TA} {ta : TE}
theorem pe_clm {C : Addr} {m : Str} {pl : Sem Bool} (c : ClM X.prog X.w X.K X.mg X.base k C m sp) (hr : Room j X.A) (hk : k ≤ j) (he : PE X o ta) (ha : PA X (e :: es) t)
    (h1 : starEach (e :: es) X.env = (false, eval e X.env) :: starEach es X.env := by rfl) (h2 : (backTo pos (starEach es X.env)).any (·.1) = false := by rfl)
    (h3 : eval (.Call (.Attribute o m apos) (e :: es) [] pos) X.env = (do
      let ov ← eval o X.env
      standAt apos.atName
      let (f, first) ← holding [ov] (getMethod ov m pl)
      callWith pos f first (backTo pos (starEach (e :: es) X.env)) (backToKw pos (keywordEach [] X.env))) := by rfl) : PE X (.Call (.Attribute o m apos) (e :: es) [] pos) (tMeth C m sp [] E0 ta t) := by
  obtain ⟨f, fd, ps, F, cl, M, b⟩ := c.ex
  exact pe_meth he cl M F (hr.mono hk) b .nil pass0 ha h1 h2 h3
theorem pe_clk {C : Addr} (c : ClK X.prog X.w X.K X.mg X.base k x C sp) (hr : Room j X.A) (hk : k + 1 ≤ j) (hg : Gl X x) (ha : PA X (e :: es) t)
    (hd : (x == ("__debug__" : Str)) = false := by decide) (h1 : starEach (e :: es) X.env = (false, eval e X.env) :: starEach es X.env := by rfl) (h2 : (backTo pos (starEach es X.env)).any (·.1) = false := by rfl) : PE X (.Call (.Name x p) (e :: es) [] pos) (tMake C sp [] E0 t) := by
  obtain ⟨f, fd, ps, F, M, hm, b⟩ := c.ex
  exact pe_make M F (hr.mono hk) hg hm b .nil pass0 ha hd h1 h2
/-- f(e, ..), the slot i holds a def of the top, one of those that D tells -/
def tCallD (K : PySem.W.Frag) (D : Str → Option Sp) (i : Nat) (t : TA) : TE := fun σ H Q => ∃ nm sp, σ[i]? = some (some (.ref (He.ga K nm))) ∧ D nm = some sp ∧ t σ H fun vs H1 => sp (vs ++ []) H1 Q E0
theorem pe_callD {D : Str → Option Sp} (c : ∀ nm sp, D nm = some sp → Cl X.prog X.w X.K X.mg X.base k nm sp ∧ X.mg nm = some (.ref (He.ga X.K nm))) (hr : Room j X.A) (hk : k ≤ j) (hN : X.N[i]? = some x) (hv : Vis X.env.scope x) (ha : PA X (e :: es) t)
    (hd : (x == ("__debug__" : Str)) = false := by decide) (hc : (x == ("__classdict__" : Str)) = false := by decide)
    (h1 : starEach (e :: es) X.env = (false, eval e X.env) :: starEach es X.env := by rfl) (h2 : (backTo pos (starEach es X.env)).any (·.1) = false := by rfl) : PE X (.Call (.Name x p) (e :: es) [] pos) (tCallD X.K D i t) := by
  refine ⟨fun pins s σ H Q I ⟨nm, sp, hs, hD, q⟩ => ?_⟩
  obtain ⟨⟨f, fd, ps, F, hm, kp, b⟩, hm2⟩ := c nm sp hD
  rw [hm] at hm2
  cases hm2
  exact (pe_callL (i := i) (dvs := []) (E := E0) F (hr.mono hk) hN hv kp b .nil pass0 ha hd hc h1 h2).run pins s σ H Q I ⟨hs, q⟩
end
namespace R
section
variable {K : PySem.W.Frag} {σ : L2.St} {H : Hp} {Q : VK} {nx bk ct : L2.St → Hp → Prop} {rt : VK} {ta tv : TE} {f : Str}
theorem fld (q : ta σ H fun x H1 => ∃ a C dx fs v, x = .ref a ∧ H1 a = some (.ins C dx fs) ∧ Cls K C ∧ NoAttr K C f ∧ fs.lookup f = some v ∧ Q v H1) : tFld K ta f σ H Q := q
theorem sfld (q : tv σ H fun y H1 => ta σ H1 fun x H2 => ∃ a C dx fs, x = .ref a ∧ H2 a = some (.ins C dx fs) ∧ Cls K C ∧ NoAttr K C f ∧ fs.length < 1000 ∧ nx σ (upd H2 a (.ins C dx (putF f y fs)))) : sFld K ta tv f ⟨nx, rt, bk, ct⟩ σ H := q
theorem sfldAug {rd : V → V → Hp → VK → Prop} (q : ta σ H fun x H1 => ∃ a C dx fs v, x = .ref a ∧ H1 a = some (.ins C dx fs) ∧ Cls K C ∧ NoAttr K C f ∧ fs.lookup f = some v ∧
  tv σ H1 fun y H2 => rd v y H2 fun z H3 => ∃ dx' fs', H3 a = some (.ins C dx' fs') ∧ fs'.length < 1000 ∧ nx σ (upd H3 a (.ins C dx' (putF f z fs')))) : sFldAug K ta tv rd f ⟨nx, rt, bk, ct⟩ σ H := q
theorem meth {C : Addr} {m : Str} {sp : Sp} {t : TA} (q : ta σ H fun x H1 => ∃ a dx fs, x = .ref a ∧ H1 a = some (.ins C dx fs) ∧ fs.lookup m = none ∧ t σ H1 fun vs H2 => sp (x :: (vs ++ [])) H2 Q E0) : tMeth C m sp [] E0 ta t σ H Q := q
theorem callD {D : Str → Option Sp} {i : Nat} {t : TA} (q : ∃ nm sp, σ[i]? = some (some (.ref (He.ga K nm))) ∧ D nm = some sp ∧ t σ H fun vs H1 => sp (vs ++ []) H1 Q E0) : tCallD K D i t σ H Q := q
end
end R
end Rl
namespace Rl
open PySem PySem.Spec PyProof.Rows L2
/-! ## d.update(another dict), {.. for k in range(n)}, [k for k in range(n) if ..] -/
def rUpdate : V → List V → Hp → VK → Prop := fun x xs H Q => ∃ (a b : Addr) (kvs more : List (Key × V)), x = .ref a ∧ xs = [.ref b] ∧ a ≠ b ∧ H a = some (.dK kvs) ∧ H b = some (.dK more) ∧ kvs.length + more.length ≤ sizeLine ∧ Q .non (upd H a (.dK (mergeK kvs more)))
theorem mergeK_len : ∀ (more kvs : List (Key × V)), (mergeK kvs more).length ≤ kvs.length + more.length
  | [], kvs => Nat.le_refl _
  | p :: r, kvs => by
    have ih := mergeK_len r (putK kvs p.1 p.2)
    have l1 := length_putK kvs p.1 p.2
    show (mergeK (putK kvs p.1 p.2) r).length ≤ _
    rw [List.length_cons]
    omega
theorem mt_update {X : Cx} : MtR X "dict.update" rUpdate := by
  intro pins s σ H x xs v us Q I rx rv ⟨a, b, kvs, more, ex, exs, ne, ha, hb, hz, q⟩
  subst ex exs
  cases rx
  rw [Vals.ref1 rv]
  obtain ⟨_, lo, vs, r1, d1⟩ := dk_of I.hok ha
  obtain ⟨_, lo2, ms, r2, d2⟩ := dk_of I.hok hb
  have total : vs.length + ms.length ≤ sizeLine := by rw [← r1.length, ← r2.length]; exact hz
  refine call_meetsIn PySem.F.slot_dict_update d1.typeIs PySem.F.entry_dict_update (PySem.F.args_dict_update_2 _ _) (meets_dict_update (mixKind X.prog X.w) a b ne lo2) ⟨vs, ms, d1, d2, total, fun h1 d3 _ but => ?_⟩
  have there : ∃ o, h1.get? a = some o := d3.elim fun o z => z.elim fun _ z => z.elim fun _ z => ⟨o, z.1⟩
  exact ⟨.non, _, d_write (t' := s.toks) I (by rw [ha]; exact True.intro) but there (dk_new (Nat.le_trans (mergeK_len more kvs) hz) lo (KV.merge r2 r1) d3), rfl, q⟩
namespace R
theorem update {H : Hp} {Q : VK} {a b : Addr} {kvs more : List (Key × V)} (ne : a ≠ b) (ha : H a = some (.dK kvs)) (hb : H b = some (.dK more)) (hz : kvs.length + more.length ≤ sizeLine) (q : Q .non (upd H a (.dK (mergeK kvs more)))) : rUpdate (.ref a) [.ref b] H Q :=
  ⟨a, b, kvs, more, rfl, rfl, ne, ha, hb, hz, q⟩
theorem tyD {K : PySem.W.Frag} {H : Hp} {p : Addr} {kvs : List (Key × V)} {A : Prop} (h : H p = some (.dK kvs)) (q : A) : tyV K "dict" (.ref p) H ∧ A := ⟨.inr (.inr (.inl ⟨rfl, .inl ⟨kvs, h⟩⟩)), q⟩
end R
end Rl
namespace Rl
open PySem PySem.Spec PyProof.Rows L2 NdefX LamX
/-! ## a def within a def, handed to another def: the captured name's cell is tracked while that one runs -/
/-- at c stands o, nothing else -/
def CellO (c : Addr) (o : Obj) : HO := .ext fun h => h.get? c = some o
theorem cellO_ok {P : Program} {w : World} {H : Hp} {h : Heap} {c : Addr} {o : Obj} (g : h.get? c = some o) : ObjOk P w H h c (CellO c o) := ⟨g, ⟨o, g⟩, fun _ _ z st => st o z⟩
theorem cellO_at {P : Program} {w : World} {H : Hp} {h : Heap} {c : Addr} {o : Obj} (x : HOk P w H h) (e : H c = some (CellO c o)) : h.get? c = some o := (x c _ e).1
theorem but_of {c b : Addr} {H : Hp} {v : HO} (q : but c H b = some v) : b ≠ c ∧ H b = some v := by
  unfold but at q
  split at q
  · cases q
  · exact ⟨‹_›, q⟩
theorem upd_of {c b : Addr} {H : Hp} {v x : HO} (q : upd H c x b = some v) : (b = c ∧ v = x) ∨ (b ≠ c ∧ H b = some v) := by
  by_cases e : b = c
  · rw [e, upd_same] at q
    exact .inl ⟨e, (Option.some.inj q).symm⟩
  · rw [upd_ne e] at q
    exact .inr ⟨e, q⟩
/-- an entry that is no cell's -/
theorem but_keep {c b : Addr} {H : Hp} {v : HO} {o : Obj} (e : H c = some (CellO c o)) (n : ∀ φ, v ≠ .ext φ) (z : H b = some v) : but c H b = some v :=
  but_get (fun y => n _ (Option.some.inj (z.symm.trans (y ▸ e)))) z
section
variable {P : Program} {w : World} {H H' : Hp} {h h' : Heap} {c : Addr} {o : Obj} {fs ex : List Addr}
theorem hok_but (x : HOk P w H h) (e : H c = some (CellO c o)) : HOk P w (but c H) h := fun b u q =>
  (x b u (but_of q).2).stay (fun _ _ _ z => z) (fun _ z => but_keep e (fun _ y => nomatch y) z) fun _ _ z => but_keep e (fun _ y => nomatch y) z
theorem hok_cell (x : HOk P w H h) (n : H c = none) (g : h.get? c = some o) : HOk P w (upd H c (CellO c o)) h := fun b u q => by
  rcases upd_of q with ⟨rfl, rfl⟩ | ⟨_, z⟩
  · exact cellO_ok g
  · exact (x b u z).stay (fun _ _ _ y => y) (fun _ y => upd_get n y) fun _ _ y => upd_get n y
/-- the cell is given back to its frame -/
theorem un_back (u : Un fs ex (upd H c (CellO c o)) H' h h') (n : H c = none) (g : h.get? c = some o) (e : H' c = some (CellO c o)) (x : HOk P w H' h') : Un fs ex H (but c H') h h' := by
  have same : h'.get? c = some o := cellO_at x e
  have none' : ∀ b, b ≠ c → H b = none → upd H c (CellO c o) b = none := fun b nb q => by rw [upd_ne nb]; exact q
  refine ⟨fun b v gb q nf nx => ?_, fun b v gb q hf nx => ?_, fun b v gb q nx => ?_, u.there, fun b xs q => ?_, fun b v y q => ?_, fun b ps q => ?_⟩
  · by_cases hb : b = c
    · rw [hb] at gb ⊢
      rw [same, ← g, gb]
    · exact u.keep b v gb (none' b hb q) nf nx
  · by_cases hb : b = c
    · rw [hb] at gb ⊢
      have ev : v = o := Option.some.inj (gb.symm.trans g)
      exact ⟨o.slots, by rw [ev]; exact same⟩
    · exact u.slot b v gb (none' b hb q) hf nx
  · by_cases hb : b = c
    · rw [hb]
      exact but_none
    · have z := u.free b v gb (none' b hb q) nx
      unfold but
      rw [if_neg hb]
      exact z
  · exact but_keep e (fun _ y => nomatch y) (u.tups b xs (upd_get n q))
  · exact but_keep e (fun _ y => nomatch y) (u.frzs b v y (upd_get n q))
  · obtain ⟨more, z⟩ := u.tbls b ps (upd_get n q)
    exact ⟨more, but_keep e (fun _ y => nomatch y) z⟩
/-- the cell goes on being tracked -/
theorem un_held (u : Un fs ex (but c H) H' h h') (e : H c = some (CellO c o)) (g : h.get? c = some o) (nf : c ∉ fs) (nx : c ∉ ex) : h'.get? c = some o ∧ H' c = none ∧ Un fs ex H (upd H' c (CellO c o)) h h' := by
  have k1 : h'.get? c = some o := u.keep c o g but_none nf nx
  have k2 : H' c = none := u.free c o g but_none nx
  have none' : ∀ b, H b = none → b ≠ c ∧ but c H b = none := fun b q => by
    have hb : b ≠ c := fun z => by
      rw [z, e] at q
      cases q
    unfold but
    rw [if_neg hb]
    exact ⟨hb, q⟩
  refine ⟨k1, k2, fun b v gb q => u.keep b v gb (none' b q).2, fun b v gb q => u.slot b v gb (none' b q).2, fun b v gb q x => ?_, u.there, fun b xs q => ?_, fun b v y q => ?_, fun b ps q => ?_⟩
  · rw [upd_ne (none' b q).1]
    exact u.free b v gb (none' b q).2 x
  · exact upd_get k2 (u.tups b xs (but_keep e (fun _ y => nomatch y) q))
  · exact upd_get k2 (u.frzs b v y (but_keep e (fun _ y => nomatch y) q))
  · obtain ⟨more, z⟩ := u.tbls b ps (but_keep e (fun _ y => nomatch y) q)
    exact ⟨more, upd_get k2 z⟩
end
theorem same_put {H H2 : Hp} {c : Addr} {x : HO} (e : H c = some x) (s : Same (but c H) H2) : Same H (upd H2 c x) := fun b v q => by
  by_cases hb : b = c
  · rw [hb] at q ⊢
    rw [upd_same, ← e, q]
  · rw [upd_ne hb]
    exact s b v (but_get hb q)
section
variable {X : Cx} {pins : List (Addr × Obj)} {σ : L2.St} {H : Hp} {s : Shared}
/-- cells made by this frame lie behind its names -/
theorem cell_out (I : Inv X pins σ H s) {c : Addr} (hgt : X.env.locals < c) : X.base.get? c = none ∧ c ∉ frs X.stack := by
  have sz := I.ok.above
  have far : X.s_0.heap.objs.size < c := Nat.lt_of_le_of_lt sz hgt
  refine ⟨?_, fun z => ?_⟩
  · cases q : X.base.get? c with
    | none => rfl
    | some o =>
      exact absurd (Nat.lt_trans far (Nat.lt_of_lt_of_le (Heap.lt_size q) I.ok.bsz)) (Nat.lt_irrefl _)
  · rcases List.mem_cons.mp (I.stkSub c z) with y | y
    · exact absurd (y ▸ hgt) (Nat.lt_irrefl _)
    · obtain ⟨_, o, q, _⟩ := I.ok.funs.mem y
      exact absurd (Nat.lt_trans far (Heap.lt_size q)) (Nat.lt_irrefl _)
/-- x(e, ..), x a def of the top: the name in the slot j stands in the cell c, tracked while the callee runs -/
def tCallC (K : PySem.W.Frag) (c : Addr) (j : Nat) (sp : Sp) (t : TA) : TE := fun σ H Q => t σ H fun vs H1 => ∃ a, σ[j]? = some (some (.ref a)) ∧ ∀ o : Obj, o.data = .cell (some (.ref a)) → K.lookup c = none → H1 c = none → sp vs (upd H1 c (CellO c o)) (fun v H2 => H2 c = some (CellO c o) ∧ Q v (but c H2)) E0
theorem pe_callC {k k' j : Nat} {x y : Str} {sp : Sp} {c : Addr} {t : TA} {e : Expr} {es : List Expr} {p pos : Pos} (F : Cl X.prog X.w X.K X.mg X.base k x sp) (hr : Room k' X.A) (hk : k ≤ k') (hg : Gl X x) (hN : X.N[j]? = some y) (hy : X.env.scope.names.lookup y = some .cell) (hc : X.env.cells.lookup y = some c) (hgt : X.env.locals < c) (ha : PA X (e :: es) t)
    (hdb : (x == ("__debug__" : Str)) = false := by decide) (he : starEach (e :: es) X.env = (false, eval e X.env) :: starEach es X.env := by rfl) (hpl : (backTo pos (starEach es X.env)).any (·.1) = false := by rfl) :
    PE X (.Call (.Name x p) (e :: es) [] pos) (tCallC X.K c j sp t) := by
  obtain ⟨f, fd, ps, Fn, hm, kp, b⟩ := F.ex
  refine ⟨fun pins s σ H Q I h => wpAny_Call_Name_kw (ld_glob I hg hm ?_ hdb)⟩
  refine PySem.W.callWith_K (h₀ := X.base) I.ok.mod.kin kp (thn (ha.run pos pins s σ H _ I h) fun us s1 ⟨vs, H1, I1, r, a, hs, q⟩ => ⟨I1.kIn, ?_⟩) he hpl
  -- the cell
  obtain ⟨m, _, look⟩ := I1.loc
  obtain ⟨u, ru, lk⟩ := look j y (.ref a) hN hs (.inr (.inl hy))
  obtain rfl : u = Value.ref a := ru
  obtain ⟨o, go, od⟩ : s1.heap.IsCell c (some (.ref a)) := by
    rcases lk with ⟨z, _⟩ | ⟨_, c', hc', z⟩
    · have z' : X.env.scope.names.lookup y = some .local := z
      rw [hy] at z'
      cases z'
    · rw [hc] at hc'
      cases hc'
      exact z
  have n1 : H1 c = none := I1.freeC y c hc
  obtain ⟨nb, nf⟩ := cell_out I1 hgt
  have e0 := I1.env0
  have e1 : Env0 X.prog X.w X.K X.mg X.base X.A X.stack s1 (upd H1 c (CellO c o)) := by
    refine ⟨e0.frames, e0.mod, fun b v z => ?_, e0.bsz, e0.funs, fun b z => ?_, hok_cell e0.hok n1 go, e0.bare⟩
    · have hb : b ≠ c := fun y => by
        rw [y, nb] at z
        cases z
      rw [upd_ne hb]
      exact e0.bs b v z
    · rw [upd_ne fun (y : b = c) => nf (y ▸ z)]
      exact e0.frf b z
  have nk : X.K.lookup c = none := by
    cases z : X.K.lookup c with
    | none => rfl
    | some v =>
      have y := I1.ok.mod.kin c v z
      rw [nb] at y
      cases y
  have sp1 := q o od nk n1
  have hl := Fn.len _ _ _ _ sp1
  have bd : BindsTo s1 fd ⟨us, []⟩ (ps.zip us) := by
    have z := b s1 us I1.kIn (by rw [List.append_nil, ← r.length]; exact hl)
    rw [List.append_nil] at z
    exact z
  refine wpAny_call (codeAny_mono (Fn.run X.A X.stack s1 _ ⟨us, []⟩ us vs _ _ (hr.mono hk) e1 bd r sp1) fun r s' hq => ?_)
  cases r with
  | error e => exact hq.elim
  | ok fl =>
    cases fl with
    | ret u =>
      obtain ⟨v, H', os, bare, un, hok, rv, k1, k2⟩ := hq
      exact I1.after ⟨v, but c H', os, bare, un_back un n1 go k1 hok, hok_but hok k1, rv, k2⟩
    | next => exact False.elim hq
    | brk => exact False.elim hq
    | cont => exact False.elim hq
/-- x(e, ..), the slot i holds a def made elsewhere whose one captured name stands in a tracked cell; T: which ones there may be, with what they promise -/
def tCallH (i : Nat) (y : Str) (T : NF → (Addr → Sp) → Prop) (t : TA) : TE := fun σ H Q => ∃ (f : Addr) (F : NF) (sp : Addr → Sp) (c : Addr) (o : Obj) (a : Addr), σ[i]? = some (some (.ref f)) ∧ T F sp ∧ F.cl = [(y, c)] ∧ o.data = .cell (some (.ref a)) ∧ H f = some (FnO f F) ∧
  t σ H fun vs H1 => H1 f = some (FnO f F) ∧ H1 F.c = some (CodeO F.c F.qual) ∧ H1 c = some (CellO c o) ∧ f ≠ c ∧ F.c ≠ c ∧ sp a vs (but c H1) (fun v H2 => H2 c = none → Q v (upd H2 c (CellO c o))) E0
/-- a nested def's promise, its captured name's object told -/
abbrev spCap (sp : Addr → Sp) : List (Option V) → Sp := fun ws vs H Q E => ∃ a, ws = [some (.ref a)] ∧ sp a vs H Q E
theorem pe_callH {k k' i : Nat} {x y : Str} {T : NF → (Addr → Sp) → Prop} {ps : List Str} {t : TA} {e : Expr} {es : List Expr} {p pos : Pos} (Fn : ∀ f F sp, T F sp → NOk X.prog X.w X.K X.mg X.base CX0 k f F ps [y] (spCap sp)) (hr : Room k' X.A) (hk : k ≤ k') (hN : X.N[i]? = some x) (hv : Vis X.env.scope x) (ha : PA X (e :: es) t)
    (hdb : (x == ("__debug__" : Str)) = false := by decide) (hcd : (x == ("__classdict__" : Str)) = false := by decide)
    (he : starEach (e :: es) X.env = (false, eval e X.env) :: starEach es X.env := by rfl) (hpl : (backTo pos (starEach es X.env)).any (·.1) = false := by rfl) :
    PE X (.Call (.Name x p) (e :: es) [] pos) (tCallH i y T t) := by
  refine ⟨fun pins s σ H Q I h => ?_⟩
  obtain ⟨f, F, sp, c, o, a, hs, hT, hcl, od, hf, ht⟩ := h
  have var := (pe_var (X := X) (i := i) (pos := p) hN hv hdb hcd).run pins s σ H (fun v H1 => v = .ref f ∧ H1 = H) I ⟨.ref f, hs, rfl, rfl⟩
  refine wpAny_Call_Name_kw (thn var fun u s1 ⟨v, H1, I1, r1, ev, eH⟩ => ?_)
  subst eH
  subst ev
  obtain rfl : u = Value.ref f := r1
  refine PySem.W.callWith_F (first := []) (fnAt_of I1 hf) (thn (ha.run pos pins s1 σ H1 _ I1 ht) fun us s2 ⟨vs, H2, I2, r, h1, h2, h3, n1, n2, q⟩ => ⟨fnAt_of I2 h1, ?_⟩) he hpl
  show wpAny _ _ (call (.ref f) us) _ _ _
  have e0 := I2.env0
  have go : s2.heap.get? c = some o := cellO_at e0.hok h3
  have nf : c ∉ frs X.stack := fun z => by
    have y := e0.frf c z
    rw [h3] at y
    cases y
  have lt : ∀ b, H2 b = none → but c H2 b = none := fun b z => by
    unfold but
    split
    · rfl
    · exact z
  have e1 : Env0 X.prog X.w X.K X.mg X.base X.A X.stack s2 (but c H2) := ⟨e0.frames, e0.mod, fun b v z => ⟨(e0.bs b v z).1, lt b (e0.bs b v z).2⟩, e0.bsz, e0.funs, fun b z => lt b (e0.frf b z), hok_but e0.hok h3, e0.bare⟩
  have one : ∀ z d, F.cl.lookup z = some d → z = y ∧ d = c := fun z d g => by
    rw [hcl] at g
    have m := PySem.mem_of_lookup g
    have m2 := List.mem_singleton.mp m
    cases m2
    exact ⟨rfl, rfl⟩
  have C : CellsAt F.cl [y] [some (.ref a)] s2.heap (but c H2) := by
    refine ⟨rfl, fun z d g => ?_, fun z1 z2 d g1 g2 => (one z1 d g1).1.trans (one z2 d g2).1.symm, fun i z g => ?_⟩
    · rw [(one z d g).2]
      exact ⟨but_none, _, o, go, od⟩
    · cases i with
      | succ i => cases g
      | zero =>
        obtain rfl : y = z := Option.some.inj g
        refine ⟨c, by rw [hcl]; exact List.lookup_cons_self, fun v ev => ⟨.ref a, ?_, o, go, od⟩⟩
        have e2 : V.ref a = v := Option.some.inj (Option.some.inj ev)
        rw [← e2]
        rfl
  refine wpAny_call (codeAny_mono ((Fn f F sp hT).run X.A X.stack s2 _ us vs _ _ _ (hr.mono hk) e1 (but_get n1 h1) (but_get n2 h2) C r ⟨a, rfl, q⟩) fun r s' hq => ?_)
  cases r with
  | error e => exact hq.elim
  | ok fl =>
    cases fl with
    | ret u =>
      obtain ⟨v, H', os, bare, un, hok, rv, k1⟩ := hq
      obtain ⟨u1, u2, u3⟩ := un_held un h3 go nf (fun z => by cases z)
      exact I2.after ⟨v, _, os, bare, u3, hok_cell hok u2 u1, rv, k1 u2⟩
    | next => exact False.elim hq
    | brk => exact False.elim hq
    | cont => exact False.elim hq
end
/-! ## a def's body, its code object known by the def's name -/
section
variable {K : PySem.W.Frag} {P : Program} {w : World} {base : Heap} {mg : Str → Option Value}
theorem cl_ofC {x : Str} {st : Stmt} {fd : FuncData} {N ps : List Str} {k : Nat} {sp : Sp} (D : FnP K x st (He.fAd K (x, none)) fd) (hm : mg x = some (.ref (He.fAd K (x, none)))) (hb : Binds K fd ps []) (S : FnScope N ps (defScope st)) (len : ∀ vs H Q E, sp vs H Q E → vs.length = ps.length)
    (hbody : ∀ (A : Around) (outer : List PySem.Env) (s : Shared) (H : Hp) (vs : List V) (Q : VK) (E : XK), Room k (A.deeper (envOfC x (defScope st) s.heap.objs.size (He.fAd K (x, none)) (.ref (He.codeOf K (x, none))))) → sp vs H Q E →
      ∃ t, PSs (cxOf CX0 P w K mg base N x (defScope st) (He.fAd K (x, none)) (.ref (He.codeOf K (x, none))) A outer s H E) (defBody st) t ∧ t { nx := fun _ H' => Q .non H', rt := Q } (start N vs) H) : Cl P w K mg base (k + 1) x sp := by
  refine ⟨_, fd, ps, ?_, hm, D.kp, hb⟩
  obtain ⟨oc, od, dV, kV, doc, pm, an, cdv, ct, osl, e, lk, hcd, _, _⟩ := D.ex
  obtain ⟨c, ec⟩ := He.codeIn_ref hcd
  have e1 : He.codeOf K (x, none) = c := He.codeOf_eq lk (by rw [e]; exact ec)
  rw [e1] at hbody
  subst ec e
  exact fn_of lk hcd S len fun A outer s H vs Q E hr hsp => hbody A outer s H vs Q E hr hsp
end
section
variable {X : Cx}
/-- def name(..): .. in a def's body -/
theorem ps_ndefW {st : Stmt} {T : List NTab} {nm : Nat → Nat → Str} {c P : Addr} {name q : Str} {cl : List (Str × Addr)} {pos : Pos} {i : Nat} (hq : X.env.qual ++ name = q) (hcl : cloFrom X.env.cells (C8.fnScope st).names [] = cl)
    (hst : st = .FunctionDef name (C8.fnArgs st) (C8.fnBody st) [] none [] (C8.fnScope st) none name pos) (TB : TabB X.base X.mg c P) (hcode : X.env.code = .ref c) (hm : (P, nm) ∈ T) (hn : nm pos.line pos.col = q) (hu : ∀ p ∈ T, p.1 = P → p.2 = nm) (hfr : ndefB X.env.scope (C8.fnScope st) [] = true)
    (hd0 : (C8.fnArgs st).defaults = []) (hk0 : (C8.fnArgs st).kw_defaults = []) (ha : annTrees (C8.fnArgs st) none X.env = []) (hN : X.N.Nodup) (hi : X.N[i]? = some name) (hx : Loc X.env.scope name) (hf : X.fn name = true ∨ X.env.scope.names.lookup name = some .local) :
    PS X st (tNdef T i (NF.of st name q cl)) := by
  subst hq hcl
  exact ps_ndefS hst TB hcode hm hn hu (ndef_free hfr) hd0 hk0 ha hN hi hx hf
end
/-! ## sorted(d), d a dict with keys that are ints: any number of them -/
def rSortedD : List V → Hp → VK → Prop := fun xs H Q => ∃ (a : Addr) (kvs : List (Key × V)) (ks : List Int), xs = [.ref a] ∧ H a = some (.dK kvs) ∧ kvs.map (·.1) = ks.map Sum.inl ∧
  ∀ (ys : List Int) (p : Addr), ys.Perm ks → ys.Pairwise (· ≤ ·) → H p = none → Q (.ref p) (upd H p (.lst (ys.map V.int)))
section
variable {X : Cx}
theorem keys_ints {P : Program} {w : World} {ks : List Int} {vs : List (Key × Value)} (hk : vs.map (·.1) = ks.map Sum.inl) {acc : List Value} (hl : acc.length = vs.length) (ha : ∀ (j : Nat) (v : Value), acc[j]? = some v → ∃ (k : Key) (x : Value), vs[j]? = some (k, x) ∧ (mixKind P w).is k v = true) : IntsAre acc ks := by
  have hlk : vs.length = ks.length := by simpa using congrArg List.length hk
  refine ints_each (hl.trans hlk) fun j v e => ?_
  obtain ⟨k, x, e1, e2⟩ := ha j v e
  have e3 : (ks.map (Sum.inl : Int → Key))[j]? = some k := by rw [← hk, List.getElem?_map, e1]; rfl
  rw [List.getElem?_map] at e3
  obtain ⟨n, hn, rfl⟩ := Option.map_eq_some_iff.mp e3
  rcases keyIs_shape (show keyIs (Sum.inl n) v = true from e2) with ⟨i, t, y1, y2⟩ | ⟨_, _, y1, _⟩
  · cases y1
    exact ⟨n, t, hn, y2⟩
  · cases y1
theorem cr_sortedD (calm : X.calm = true) : CallR X (.builtin "sorted") rSortedD := by
  intro pins s σ H xs us Q I r ⟨a, kvs, ks, ex, hd, hks, q⟩
  subst ex
  rw [Vals.ref1 r]
  obtain ⟨z, lo, vs, rel, dd⟩ := I.hok a _ hd
  obtain ⟨ep, at'⟩ := dd.dictAt
  have e1 : vs.map (·.1) = ks.map Sum.inl := rel.keys.symm.trans hks
  have e2 : kvs.length = vs.length := by simpa using congrArg List.length rel.keys
  have vz : vs.length ≤ sizeLine := e2 ▸ z
  refine Calls.call_function_entry kind_sorted plain_sorted entry_sorted (args_sorted1 _) ?_
  unfold Builtin.«sorted»
  refine wpAny_bind (m := checkCount "sorted" 1 1 _) (wpAny_pure ?_)
  refine wpAny_bind (PySem.W.kdu_collect (PySem.W.kdl_dict (knd := mixKind X.prog X.w) lo) (I.ok.hd calm) at' vz fun h1 tk acc kp got => ?_)
  have al : acc.toList.length = vs.length := by rw [Array.length_toList]; exact got.1
  have isI : IntsAre acc.toList ks := keys_ints e1 al fun j v e => got.2 j v (by rw [← Array.getElem?_toList]; exact e)
  have sz : acc.toList.length ≤ sizeLine := al ▸ vz
  have I1 : Inv X pins σ H { s with heap := h1, toks := tk } := I.kept kp
  refine wpAny_bind (wpAny_newList ?_ sz)
  have top : (h1.push (seqObj "list" acc.toList.toArray 0)).get? h1.objs.size = some (seqObj "list" acc.toList.toArray 0) := Heap.get?_push_size _ rfl
  show wpAny _ _ _ _ _ { s with heap := h1.push (seqObj "list" acc.toList.toArray 0), toks := tk }
  refine wpAny_bind (wpAny_holding (wpAny_call_entry slot_list_sort ⟨_, top, rfl⟩ entry_list_sort (SrtO.list_sort_ord (s := { s with heap := h1.push (seqObj "list" acc.toList.toArray 0), toks := tk }) SrtO.swo_int top sz (fun two => SrtO.ints_sortable isI two) fun out o1 o2 => ⟨_, rfl, ?_⟩) (args_list_sort _)))
  obtain ⟨k1, k2, k3⟩ := SrtO.ints_out isI o1 o2
  obtain ⟨n, hn⟩ := sortedHeap_at (vs := acc.toList) (out := out.toArray) top
  have zl : ((out.map SrtO.iv).map V.int).length ≤ sizeLine := by
    rw [List.length_map, k2.length_eq, ← isI.length]
    exact sz
  refine wpAny_pure ⟨_, rfl, .ref h1.objs.size, _, I1.laid (t' := tk) (o := .lst ((out.map SrtO.iv).map V.int)) (fun b u e => ?_) (Nat.le_refl _) ⟨zl, out, n, vals_of_ints k1, hn⟩, rfl, q _ _ k2 k3 (I1.hok.fresh (Nat.le_refl _))⟩
  have lb : b < h1.objs.size := Heap.lt_size e
  rw [sortedHeap_old (Nat.ne_of_lt lb) (Nat.lt_of_lt_of_eq (Nat.lt_succ_of_lt lb) (size_push' ..).symm)]
  exact Heap.get?_push_of_some _ e
end
end Rl
namespace Rl
open PySem PySem.Spec PyProof.Rows L2
/-! ## worths -/
theorem hu2 {A : Around} {k : Nat} (hr : Room k A) : A.units < cLine := Nat.lt_of_succ_lt (hu_of hr)
def rDictD : List V → Hp → VK → Prop := fun xs H Q => ∃ (a : Addr) (kvs : List (Key × V)), xs = [.ref a] ∧ Rd H a (.dK kvs) ∧ ∀ p, H p = none → Q (.ref p) (upd H p (.dK kvs))
theorem call_dictDA {X : Cx} : CallR X (.type "dict") rDictD := call_dictD
theorem lookup_mem {α β : Type} [BEq α] [LawfulBEq α] : ∀ {l : List (α × β)} {a : α} {b : β}, l.lookup a = some b → (a, b) ∈ l
  | [], _, _, h => by cases h
  | (x, y) :: l, a, b, h => by
    rw [List.lookup_cons] at h
    cases e : a == x with
    | true =>
      rw [e] at h
      cases h
      rw [eq_of_beq e]
      exact List.mem_cons_self ..
    | false =>
      rw [e] at h
      exact List.mem_cons_of_mem _ (lookup_mem h)
inductive Wt where
  | num (n : Int)
  | nam (s : Str)
  | cell (e : Wt)
  | neg (e : Wt)
  | two (k : Fin 7) (a b : Wt)
def sgW : Fin 7 → Str
  | 0 => "+"
  | 1 => "-"
  | 2 => "&"
  | 3 => "|"
  | 4 => "^"
  | 5 => "<"
  | 6 => "="
def sgF : Fin 7 → Int → Int → Int
  | 0 => fun i j => (i + j) % 256
  | 1 => fun i j => (i - j) % 256
  | 2 => Builtin.bitAnd
  | 3 => Builtin.bitOr
  | 4 => Builtin.bitXor
  | 5 => fun i j => if decide (i < j) then 1 else 0
  | 6 => fun i j => if decide (i = j) then 1 else 0
def sgN : Fin 7 → Str
  | 0 => "summed"
  | 1 => "taken_off"
  | 2 => "both_bits"
  | 3 => "either_bits"
  | 4 => "unlike_bits"
  | 5 => "is_lesser"
  | 6 => "are_same"
theorem fin7 : ∀ k : Fin 7, k = 0 ∨ k = 1 ∨ k = 2 ∨ k = 3 ∨ k = 4 ∨ k = 5 ∨ k = 6 := by decide
/-- what a name has -/
def nmV (nm : List (Str × Int)) (s : Str) : Int := (nm.lookup s).getD 0
def Wt.val (nm : List (Str × Int)) (cs : List Int) : Wt → Int
  | .num n => n
  | .nam s => nmV nm s
  | .cell e => cs.getD (e.val nm cs % 64).toNat 0
  | .neg e => if decide (e.val nm cs = 0) then 1 else 0
  | .two k a b => sgF k (a.val nm cs) (b.val nm cs)
def Wt.deep : Wt → Nat
  | .num _ => 1
  | .nam _ => 1
  | .cell e => e.deep + 1
  | .neg e => e.deep + 1
  | .two _ a b => max a.deep b.deep + 1
def Sq (K : PySem.W.Frag) (H : Hp) (p : Addr) (xs : List V) : Prop := SqT K H p xs ∨ SqL K H p xs
/-- a worth in the heap, by tuples or lists -/
def WtV (K : PySem.W.Frag) (H : Hp) : Wt → V → Prop
  | .num n, v => ∃ p, v = .ref p ∧ Sq K H p [.str "number", .int n]
  | .nam s, v => ∃ p, v = .ref p ∧ Sq K H p [.str "name", .str s]
  | .cell e, v => ∃ p x, v = .ref p ∧ Sq K H p [.str "cell", x] ∧ WtV K H e x
  | .neg e, v => ∃ p x, v = .ref p ∧ Sq K H p [.str "not", x] ∧ WtV K H e x
  | .two k a b, v => ∃ p x y, v = .ref p ∧ Sq K H p [.str (sgW k), x, y] ∧ WtV K H a x ∧ WtV K H b y
theorem Sq.smd {K : PySem.W.Frag} {H H' : Hp} {p : Addr} {xs : List V} (s : SmD H H') (h : Sq K H p xs) : Sq K H' p xs := h.elim (fun h => .inl (SqT.smd s h)) fun h => .inr (SqL.smd s h)
theorem WtV.smd {K : PySem.W.Frag} {H H' : Hp} (s : SmD H H') : ∀ {e : Wt} {v : V}, WtV K H e v → WtV K H' e v
  | .num n, _, ⟨p, e, h⟩ => ⟨p, e, h.smd s⟩
  | .nam _, _, ⟨p, e, h⟩ => ⟨p, e, h.smd s⟩
  | .cell _, _, ⟨p, x, e, h, i⟩ => ⟨p, x, e, h.smd s, WtV.smd s i⟩
  | .neg _, _, ⟨p, x, e, h, i⟩ => ⟨p, x, e, h.smd s, WtV.smd s i⟩
  | .two _ _ _, _, ⟨p, x, y, e, h, i, j⟩ => ⟨p, x, y, e, h.smd s, WtV.smd s i, WtV.smd s j⟩
theorem WtV.mono {K : PySem.W.Frag} {H H' : Hp} {e : Wt} {v : V} (s : Same H H') (h : WtV K H e v) : WtV K H' e v := h.smd s.smd
/-- as data, by tuples -/
def Wt.data : Wt → PyData
  | .num n => .tuple [.str "number", .int n]
  | .nam s => .tuple [.str "name", .str s]
  | .cell e => .tuple [.str "cell", e.data]
  | .neg e => .tuple [.str "not", e.data]
  | .two k a b => .tuple [.str (sgW k), a.data, b.data]
/-- names by their bytes -/
def nmK (nm : List (Str × Int)) : List (Key × V) := nm.map fun q => ((Sum.inr q.1 : Key), V.int q.2)
theorem nmK_get (s : Str) : ∀ nm : List (Str × Int), valV (nmK nm) (Sum.inr s) = (nm.lookup s).map V.int
  | [] => rfl
  | (j, x) :: r => by
    unfold nmK
    rw [List.map_cons]
    by_cases h : j = s
    · rw [valV_pos (p := ((Sum.inr j : Key), V.int x)) (by rw [h]), h, List.lookup_cons_self]
      rfl
    · rw [valV_neg (p := ((Sum.inr j : Key), V.int x)) (fun q => h (Sum.inr.inj q)), List.lookup_cons]
      have e : (s == j) = false := beq_eq_false_iff_ne.mpr fun q => h q.symm
      rw [e]
      exact nmK_get s r
theorem nmK_val (s : Str) (nm : List (Str × Int)) : (valV (nmK nm) (Sum.inr s)).getD (.int 0) = .int (nmV nm s) := by
  rw [nmK_get]
  unfold nmV
  cases nm.lookup s <;> rfl
/-! ## promises -/
def spSg (k : Fin 7) : Sp := fun vs H Q _ => ∃ i j : Int, vs = [.int i, .int j] ∧ Q (.int (sgF k i j)) H
def sp_summed (_ : PySem.W.Frag) (_ : World) : Sp := spSg 0
def sp_taken_off (_ : PySem.W.Frag) (_ : World) : Sp := spSg 1
def sp_both_bits (_ : PySem.W.Frag) (_ : World) : Sp := spSg 2
def sp_either_bits (_ : PySem.W.Frag) (_ : World) : Sp := spSg 3
def sp_unlike_bits (_ : PySem.W.Frag) (_ : World) : Sp := spSg 4
def sp_is_lesser (_ : PySem.W.Frag) (_ : World) : Sp := spSg 5
def sp_are_same (_ : PySem.W.Frag) (_ : World) : Sp := spSg 6
def sp_number_worth (_ : PySem.W.Frag) (_ : World) : Sp := fun vs H Q _ => ∃ (D : Addr) (x y : V) (i : Int), vs = [.ref D, x, y] ∧ H D = some (.lst [.int i]) ∧ Q (.int i) H
def sp_name_worth (_ : PySem.W.Frag) (_ : World) : Sp := fun vs H Q _ => ∃ (D p : Addr) (y : V) (s : Str) (nm : List (Str × Int)), vs = [.ref D, .ref p, y] ∧ H D = some (.lst [.str s]) ∧ Rd H p (.dK (nmK nm)) ∧ Q (.int (nmV nm s)) H
/-- names and cells, as they are handed -/
def Env (K : PySem.W.Frag) (H : Hp) (p : Addr) (c : V) (nm : List (Str × Int)) (cs : List Int) : Prop := Rd H p (.dK (nmK nm)) ∧ Code K H c cs ∧ cs.length = 64
theorem Env.mono {K : PySem.W.Frag} {H H' : Hp} {p : Addr} {c : V} {nm : List (Str × Int)} {cs : List Int} (s : Same H H') (h : Env K H p c nm cs) : Env K H' p c nm cs := ⟨h.1.imp (s _ _) fun ⟨o, e⟩ => ⟨o, s _ _ e⟩, Code.mono s h.2.1, h.2.2⟩
def spWo (K : PySem.W.Frag) : Nat → Sp
  | 0 => fun _ _ _ _ => False
  | n + 1 => fun vs H Q _ => ∃ (v : V) (e : Wt) (p : Addr) (c : V) (nm : List (Str × Int)) (cs : List Int), vs = [v, .ref p, c] ∧ WtV K H e v ∧ e.deep ≤ n + 1 ∧ Env K H p c nm cs ∧ ∀ H', Same H H' → Q (.int (e.val nm cs)) H'
def spCe (K : PySem.W.Frag) (n : Nat) : Sp := fun vs H Q _ => ∃ (D : Addr) (x : V) (e : Wt) (p : Addr) (c : V) (nm : List (Str × Int)) (cs : List Int), vs = [.ref D, .ref p, c] ∧ H D = some (.lst [x]) ∧ WtV K H e x ∧ e.deep ≤ n ∧ Env K H p c nm cs ∧
  ∀ H', Same H H' → Q (.int (cs.getD (e.val nm cs % 64).toNat 0)) H'
def spNo (K : PySem.W.Frag) (n : Nat) : Sp := fun vs H Q _ => ∃ (D : Addr) (x : V) (e : Wt) (p : Addr) (c : V) (nm : List (Str × Int)) (cs : List Int), vs = [.ref D, .ref p, c] ∧ H D = some (.lst [x]) ∧ WtV K H e x ∧ e.deep ≤ n ∧ Env K H p c nm cs ∧
  ∀ H', Same H H' → Q (.int (if decide (e.val nm cs = 0) then 1 else 0)) H'
abbrev sp_worth_of (K : PySem.W.Frag) (_ : World) : Sp := spWo K 24
def tblL (K : PySem.W.Frag) (w : World) (n : Nat) : List (Str × Sp) := [("number_worth", sp_number_worth K w), ("name_worth", sp_name_worth K w), ("summed", sp_summed K w), ("taken_off", sp_taken_off K w), ("both_bits", sp_both_bits K w), ("either_bits", sp_either_bits K w), ("unlike_bits", sp_unlike_bits K w), ("is_lesser", sp_is_lesser K w), ("are_same", sp_are_same K w), ("cell_worth", spCe K n), ("not_worth", spNo K n)]
def tblW (K : PySem.W.Frag) (w : World) (n : Nat) : Str → Option Sp := fun nm => (tblL K w n).lookup nm
abbrev signsT : List (Str × Str) := [("+", "summed"), ("-", "taken_off"), ("&", "both_bits"), ("|", "either_bits"), ("^", "unlike_bits"), ("<", "is_lesser"), ("=", "are_same")]
abbrev plainT : List (Str × Str) := [("number", "number_worth"), ("name", "name_worth"), ("cell", "cell_worth"), ("not", "not_worth")]
def gloK (K : PySem.W.Frag) (t : List (Str × Str)) : List (Key × V) := t.map fun p => (Sum.inr p.1, .ref (He.ga K p.2))
structure WorC (K : PySem.W.Frag) (w : World) : Prop where
  signs : KD K w (He.ga K "SIGNS") (gloK K signsT)
  plain : KD K w (He.ga K "PLAIN") (gloK K plainT)
section
variable {K : PySem.W.Frag} {w : World} {vs : List V} {H : Hp} {Q : VK} {E : XK}
theorem len_sg {k : Fin 7} (h : spSg k vs H Q E) : vs.length = 2 := by
  obtain ⟨_, _, rfl, _⟩ := h
  rfl
theorem len_summed (h : sp_summed K w vs H Q E) : vs.length = 2 := len_sg h
theorem len_taken_off (h : sp_taken_off K w vs H Q E) : vs.length = 2 := len_sg h
theorem len_both_bits (h : sp_both_bits K w vs H Q E) : vs.length = 2 := len_sg h
theorem len_either_bits (h : sp_either_bits K w vs H Q E) : vs.length = 2 := len_sg h
theorem len_unlike_bits (h : sp_unlike_bits K w vs H Q E) : vs.length = 2 := len_sg h
theorem len_is_lesser (h : sp_is_lesser K w vs H Q E) : vs.length = 2 := len_sg h
theorem len_are_same (h : sp_are_same K w vs H Q E) : vs.length = 2 := len_sg h
theorem len_number_worth (h : sp_number_worth K w vs H Q E) : vs.length = 3 := by
  obtain ⟨_, _, _, _, rfl, _⟩ := h
  rfl
theorem len_name_worth (h : sp_name_worth K w vs H Q E) : vs.length = 3 := by
  obtain ⟨_, _, _, _, _, rfl, _⟩ := h
  rfl
theorem len_cell_worth {n : Nat} (h : spCe K n vs H Q E) : vs.length = 3 := by
  obtain ⟨_, _, _, _, _, _, _, rfl, _⟩ := h
  rfl
theorem len_not_worth {n : Nat} (h : spNo K n vs H Q E) : vs.length = 3 := by
  obtain ⟨_, _, _, _, _, _, _, rfl, _⟩ := h
  rfl
theorem len_worth_of {n : Nat} (h : spWo K n vs H Q E) : vs.length = 3 := by
  cases n with
  | zero => cases h
  | succ n =>
    obtain ⟨_, _, _, _, _, _, rfl, _⟩ := h
    rfl
end
end Rl
namespace Rl
open PySem PySem.Spec PyProof.Rows L2
/-- number_worth: slots 0 rest, 1 names, 2 cells -/
def t_number_worth (K : PySem.W.Frag) (w : World) : TS :=
  (tRet (tOp (rIx K) (tVar 0) (tC (.int 0))))
abbrev N_number_worth : List Str := ["rest", "names", "cells"]

/-- name_worth: slots 0 rest, 1 names, 2 cells -/
def t_name_worth (K : PySem.W.Frag) (w : World) : TS :=
  (tRet (tDGet2 (tVar 1) (tOp (rIx K) (tVar 0) (tC (.int 0))) (tC (.int 0))))
abbrev N_name_worth : List Str := ["rest", "names", "cells"]

/-- summed: slots 0 one, 1 other -/
def t_summed (K : PySem.W.Frag) (w : World) : TS :=
  (tRet (tOp (rModA) (tOp (rAddA K) (tVar 0) (tVar 1)) (tC (.int 256))))
abbrev N_summed : List Str := ["one", "other"]

/-- taken_off: slots 0 one, 1 other -/
def t_taken_off (K : PySem.W.Frag) (w : World) : TS :=
  (tRet (tOp (rModA) (tOp (rSubA) (tVar 0) (tVar 1)) (tC (.int 256))))
abbrev N_taken_off : List Str := ["one", "other"]

/-- both_bits: slots 0 one, 1 other -/
def t_both_bits (K : PySem.W.Frag) (w : World) : TS :=
  (tRet (tOp (rAndA) (tVar 0) (tVar 1)))
abbrev N_both_bits : List Str := ["one", "other"]

/-- either_bits: slots 0 one, 1 other -/
def t_either_bits (K : PySem.W.Frag) (w : World) : TS :=
  (tRet (tOp (rOrA) (tVar 0) (tVar 1)))
abbrev N_either_bits : List Str := ["one", "other"]

/-- unlike_bits: slots 0 one, 1 other -/
def t_unlike_bits (K : PySem.W.Frag) (w : World) : TS :=
  (tRet (tOp (rXorA) (tVar 0) (tVar 1)))
abbrev N_unlike_bits : List Str := ["one", "other"]

/-- is_lesser: slots 0 one, 1 other -/
def t_is_lesser (K : PySem.W.Frag) (w : World) : TS :=
  (tRet (tCB (rInt1) (tCons (tOp (rLtA) (tVar 0) (tVar 1)) tNil)))
abbrev N_is_lesser : List Str := ["one", "other"]

/-- are_same: slots 0 one, 1 other -/
def t_are_same (K : PySem.W.Frag) (w : World) : TS :=
  (tRet (tCB (rInt1) (tCons (tOp (rEqA K) (tVar 0) (tVar 1)) tNil)))
abbrev N_are_same : List Str := ["one", "other"]

/-- cell_worth: slots 0 rest, 1 names, 2 cells -/
def t_cell_worth (K : PySem.W.Frag) (w : World) (rec : Sp) : TS :=
  (tRet (tOp (rIx K) (tVar 2) (tOp (rModA) (tCall rec [] E0 (tCons (tOp (rIx K) (tVar 0) (tC (.int 0))) (tCons (tVar 1) (tCons (tVar 2) tNil)))) (tC (.int 64)))))
abbrev N_cell_worth : List Str := ["rest", "names", "cells"]

/-- not_worth: slots 0 rest, 1 names, 2 cells -/
def t_not_worth (K : PySem.W.Frag) (w : World) (rec : Sp) : TS :=
  (tRet (tCB (rInt1) (tCons (tOp (rEqA K) (tCall rec [] E0 (tCons (tOp (rIx K) (tVar 0) (tC (.int 0))) (tCons (tVar 1) (tCons (tVar 2) tNil)))) (tC (.int 0))) tNil)))
abbrev N_not_worth : List Str := ["rest", "names", "cells"]

/-- worth_of: slots 0 e, 1 names, 2 cells, 3 word, 4 rest, 5 sign, 6 first, 7 second, 8 plain -/
def t_worth_of (K : PySem.W.Frag) (w : World) (rec : Sp) (dd : Str → Option Sp) : TS :=
  (tSeq (tAsg (tVar 0) (gStar K 2 (gCons (gName 3) (gCons (gName 4) gNil)))) (tSeq (tIfS (tTest (tOp (rInKD K w) (tVar 3) (tC (.ref (He.ga K "SIGNS"))))) (tSeq (tAsg (tOp (rIxKD K w) (tC (.ref (He.ga K "SIGNS"))) (tVar 3)) (gName 5)) (tSeq (tAsg (tVar 4) (gLst K 2 (gCons (gName 6) (gCons (gName 7) gNil)))) (tRet (tCallD K dd 5 (tCons (tCall rec [] E0 (tCons (tVar 6) (tCons (tVar 1) (tCons (tVar 2) tNil)))) (tCons (tCall rec [] E0 (tCons (tVar 7) (tCons (tVar 1) (tCons (tVar 2) tNil)))) tNil)))))) tNext) (tSeq (tAsg (tOp (rIxKD K w) (tC (.ref (He.ga K "PLAIN"))) (tVar 3)) (gName 8)) (tRet (tCallD K dd 8 (tCons (tVar 4) (tCons (tVar 1) (tCons (tVar 2) tNil))))))))
abbrev N_worth_of : List Str := ["e", "names", "cells", "word", "rest", "sign", "first", "second", "plain"]

end Rl
namespace Rl
open PySem PySem.Spec PyProof.Rows L2
/-! ## worths as data; names; bits -/
abbrev six : List Str := ["a", "b", "c", "d", "zero", "less"]
def Wt.Ok : Wt → Prop
  | .num n => 0 ≤ n ∧ n < 256
  | .nam s => s ∈ six
  | .cell e => e.Ok
  | .neg e => e.Ok
  | .two _ a b => a.Ok ∧ b.Ok
/-- as data, by lists -/
def Wt.dataL : Wt → PyData
  | .num n => .list [.str "number", .int n]
  | .nam s => .list [.str "name", .str s]
  | .cell e => .list [.str "cell", e.dataL]
  | .neg e => .list [.str "not", e.dataL]
  | .two k a b => .list [.str (sgW k), a.dataL, b.dataL]
section
variable {K : PySem.W.Frag} {H : Hp} {v : V} {d d2 : PyData} {s : Str}
theorem dp_tup2 (h : Dp K H v (.tuple [.str s, d])) : ∃ p x, v = .ref p ∧ SqT K H p [.str s, x] ∧ Dp K H x d := by
  obtain ⟨p, xs, rfl, hp, ha⟩ := dp_tup h
  cases ha with
  | cons a1 a2 =>
    cases a1
    cases a2 with
    | cons b1 b2 =>
      cases b2
      exact ⟨p, _, rfl, hp, b1⟩
theorem dp_tup3 (h : Dp K H v (.tuple [.str s, d, d2])) : ∃ p x y, v = .ref p ∧ SqT K H p [.str s, x, y] ∧ Dp K H x d ∧ Dp K H y d2 := by
  obtain ⟨p, xs, rfl, hp, ha⟩ := dp_tup h
  cases ha with
  | cons a1 a2 =>
    cases a1
    cases a2 with
    | cons b1 b2 =>
      cases b2 with
      | cons c1 c2 =>
        cases c2
        exact ⟨p, _, _, rfl, hp, b1, c1⟩
theorem dp_lst2 (h : Dp K H v (.list [.str s, d])) : ∃ p x, v = .ref p ∧ SqL K H p [.str s, x] ∧ Dp K H x d := by
  obtain ⟨p, xs, rfl, hp, ha⟩ := dp_lst h
  cases ha with
  | cons a1 a2 =>
    cases a1
    cases a2 with
    | cons b1 b2 =>
      cases b2
      exact ⟨p, _, rfl, hp, b1⟩
theorem dp_lst3 (h : Dp K H v (.list [.str s, d, d2])) : ∃ p x y, v = .ref p ∧ SqL K H p [.str s, x, y] ∧ Dp K H x d ∧ Dp K H y d2 := by
  obtain ⟨p, xs, rfl, hp, ha⟩ := dp_lst h
  cases ha with
  | cons a1 a2 =>
    cases a1
    cases a2 with
    | cons b1 b2 =>
      cases b2 with
      | cons c1 c2 =>
        cases c2
        exact ⟨p, _, _, rfl, hp, b1, c1⟩
theorem Wt.ofT : ∀ {e : Wt} {v : V}, Dp K H v e.data → WtV K H e v
  | .num n, v, h => by
    obtain ⟨p, x, rfl, hp, hx⟩ := dp_tup2 (show Dp K H v (.tuple [.str "number", .int n]) from h)
    cases hx
    exact ⟨p, rfl, .inl hp⟩
  | .nam s, v, h => by
    obtain ⟨p, x, rfl, hp, hx⟩ := dp_tup2 (show Dp K H v (.tuple [.str "name", .str s]) from h)
    cases hx
    exact ⟨p, rfl, .inl hp⟩
  | .cell e, v, h => by
    obtain ⟨p, x, rfl, hp, hx⟩ := dp_tup2 (show Dp K H v (.tuple [.str "cell", e.data]) from h)
    exact ⟨p, x, rfl, .inl hp, Wt.ofT hx⟩
  | .neg e, v, h => by
    obtain ⟨p, x, rfl, hp, hx⟩ := dp_tup2 (show Dp K H v (.tuple [.str "not", e.data]) from h)
    exact ⟨p, x, rfl, .inl hp, Wt.ofT hx⟩
  | .two k a b, v, h => by
    obtain ⟨p, x, y, rfl, hp, hx, hy⟩ := dp_tup3 (show Dp K H v (.tuple [.str (sgW k), a.data, b.data]) from h)
    exact ⟨p, x, y, rfl, .inl hp, Wt.ofT hx, Wt.ofT hy⟩
theorem Wt.ofL : ∀ {e : Wt} {v : V}, Dp K H v e.dataL → WtV K H e v
  | .num n, v, h => by
    obtain ⟨p, x, rfl, hp, hx⟩ := dp_lst2 (show Dp K H v (.list [.str "number", .int n]) from h)
    cases hx
    exact ⟨p, rfl, .inr hp⟩
  | .nam s, v, h => by
    obtain ⟨p, x, rfl, hp, hx⟩ := dp_lst2 (show Dp K H v (.list [.str "name", .str s]) from h)
    cases hx
    exact ⟨p, rfl, .inr hp⟩
  | .cell e, v, h => by
    obtain ⟨p, x, rfl, hp, hx⟩ := dp_lst2 (show Dp K H v (.list [.str "cell", e.dataL]) from h)
    exact ⟨p, x, rfl, .inr hp, Wt.ofL hx⟩
  | .neg e, v, h => by
    obtain ⟨p, x, rfl, hp, hx⟩ := dp_lst2 (show Dp K H v (.list [.str "not", e.dataL]) from h)
    exact ⟨p, x, rfl, .inr hp, Wt.ofL hx⟩
  | .two k a b, v, h => by
    obtain ⟨p, x, y, rfl, hp, hx, hy⟩ := dp_lst3 (show Dp K H v (.list [.str (sgW k), a.dataL, b.dataL]) from h)
    exact ⟨p, x, y, rfl, .inr hp, Wt.ofL hx, Wt.ofL hy⟩
end
/-! lists for tuples -/
def toL : Nat → PyData → PyData
  | n + 1, .tuple ds => .list (ds.map (toL n))
  | n + 1, .list ds => .list (ds.map (toL n))
  | _, d => d
/-- tuples, lists, texts and numbers, so deep at most -/
def SqD : Nat → PyData → Prop
  | 0, _ => False
  | n + 1, .tuple ds => ds.length < 1000 ∧ ∀ d ∈ ds, SqD n d
  | n + 1, .list ds => ds.length < 1000 ∧ ∀ d ∈ ds, SqD n d
  | _ + 1, .str _ => True
  | _ + 1, .int _ => True
  | _ + 1, _ => False
theorem toL_str (n : Nat) (s : Str) : toL n (.str s) = .str s := by cases n <;> rfl
theorem toL_int (n : Nat) (s : Int) : toL n (.int s) = .int s := by cases n <;> rfl
theorem Wt.toL_T : ∀ (e : Wt) (n : Nat), e.deep ≤ n → toL n e.data = e.dataL ∧ SqD (n + 1) e.data
  | .num i, n, h => by
    have h : 1 ≤ n := h
    obtain ⟨m, rfl⟩ : ∃ m, n = m + 1 := ⟨n - 1, by omega⟩
    refine ⟨?_, (by decide : (2 : Nat) < 1000), fun d hd => ?_⟩
    · show PyData.list [toL m (.str "number"), toL m (.int i)] = _
      rw [toL_str, toL_int]
      rfl
    · simp only [List.mem_cons, List.not_mem_nil, or_false] at hd
      rcases hd with rfl | rfl <;> exact True.intro
  | .nam i, n, h => by
    have h : 1 ≤ n := h
    obtain ⟨m, rfl⟩ : ∃ m, n = m + 1 := ⟨n - 1, by omega⟩
    refine ⟨?_, (by decide : (2 : Nat) < 1000), fun d hd => ?_⟩
    · show PyData.list [toL m (.str "name"), toL m (.str i)] = _
      rw [toL_str, toL_str]
      rfl
    · simp only [List.mem_cons, List.not_mem_nil, or_false] at hd
      rcases hd with rfl | rfl <;> exact True.intro
  | .cell e, n, h => by
    have h : e.deep + 1 ≤ n := h
    obtain ⟨m, rfl⟩ : ∃ m, n = m + 1 := ⟨n - 1, by omega⟩
    obtain ⟨i1, i2⟩ := Wt.toL_T e m (by omega)
    refine ⟨?_, (by decide : (2 : Nat) < 1000), fun d hd => ?_⟩
    · show PyData.list [toL m (.str "cell"), toL m e.data] = _
      rw [toL_str, i1]
      rfl
    · simp only [List.mem_cons, List.not_mem_nil, or_false] at hd
      rcases hd with rfl | rfl
      · exact True.intro
      · exact i2
  | .neg e, n, h => by
    have h : e.deep + 1 ≤ n := h
    obtain ⟨m, rfl⟩ : ∃ m, n = m + 1 := ⟨n - 1, by omega⟩
    obtain ⟨i1, i2⟩ := Wt.toL_T e m (by omega)
    refine ⟨?_, (by decide : (2 : Nat) < 1000), fun d hd => ?_⟩
    · show PyData.list [toL m (.str "not"), toL m e.data] = _
      rw [toL_str, i1]
      rfl
    · simp only [List.mem_cons, List.not_mem_nil, or_false] at hd
      rcases hd with rfl | rfl
      · exact True.intro
      · exact i2
  | .two k a b, n, h => by
    have h : max a.deep b.deep + 1 ≤ n := h
    obtain ⟨m, rfl⟩ : ∃ m, n = m + 1 := ⟨n - 1, by omega⟩
    obtain ⟨i1, i2⟩ := Wt.toL_T a m (by omega)
    obtain ⟨j1, j2⟩ := Wt.toL_T b m (by omega)
    refine ⟨?_, (by decide : (3 : Nat) < 1000), fun d hd => ?_⟩
    · show PyData.list [toL m (.str (sgW k)), toL m a.data, toL m b.data] = _
      rw [toL_str, i1, j1]
      rfl
    · simp only [List.mem_cons, List.not_mem_nil, or_false] at hd
      rcases hd with rfl | rfl | rfl
      · exact True.intro
      · exact i2
      · exact j2
theorem Wt.toL_L : ∀ (e : Wt) (n : Nat), e.deep ≤ n → toL n e.dataL = e.dataL ∧ SqD (n + 1) e.dataL
  | .num i, n, h => by
    have h : 1 ≤ n := h
    obtain ⟨m, rfl⟩ : ∃ m, n = m + 1 := ⟨n - 1, by omega⟩
    refine ⟨?_, (by decide : (2 : Nat) < 1000), fun d hd => ?_⟩
    · show PyData.list [toL m (.str "number"), toL m (.int i)] = _
      rw [toL_str, toL_int]
      rfl
    · simp only [List.mem_cons, List.not_mem_nil, or_false] at hd
      rcases hd with rfl | rfl <;> exact True.intro
  | .nam i, n, h => by
    have h : 1 ≤ n := h
    obtain ⟨m, rfl⟩ : ∃ m, n = m + 1 := ⟨n - 1, by omega⟩
    refine ⟨?_, (by decide : (2 : Nat) < 1000), fun d hd => ?_⟩
    · show PyData.list [toL m (.str "name"), toL m (.str i)] = _
      rw [toL_str, toL_str]
      rfl
    · simp only [List.mem_cons, List.not_mem_nil, or_false] at hd
      rcases hd with rfl | rfl <;> exact True.intro
  | .cell e, n, h => by
    have h : e.deep + 1 ≤ n := h
    obtain ⟨m, rfl⟩ : ∃ m, n = m + 1 := ⟨n - 1, by omega⟩
    obtain ⟨i1, i2⟩ := Wt.toL_L e m (by omega)
    refine ⟨?_, (by decide : (2 : Nat) < 1000), fun d hd => ?_⟩
    · show PyData.list [toL m (.str "cell"), toL m e.dataL] = _
      rw [toL_str, i1]
      rfl
    · simp only [List.mem_cons, List.not_mem_nil, or_false] at hd
      rcases hd with rfl | rfl
      · exact True.intro
      · exact i2
  | .neg e, n, h => by
    have h : e.deep + 1 ≤ n := h
    obtain ⟨m, rfl⟩ : ∃ m, n = m + 1 := ⟨n - 1, by omega⟩
    obtain ⟨i1, i2⟩ := Wt.toL_L e m (by omega)
    refine ⟨?_, (by decide : (2 : Nat) < 1000), fun d hd => ?_⟩
    · show PyData.list [toL m (.str "not"), toL m e.dataL] = _
      rw [toL_str, i1]
      rfl
    · simp only [List.mem_cons, List.not_mem_nil, or_false] at hd
      rcases hd with rfl | rfl
      · exact True.intro
      · exact i2
  | .two k a b, n, h => by
    have h : max a.deep b.deep + 1 ≤ n := h
    obtain ⟨m, rfl⟩ : ∃ m, n = m + 1 := ⟨n - 1, by omega⟩
    obtain ⟨i1, i2⟩ := Wt.toL_L a m (by omega)
    obtain ⟨j1, j2⟩ := Wt.toL_L b m (by omega)
    refine ⟨?_, (by decide : (3 : Nat) < 1000), fun d hd => ?_⟩
    · show PyData.list [toL m (.str (sgW k)), toL m a.dataL, toL m b.dataL] = _
      rw [toL_str, i1, j1]
      rfl
    · simp only [List.mem_cons, List.not_mem_nil, or_false] at hd
      rcases hd with rfl | rfl | rfl
      · exact True.intro
      · exact i2
      · exact j2
theorem so_sg (k : Fin 7) : PyData.strOk (sgW k) = true := by rcases fin7 k with rfl | rfl | rfl | rfl | rfl | rfl | rfl <;> decide +kernel
theorem so_six {s : Str} (h : s ∈ six) : PyData.strOk s = true := by
  simp only [List.mem_cons, List.not_mem_nil, or_false] at h
  rcases h with rfl | rfl | rfl | rfl | rfl | rfl <;> decide +kernel
theorem so_w1 : PyData.strOk ("number" : Str) = true := by decide +kernel
theorem so_w2 : PyData.strOk ("name" : Str) = true := by decide +kernel
theorem so_w3 : PyData.strOk ("cell" : Str) = true := by decide +kernel
theorem so_w4 : PyData.strOk ("not" : Str) = true := by decide +kernel
theorem Wt.shapeL : ∀ {e : Wt}, e.Ok → PyData.canLay0 e.dataL = true ∧ PyData.depth e.dataL ≤ e.deep
  | .num i, _ => by
    simp only [Wt.dataL, Wt.deep, PyData.canLay0, PyData.canLayAll0, so_w1, PyData.depth, PyData.depthAll]
    exact ⟨rfl, by decide⟩
  | .nam s, h => by
    simp only [Wt.dataL, Wt.deep, PyData.canLay0, PyData.canLayAll0, so_w2, so_six h, PyData.depth, PyData.depthAll]
    exact ⟨rfl, by decide⟩
  | .cell e, h => by
    obtain ⟨i1, i2⟩ := Wt.shapeL (e := e) h
    simp only [Wt.dataL, Wt.deep, PyData.canLay0, PyData.canLayAll0, so_w3, i1, PyData.depth, PyData.depthAll]
    exact ⟨rfl, by omega⟩
  | .neg e, h => by
    obtain ⟨i1, i2⟩ := Wt.shapeL (e := e) h
    simp only [Wt.dataL, Wt.deep, PyData.canLay0, PyData.canLayAll0, so_w4, i1, PyData.depth, PyData.depthAll]
    exact ⟨rfl, by omega⟩
  | .two k a b, h => by
    obtain ⟨i1, i2⟩ := Wt.shapeL (e := a) h.1
    obtain ⟨j1, j2⟩ := Wt.shapeL (e := b) h.2
    simp only [Wt.dataL, Wt.deep, PyData.canLay0, PyData.canLayAll0, so_sg, i1, j1, PyData.depth, PyData.depthAll]
    exact ⟨rfl, by omega⟩
theorem Wt.shaped {e : Wt} (h : e.Ok) (hd : e.deep ≤ 64) : SeqAt.shaped e.dataL = true := by
  obtain ⟨i1, i2⟩ := Wt.shapeL h
  unfold SeqAt.shaped
  rw [i1, Bool.true_and]
  exact decide_eq_true (by omega)
/-! names -/
def nmPut (nm : List (Str × Int)) (s : Str) (n : Int) : List (Str × Int) := if (nm.any fun q => decide (q.1 = s)) = true then nm.map (fun q => if q.1 = s then (q.1, n) else q) else nm ++ [(s, n)]
theorem nmK_put (nm : List (Str × Int)) (s : Str) (n : Int) : putK (nmK nm) (Sum.inr s) (.int n) = nmK (nmPut nm s n) := by
  unfold putK nmPut nmK
  have e : ((nm.map fun q => ((Sum.inr q.1 : Key), V.int q.2)).any fun kv => decide (kv.1 = Sum.inr s)) = nm.any fun q => decide (q.1 = s) := by
    rw [List.any_map]
    congr 1
    funext q
    by_cases h : q.1 = s
    · simp [h]
    · simp [h]
  rw [e]
  split
  · rw [List.map_map, List.map_map]
    congr 1
    funext q
    by_cases h : q.1 = s
    · simp [h]
    · simp [h]
  · rw [List.map_append]
    rfl
theorem nmV_eq {nm nm' : List (Str × Int)} {s : Str} (h : valV (nmK nm) (Sum.inr s) = valV (nmK nm') (Sum.inr s)) : nmV nm s = nmV nm' s := by
  rw [nmK_get, nmK_get] at h
  unfold nmV
  cases e1 : nm.lookup s with
  | none =>
    cases e2 : nm'.lookup s with
    | none => rfl
    | some y =>
      rw [e1, e2] at h
      cases h
  | some x =>
    cases e2 : nm'.lookup s with
    | none =>
      rw [e1, e2] at h
      cases h
    | some y =>
      rw [e1, e2] at h
      cases h
      rfl
theorem nmV_put (nm : List (Str × Int)) (s t : Str) (n : Int) : nmV (nmPut nm s n) t = if t = s then n else nmV nm t := by
  have e := valV_put (nmK nm) (Sum.inr s) (Sum.inr t) (.int n)
  rw [nmK_put, nmK_get, nmK_get] at e
  unfold nmV
  by_cases h : t = s
  · rw [if_pos (by rw [h])] at e
    rw [if_pos h]
    cases q : (nmPut nm s n).lookup t <;> rw [q] at e
    · cases e
    · cases e
      rfl
  · rw [if_neg (fun z => h (Sum.inr.inj z))] at e
    rw [if_neg h]
    cases q : (nmPut nm s n).lookup t with
    | none =>
      cases q2 : nm.lookup t with
      | none => rfl
      | some y =>
        rw [q, q2] at e
        cases e
    | some x =>
      cases q2 : nm.lookup t with
      | none =>
        rw [q, q2] at e
        cases e
      | some y =>
        rw [q, q2] at e
        cases e
        rfl
theorem nmPut_len (nm : List (Str × Int)) (s : Str) (n : Int) : (nmPut nm s n).length ≤ nm.length + 1 := by
  unfold nmPut
  split
  · rw [List.length_map]
    omega
  · rw [List.length_append]
    exact Nat.le_refl _
theorem nmPut_keys (nm : List (Str × Int)) (s : Str) (n : Int) : (nmPut nm s n).map (·.1) = if s ∈ nm.map (·.1) then nm.map (·.1) else nm.map (·.1) ++ [s] := by
  unfold nmPut
  have e : ((nm.any fun q => decide (q.1 = s)) = true) ↔ s ∈ nm.map (·.1) := by
    rw [List.any_eq_true, List.mem_map]
    exact ⟨fun ⟨q, h1, h2⟩ => ⟨q, h1, of_decide_eq_true h2⟩, fun ⟨q, h1, h2⟩ => ⟨q, h1, decide_eq_true h2⟩⟩
  by_cases h : s ∈ nm.map (·.1)
  · rw [if_pos (e.mpr h), if_pos h, List.map_map]
    congr 1
    funext q
    show (if q.1 = s then (q.1, n) else q).1 = q.1
    split <;> rfl
  · rw [if_neg (fun z => h (e.mp z)), if_neg h, List.map_append]
    rfl
/-- bytes by unlike names -/
structure NmG (nm : List (Str × Int)) (k : Nat) : Prop where
  by_ : ∀ q ∈ nm, 0 ≤ q.2 ∧ q.2 < 256
  nd : (nm.map (·.1)).Nodup
  len : nm.length ≤ k
theorem NmG.nil : NmG [] 0 := ⟨fun q h => (by cases h), List.nodup_nil, Nat.le_refl _⟩
theorem NmG.mono {nm : List (Str × Int)} {k j : Nat} (h : NmG nm k) (e : k ≤ j) : NmG nm j := ⟨h.by_, h.nd, Nat.le_trans h.len e⟩
theorem NmG.put {nm : List (Str × Int)} {k : Nat} {s : Str} {n : Int} (h : NmG nm k) (h0 : 0 ≤ n) (h1 : n < 256) : NmG (nmPut nm s n) (k + 1) := by
  refine ⟨fun q hq => ?_, ?_, Nat.le_trans (nmPut_len _ _ _) (Nat.succ_le_succ h.len)⟩
  · unfold nmPut at hq
    split at hq
    · obtain ⟨p, hp, rfl⟩ := List.mem_map.mp hq
      split
      · exact ⟨h0, h1⟩
      · exact h.by_ p hp
    · rcases List.mem_append.mp hq with z | z
      · exact h.by_ q z
      · rw [List.mem_singleton.mp z]
        exact ⟨h0, h1⟩
  · rw [nmPut_keys]
    split
    · exact h.nd
    · rename_i z
      rw [List.nodup_append]
      refine ⟨h.nd, List.nodup_cons.mpr ⟨fun y => (by cases y), List.nodup_nil⟩, fun a ha b hb e => ?_⟩
      rw [List.mem_singleton.mp hb] at e
      exact z (e ▸ ha)
theorem lookup_mem2 {nm : List (Str × Int)} {s : Str} {n : Int} (h : nm.lookup s = some n) : (s, n) ∈ nm := lookup_mem h
theorem NmG.val {nm : List (Str × Int)} {k : Nat} (h : NmG nm k) (s : Str) : 0 ≤ nmV nm s ∧ nmV nm s < 256 := by
  unfold nmV
  cases e : nm.lookup s with
  | none => exact ⟨by decide, by decide⟩
  | some n => exact h.by_ _ (lookup_mem2 e)
theorem nodup_lookup : ∀ {nm : List (Str × Int)}, (nm.map (·.1)).Nodup → ∀ q ∈ nm, nm.lookup q.1 = some q.2
  | [], _, q, h => by cases h
  | p :: r, nd, q, h => by
    rw [List.map_cons, List.nodup_cons] at nd
    rw [List.lookup_cons]
    rcases List.mem_cons.mp h with rfl | h
    · rw [show (q.1 == q.1) = true from beq_self_eq_true _]
    · have e : (q.1 == p.1) = false := beq_eq_false_iff_ne.mpr fun z => nd.1 (z ▸ List.mem_map_of_mem h)
      rw [e]
      exact nodup_lookup nd.2 q h
/-- the dict is like its copy -/
theorem NmG.same {nm : List (Str × Int)} {k : Nat} (h : NmG nm k) : ∀ p ∈ nmK nm, valV (nmK nm) p.1 = some p.2 ∧ flatB p.2 = true := fun p hp => by
  obtain ⟨q, hq, rfl⟩ := List.mem_map.mp hp
  refine ⟨?_, rfl⟩
  rw [nmK_get, nodup_lookup h.nd q hq]
  rfl
def nmMerge (nm more : List (Str × Int)) : List (Str × Int) := more.foldl (fun acc q => nmPut acc q.1 q.2) nm
theorem nmK_merge : ∀ (more nm : List (Str × Int)), mergeK (nmK nm) (nmK more) = nmK (nmMerge nm more)
  | [], nm => rfl
  | q :: r, nm => by
    show mergeK (putK (nmK nm) (Sum.inr q.1) (.int q.2)) (nmK r) = _
    rw [nmK_put, nmK_merge r]
    rfl
theorem nmV_merge (t : Str) : ∀ (more nm : List (Str × Int)), (more.map (·.1)).Nodup → nmV (nmMerge nm more) t = if t ∈ more.map (·.1) then nmV more t else nmV nm t
  | [], nm, _ => by
    rw [if_neg (fun z => by cases z)]
    rfl
  | q :: r, nm, nd => by
    rw [List.map_cons, List.nodup_cons] at nd
    show nmV (nmMerge (nmPut nm q.1 q.2) r) t = _
    rw [nmV_merge t r _ nd.2, nmV_put, List.map_cons]
    have e : nmV (q :: r) t = if t = q.1 then q.2 else nmV r t := by
      unfold nmV
      rw [List.lookup_cons]
      by_cases h : t = q.1
      · rw [if_pos h, show (t == q.1) = true from by rw [h]; exact beq_self_eq_true _]
        rfl
      · rw [if_neg h, show (t == q.1) = false from beq_eq_false_iff_ne.mpr h]
    rw [e]
    by_cases h : t = q.1
    · subst h
      rw [if_neg nd.1, if_pos rfl, if_pos (List.mem_cons_self ..)]
      rw [if_pos rfl]
    · rw [if_neg h]
      by_cases h2 : t ∈ r.map (·.1)
      · rw [if_pos h2, if_pos (List.mem_cons_of_mem _ h2), if_neg h]
      · rw [if_neg h2, if_neg (fun z => (List.mem_cons.mp z).elim h h2)]
theorem nmV_none {nm : List (Str × Int)} {t : Str} (h : t ∉ nm.map (·.1)) : nmV nm t = 0 := by
  unfold nmV
  cases e : nm.lookup t with
  | none => rfl
  | some n => exact absurd (List.mem_map_of_mem (f := (·.1)) (lookup_mem2 e)) h
/-- what is filled anew by all of the other one is as that one -/
theorem nmV_update {nm : List (Str × Int)} {k : Nat} (h : NmG nm k) (s : Str) (n : Int) (h0 : 0 ≤ n) (h1 : n < 256) (t : Str) : nmV (nmMerge nm (nmPut nm s n)) t = nmV (nmPut nm s n) t := by
  rw [nmV_merge t _ _ (h.put h0 h1).nd]
  split
  · rfl
  · rename_i z
    rw [nmV_none z]
    refine nmV_none fun y => z ?_
    rw [nmPut_keys]
    split
    · exact y
    · exact List.mem_append_left _ y
theorem Wt.val_eq {nm nm' : List (Str × Int)} {cs : List Int} (h : ∀ s, nmV nm s = nmV nm' s) : ∀ e : Wt, e.val nm cs = e.val nm' cs
  | .num _ => rfl
  | .nam s => h s
  | .cell e => by
    unfold Wt.val
    rw [Wt.val_eq h e]
  | .neg e => by
    unfold Wt.val
    rw [Wt.val_eq h e]
  | .two k a b => by
    unfold Wt.val
    rw [Wt.val_eq h a, Wt.val_eq h b]
/-! bits -/
theorem fin3w : ∀ k : Fin 3, k = 0 ∨ k = 1 ∨ k = 2 := by decide
def bitN : Fin 3 → Nat → Nat → Nat
  | 0 => fun a b => a &&& b
  | 1 => fun a b => a ||| b
  | 2 => fun a b => a ^^^ b
def bitB : Fin 3 → Bool → Bool → Bool
  | 0 => fun a b => a && b
  | 1 => fun a b => a || b
  | 2 => fun a b => a ^^ b
theorem bitN_test (k : Fin 3) (a b i : Nat) : (bitN k a b).testBit i = bitB k (a.testBit i) (b.testBit i) := by
  rcases fin3w k with rfl | rfl | rfl
  · exact Nat.testBit_and a b i
  · exact Nat.testBit_or a b i
  · exact Nat.testBit_xor a b i
theorem bitN_lt (k : Fin 3) {a b : Nat} (ha : a < 256) (hb : b < 256) : bitN k a b < 256 := by
  rcases fin3w k with rfl | rfl | rfl
  · exact Nat.and_lt_two_pow a (n := 8) hb
  · exact Nat.or_lt_two_pow (n := 8) ha hb
  · exact Nat.xor_lt_two_pow (n := 8) ha hb
theorem bit_step (x i : Nat) : x % 2 ^ (i + 1) = x % 2 ^ i + (if x.testBit i then 1 else 0) * 2 ^ i := by
  rw [Nat.pow_succ, Nat.mod_mul, Nat.testBit_eq_decide_div_mod_eq]
  rcases Nat.mod_two_eq_zero_or_one (x / 2 ^ i) with h | h <;> simp [h]
def sgB : Fin 3 → Fin 7
  | 0 => 2
  | 1 => 3
  | 2 => 4
theorem sgF_bits (k : Fin 3) {i j : Int} (h0 : 0 ≤ i) (h1 : 0 ≤ j) : sgF (sgB k) i j = (bitN k i.toNat j.toNat : Nat) := by
  rcases fin3w k with rfl | rfl | rfl
  · exact bitAnd_pp h0 h1
  · show Builtin.bitOr i j = _
    rw [bitOr_and, bitAnd_pp h0 h1]
    have z := nat_or_add_and i.toNat j.toNat
    show _ = ((i.toNat ||| j.toNat : Nat) : Int)
    omega
  · exact Bits.bitXor_pp h0 h1
theorem sg_byte (k : Fin 7) {i j : Int} (h0 : 0 ≤ i) (h1 : i < 256) (h2 : 0 ≤ j) (h3 : j < 256) : 0 ≤ sgF k i j ∧ sgF k i j < 256 := by
  have bits : ∀ b : Fin 3, 0 ≤ sgF (sgB b) i j ∧ sgF (sgB b) i j < 256 := fun b => by
    rw [sgF_bits b h0 h2]
    have z := bitN_lt b (a := i.toNat) (b := j.toNat) (by omega) (by omega)
    omega
  rcases fin7 k with rfl | rfl | rfl | rfl | rfl | rfl | rfl
  · exact ⟨Int.emod_nonneg _ (by decide), Int.emod_lt_of_pos _ (by decide)⟩
  · exact ⟨Int.emod_nonneg _ (by decide), Int.emod_lt_of_pos _ (by decide)⟩
  · exact bits 0
  · exact bits 1
  · exact bits 2
  · show 0 ≤ (if decide (i < j) then (1 : Int) else 0) ∧ (if decide (i < j) then (1 : Int) else 0) < 256
    split <;> decide
  · show 0 ≤ (if decide (i = j) then (1 : Int) else 0) ∧ (if decide (i = j) then (1 : Int) else 0) < 256
    split <;> decide
theorem getD_byte {cs : List Int} (h : By cs) (k : Nat) : 0 ≤ cs.getD k 0 ∧ cs.getD k 0 < 256 := by
  rw [List.getD_eq_getElem?_getD]
  cases e : cs[k]? with
  | none => exact ⟨by decide, by decide⟩
  | some n => exact h n (List.mem_of_getElem? e)
theorem Wt.byte {nm : List (Str × Int)} {cs : List Int} {j : Nat} (hn : NmG nm j) (hc : By cs) : ∀ {e : Wt}, e.Ok → 0 ≤ e.val nm cs ∧ e.val nm cs < 256
  | .num _, h => h
  | .nam s, _ => hn.val s
  | .cell e, _ => getD_byte hc _
  | .neg e, _ => by
    show 0 ≤ (if decide (e.val nm cs = 0) then (1 : Int) else 0) ∧ (if decide (e.val nm cs = 0) then (1 : Int) else 0) < 256
    split <;> decide
  | .two k a b, h => by
    obtain ⟨a0, a1⟩ := Wt.byte hn hc (e := a) h.1
    obtain ⟨b0, b1⟩ := Wt.byte hn hc (e := b) h.2
    exact sg_byte k a0 a1 b0 b1
end Rl
namespace Rl
open PySem PySem.Spec PyProof.Rows L2 NdefX LamX
/-! ## as Hold, for two captured names -/
section
variable {X : Cx} {pins : List (Addr × Obj)} {σ : L2.St} {H : Hp} {s : Shared}
/-- x(e, ..), x a def of the top: the names in the slots j1, j2 stand in the cells c1, c2, tracked while the callee runs -/
def tCallC2 (K : PySem.W.Frag) (c1 c2 : Addr) (j1 j2 : Nat) (sp : Sp) (t : TA) : TE := fun σ H Q => t σ H fun vs H1 => ∃ a1 a2, σ[j1]? = some (some (.ref a1)) ∧ σ[j2]? = some (some (.ref a2)) ∧ a1 ≠ a2 ∧
  ∀ o1 o2 : Obj, o1.data = .cell (some (.ref a1)) → o2.data = .cell (some (.ref a2)) → K.lookup c1 = none → K.lookup c2 = none → H1 c1 = none → H1 c2 = none → c1 ≠ c2 → sp vs (upd (upd H1 c1 (CellO c1 o1)) c2 (CellO c2 o2)) (fun v H2 => H2 c1 = some (CellO c1 o1) ∧ H2 c2 = some (CellO c2 o2) ∧ Q v (but c1 (but c2 H2))) E0
theorem is_cell {c : Addr} {y : Str} {a : Addr} {j : Nat} (I : Inv X pins σ H s) (hN : X.N[j]? = some y) (hs : σ[j]? = some (some (.ref a))) (hy : X.env.scope.names.lookup y = some .cell) (hc : X.env.cells.lookup y = some c) : s.heap.IsCell c (some (.ref a)) := by
  obtain ⟨m, _, look⟩ := I.loc
  obtain ⟨u, ru, lk⟩ := look j y (.ref a) hN hs (.inr (.inl hy))
  obtain rfl : u = Value.ref a := ru
  rcases lk with ⟨z, _⟩ | ⟨_, c', hc', z⟩
  · have z' : X.env.scope.names.lookup y = some .local := z
    rw [hy] at z'
    cases z'
  · rw [hc] at hc'
    cases hc'
    exact z
theorem pe_callC2 {k k' j1 j2 : Nat} {x y1 y2 : Str} {sp : Sp} {c1 c2 : Addr} {t : TA} {e : Expr} {es : List Expr} {p pos : Pos} (F : Cl X.prog X.w X.K X.mg X.base k x sp) (hr : Room k' X.A) (hk : k ≤ k') (hg : Gl X x) (hN1 : X.N[j1]? = some y1) (hN2 : X.N[j2]? = some y2) (hy1 : X.env.scope.names.lookup y1 = some .cell) (hy2 : X.env.scope.names.lookup y2 = some .cell) (hc1 : X.env.cells.lookup y1 = some c1) (hc2 : X.env.cells.lookup y2 = some c2) (hgt1 : X.env.locals < c1) (hgt2 : X.env.locals < c2) (ha : PA X (e :: es) t)
    (hdb : (x == ("__debug__" : Str)) = false := by decide) (he : starEach (e :: es) X.env = (false, eval e X.env) :: starEach es X.env := by rfl) (hpl : (backTo pos (starEach es X.env)).any (·.1) = false := by rfl) :
    PE X (.Call (.Name x p) (e :: es) [] pos) (tCallC2 X.K c1 c2 j1 j2 sp t) := by
  obtain ⟨f, fd, ps, Fn, hm, kp, b⟩ := F.ex
  refine ⟨fun pins s σ H Q I h => wpAny_Call_Name_kw (ld_glob I hg hm ?_ hdb)⟩
  refine PySem.W.callWith_K (h₀ := X.base) I.ok.mod.kin kp (thn (ha.run pos pins s σ H _ I h) fun us s1 ⟨vs, H1, I1, r, a1, a2, hs1, hs2, na, q⟩ => ⟨I1.kIn, ?_⟩) he hpl
  obtain ⟨o1, go1, od1⟩ := is_cell I1 hN1 hs1 hy1 hc1
  obtain ⟨o2, go2, od2⟩ := is_cell I1 hN2 hs2 hy2 hc2
  have nc : c1 ≠ c2 := fun z => by
    subst z
    rw [go1] at go2
    cases go2
    rw [od1] at od2
    cases od2
    exact na rfl
  have n1 : H1 c1 = none := I1.freeC y1 c1 hc1
  have n2 : H1 c2 = none := I1.freeC y2 c2 hc2
  have n2' : (upd H1 c1 (CellO c1 o1)) c2 = none := by rw [upd_ne nc.symm]; exact n2
  obtain ⟨nb1, nf1⟩ := cell_out I1 hgt1
  obtain ⟨nb2, nf2⟩ := cell_out I1 hgt2
  have e0 := I1.env0
  have e1 : Env0 X.prog X.w X.K X.mg X.base X.A X.stack s1 (upd (upd H1 c1 (CellO c1 o1)) c2 (CellO c2 o2)) := by
    refine ⟨e0.frames, e0.mod, fun b v z => ?_, e0.bsz, e0.funs, fun b z => ?_, hok_cell (hok_cell e0.hok n1 go1) n2' go2, e0.bare⟩
    · have h1 : b ≠ c1 := fun y => by
        rw [y, nb1] at z
        cases z
      have h2 : b ≠ c2 := fun y => by
        rw [y, nb2] at z
        cases z
      rw [upd_ne h2, upd_ne h1]
      exact e0.bs b v z
    · rw [upd_ne fun (y : b = c2) => nf2 (y ▸ z), upd_ne fun (y : b = c1) => nf1 (y ▸ z)]
      exact e0.frf b z
  have nk : ∀ {c : Addr}, X.base.get? c = none → X.K.lookup c = none := fun {c} nb => by
    cases z : X.K.lookup c with
    | none => rfl
    | some v =>
      have y := I1.ok.mod.kin c v z
      rw [nb] at y
      cases y
  have sp1 := q o1 o2 od1 od2 (nk nb1) (nk nb2) n1 n2 nc
  have hl := Fn.len _ _ _ _ sp1
  have bd : BindsTo s1 fd ⟨us, []⟩ (ps.zip us) := by
    have z := b s1 us I1.kIn (by rw [List.append_nil, ← r.length]; exact hl)
    rw [List.append_nil] at z
    exact z
  refine wpAny_call (codeAny_mono (Fn.run X.A X.stack s1 _ ⟨us, []⟩ us vs _ _ (hr.mono hk) e1 bd r sp1) fun r s' hq => ?_)
  cases r with
  | error e => exact hq.elim
  | ok fl =>
    cases fl with
    | ret u =>
      obtain ⟨v, H', os, bare, un, hok, rv, k1, k2, k3⟩ := hq
      have un2 := un_back un n2' go2 k2 hok
      have hok2 := hok_but hok k2
      have k1' : (but c2 H') c1 = some (CellO c1 o1) := but_get nc k1
      exact I1.after ⟨v, but c1 (but c2 H'), os, bare, un_back un2 n1 go1 k1' hok2, hok_but hok2 k1', rv, k3⟩
    | next => exact False.elim hq
    | brk => exact False.elim hq
    | cont => exact False.elim hq
/-- x(e, ..), the slot i holds a def made elsewhere whose two captured names stand in tracked cells -/
def tCallH2 (i : Nat) (y1 y2 : Str) (T : NF → (Addr → Addr → Sp) → Prop) (t : TA) : TE := fun σ H Q => ∃ (f : Addr) (F : NF) (sp : Addr → Addr → Sp) (c1 c2 : Addr) (o1 o2 : Obj) (a1 a2 : Addr), σ[i]? = some (some (.ref f)) ∧ T F sp ∧
  ((∀ z d, F.cl.lookup z = some d → (z = y1 ∧ d = c1) ∨ (z = y2 ∧ d = c2)) ∧ F.cl.lookup y1 = some c1 ∧ F.cl.lookup y2 = some c2) ∧ o1.data = .cell (some (.ref a1)) ∧ o2.data = .cell (some (.ref a2)) ∧ c1 ≠ c2 ∧ H f = some (FnO f F) ∧
  t σ H fun vs H1 => H1 f = some (FnO f F) ∧ H1 F.c = some (CodeO F.c F.qual) ∧ H1 c1 = some (CellO c1 o1) ∧ H1 c2 = some (CellO c2 o2) ∧ (f ≠ c1 ∧ f ≠ c2) ∧ (F.c ≠ c1 ∧ F.c ≠ c2) ∧ sp a1 a2 vs (but c1 (but c2 H1)) (fun v H2 => H2 c1 = none → H2 c2 = none → Q v (upd (upd H2 c1 (CellO c1 o1)) c2 (CellO c2 o2))) E0
/-- a nested def's promise, its captured names' objects told -/
abbrev spCap2 (sp : Addr → Addr → Sp) : List (Option V) → Sp := fun ws vs H Q E => ∃ a1 a2, ws = [some (.ref a1), some (.ref a2)] ∧ sp a1 a2 vs H Q E
theorem pe_callH2 {k k' i : Nat} {x y1 y2 : Str} {T : NF → (Addr → Addr → Sp) → Prop} {ps : List Str} {t : TA} {e : Expr} {es : List Expr} {p pos : Pos} (Fn : ∀ f F sp, T F sp → NOk X.prog X.w X.K X.mg X.base CX0 k f F ps [y1, y2] (spCap2 sp)) (hr : Room k' X.A) (hk : k ≤ k') (hN : X.N[i]? = some x) (hv : Vis X.env.scope x) (ha : PA X (e :: es) t) (hyy : y1 ≠ y2 := by decide)
    (hdb : (x == ("__debug__" : Str)) = false := by decide) (hcd : (x == ("__classdict__" : Str)) = false := by decide)
    (he : starEach (e :: es) X.env = (false, eval e X.env) :: starEach es X.env := by rfl) (hpl : (backTo pos (starEach es X.env)).any (·.1) = false := by rfl) :
    PE X (.Call (.Name x p) (e :: es) [] pos) (tCallH2 i y1 y2 T t) := by
  refine ⟨fun pins s σ H Q I h => ?_⟩
  obtain ⟨f, F, sp, c1, c2, o1, o2, a1, a2, hs, hT, ⟨hcl, hl1, hl2⟩, od1, od2, nc, hf, ht⟩ := h
  have var := (pe_var (X := X) (i := i) (pos := p) hN hv hdb hcd).run pins s σ H (fun v H1 => v = .ref f ∧ H1 = H) I ⟨.ref f, hs, rfl, rfl⟩
  refine wpAny_Call_Name_kw (thn var fun u s1 ⟨v, H1, I1, r1, ev, eH⟩ => ?_)
  subst eH
  subst ev
  obtain rfl : u = Value.ref f := r1
  refine PySem.W.callWith_F (first := []) (fnAt_of I1 hf) (thn (ha.run pos pins s1 σ H1 _ I1 ht) fun us s2 ⟨vs, H2, I2, r, h1, h2, h3, h4, n1, n2, q⟩ => ⟨fnAt_of I2 h1, ?_⟩) he hpl
  show wpAny _ _ (call (.ref f) us) _ _ _
  have e0 := I2.env0
  have go1 : s2.heap.get? c1 = some o1 := cellO_at e0.hok h3
  have go2 : s2.heap.get? c2 = some o2 := cellO_at e0.hok h4
  have nf1 : c1 ∉ frs X.stack := fun z => by
    have y := e0.frf c1 z
    rw [h3] at y
    cases y
  have nf2 : c2 ∉ frs X.stack := fun z => by
    have y := e0.frf c2 z
    rw [h4] at y
    cases y
  have lt : ∀ {c : Addr} {H : Hp} (b : Addr), H b = none → but c H b = none := fun {c H} b z => by
    unfold but
    split
    · rfl
    · exact z
  have h3' : (but c2 H2) c1 = some (CellO c1 o1) := but_get nc h3
  have hokB := hok_but (hok_but e0.hok h4) h3'
  have e1 : Env0 X.prog X.w X.K X.mg X.base X.A X.stack s2 (but c1 (but c2 H2)) := ⟨e0.frames, e0.mod, fun b v z => ⟨(e0.bs b v z).1, lt b (lt b (e0.bs b v z).2)⟩, e0.bsz, e0.funs, fun b z => lt b (lt b (e0.frf b z)), hokB, e0.bare⟩
  have n2' : (but c1 (but c2 H2)) c2 = none := lt _ but_none
  have C : CellsAt F.cl [y1, y2] [some (.ref a1), some (.ref a2)] s2.heap (but c1 (but c2 H2)) := by
    refine ⟨rfl, fun z d g => ?_, fun z1 z2 d g1 g2 => ?_, fun i z g => ?_⟩
    · rcases hcl z d g with ⟨_, rfl⟩ | ⟨_, rfl⟩
      · exact ⟨but_none, _, o1, go1, od1⟩
      · exact ⟨n2', _, o2, go2, od2⟩
    · rcases hcl z1 d g1 with ⟨rfl, rfl⟩ | ⟨rfl, rfl⟩
      · rcases hcl z2 _ g2 with ⟨h, _⟩ | ⟨_, h⟩
        · exact h.symm
        · exact absurd h nc
      · rcases hcl z2 _ g2 with ⟨_, h⟩ | ⟨h, _⟩
        · exact absurd h.symm nc
        · exact h.symm
    · match i, g with
      | 0, g =>
        obtain rfl : y1 = z := Option.some.inj g
        refine ⟨c1, hl1, fun v ev => ⟨.ref a1, ?_, o1, go1, od1⟩⟩
        have e2 : V.ref a1 = v := Option.some.inj (Option.some.inj ev)
        rw [← e2]
        rfl
      | 1, g =>
        obtain rfl : y2 = z := Option.some.inj g
        refine ⟨c2, hl2, fun v ev => ⟨.ref a2, ?_, o2, go2, od2⟩⟩
        have e2 : V.ref a2 = v := Option.some.inj (Option.some.inj ev)
        rw [← e2]
        rfl
      | i + 2, g => cases g
  refine wpAny_call (codeAny_mono ((Fn f F sp hT).run X.A X.stack s2 _ us vs _ _ _ (hr.mono hk) e1 (but_get n1.1 (but_get n1.2 h1)) (but_get n2.1 (but_get n2.2 h2)) C r ⟨a1, a2, rfl, q⟩) fun r s' hq => ?_)
  cases r with
  | error e => exact hq.elim
  | ok fl =>
    cases fl with
    | ret u =>
      obtain ⟨v, H', os, bare, un, hok, rv, k1⟩ := hq
      obtain ⟨u1, u2, u3⟩ := un_held un h3' go1 nf1 (fun z => by cases z)
      obtain ⟨w1, w2, w3⟩ := un_held u3 h4 go2 nf2 (fun z => by cases z)
      have u2' : H' c2 = none := by
        rw [upd_ne nc.symm] at w2
        exact w2
      exact I2.after ⟨v, _, os, bare, w3, hok_cell (hok_cell hok u2 u1) w2 w1, rv, k1 u2 u2'⟩
    | next => exact False.elim hq
    | brk => exact False.elim hq
    | cont => exact False.elim hq
end
end Rl
/-! short words: rd goes through a reading as far as it can; hx, sq find what stands in a heap -/
local macro_rules | `(tactic| lcg_sub) => `(tactic| first
  | with_reducible assumption
  | with_reducible exact L2.upd_same
  | ((with_reducible apply Rl.upd_get); (focus (with_reducible assumption)); lcg_sub)
  | ((with_reducible apply Rl.upd_mut); (focus (with_reducible assumption)); lcg_sub)
  | ((with_reducible apply Rl.Fx.at); (focus (with_reducible assumption)); (focus (with_reducible assumption)); lcg_sub))
local macro_rules | `(tactic| lcg_off) => `(tactic| first
  | with_reducible assumption
  | with_reducible exact Rl.same_upd (by with_reducible assumption)
  | with_reducible exact Rl.Same.but (Rl.same_upd (by with_reducible assumption))
  | with_reducible exact Rl.Same.but (by with_reducible assumption))
local macro_rules | `(tactic| k_subL) => `(tactic| first
  | with_reducible assumption
  | with_reducible exact L2.Same.refl _
  | ((with_reducible apply Rl.sm_bmut); k_subL)
  | ((with_reducible apply Rl.sm_new); (focus (with_reducible assumption)); k_subL)
  | ((with_reducible apply Rl.sm_bnew); (focus (with_reducible assumption)); k_subL)
  | ((with_reducible apply Rl.sm_by); (focus (with_reducible assumption)); k_subL)
  | ((with_reducible apply Rl.sm_bby); (focus (with_reducible assumption)); k_subL)
  | ((with_reducible apply Rl.Same.mut); (focus (with_reducible assumption)); k_subL)
  | ((with_reducible apply Rl.Fx.same); (focus (with_reducible assumption)); (focus (with_reducible assumption)); k_subL))
local macro_rules | `(tactic| lcg_src) => `(tactic| first
  | with_reducible assumption
  | ((with_reducible apply L2.SqL.of); lcg_sub; done)
  | ((with_reducible apply L2.SqT.of); lcg_sub; done)
  | ((with_reducible apply Rl.SqL.mono); (focus (lcg_off)); lcg_src)
  | ((with_reducible apply Rl.SqT.mono); (focus (lcg_off)); lcg_src)
  | ((with_reducible apply Rl.Dp.mono); (focus (lcg_off)); lcg_src)
  | ((with_reducible apply Rl.Code.mono); (focus (lcg_off)); lcg_src))
local macro_rules | `(tactic| k_caughtN0) => `(tactic| first
  | assumption
  | (refine Nat.le_trans (m := 1000) (by simp only [List.length_cons, List.length_nil]; omega) (by decide))
  | omega)
local macro_rules | `(tactic| k_caughtB) => `(tactic| first
  | assumption
  | decide
  | omega)
local macro_rules | `(tactic| k_clsL) => `(tactic| first
  | exact Rl.R.cmul1 (by omega) (by omega)
  | exact Rl.R.cmul2 (by omega) (by omega)
  | exact Rl.R.cmul2 (by decide) (by decide)
  | exact Rl.R.cmul1 (by decide) (by decide))
local macro_rules | `(tactic| k_offL) => `(tactic| first
  | exact Rl.R.cdivL (by decide)
  | exact Rl.R.cdiv (by first | assumption | omega) (by first | assumption | omega))
local macro_rules | `(tactic| k_caught0) => `(tactic| repeat (first
  | with_reducible refine Rl.R.var ?_
  | with_reducible refine Rl.R.c ?_
  | with_reducible refine Rl.R.op ?_
  | with_reducible refine Rl.R.cons ?_
  | with_reducible refine Rl.R.nil ?_
  | with_reducible refine Rl.R.asg ?_
  | with_reducible refine Rl.R.gName ?_
  | with_reducible refine Rl.R.seq ?_
  | with_reducible refine Rl.R.cb ?_
  | with_reducible refine Rl.R.test ?_
  | with_reducible refine Rl.R.bl ?_
  | with_reducible refine Rl.R.eqIx ?_
  | with_reducible refine Rl.R.eqI ?_
  | with_reducible refine Rl.R.addI ?_
  | with_reducible refine Rl.R.ifS ?_
  | with_reducible refine Rl.R.next ?_
  | with_reducible refine Rl.R.tB' ?_
  | with_reducible refine Rl.R.ret ?_
  | with_reducible refine Rl.R.iT ?_
  | with_reducible refine Rl.R.iF ?_
  | with_reducible refine Rl.R.iFO ?_
  | with_reducible refine Rl.R.iTO ?_
  | with_reducible refine Rl.R.iTA ?_
  | with_reducible refine Rl.R.iFA ?_
  | ((with_reducible refine Rl.R.iDT ?_ ?_); (focus (exact rfl)))
  | with_reducible refine Rl.R.call ?_
  | with_reducible refine Rl.R.bm ?_
  | with_reducible refine Rl.R.rev ?_
  | ((with_reducible apply Rl.R.tyL); (focus (lcg_sub; done)))
  | with_reducible refine Rl.R.lstRg ?_
  | with_reducible refine Rl.R.rg1 ?_
  | with_reducible refine Rl.R.rg2 ?_
  | with_reducible refine Rl.R.exII ?_
  | with_reducible refine Rl.R.strIter ?_
  | with_reducible refine Rl.R.pairsC ?_
  | with_reducible refine Rl.R.pairsN ?_
  | with_reducible refine Rl.R.dget ?_
  | with_reducible refine Rl.R.inS ?_
  | with_reducible refine Rl.R.app ?_
  | with_reducible refine Rl.R.tup ?_
  | with_reducible refine Rl.R.lst ?_
  | with_reducible refine Rl.R.subI ?_
  | with_reducible refine Rl.R.ltI ?_
  | with_reducible refine Rl.R.leI ?_
  | with_reducible refine Rl.R.gtI ?_
  | with_reducible refine Rl.R.geI ?_
  | with_reducible refine Rl.R.eqSx ?_
  | with_reducible refine Rl.R.eqBx ?_
  | with_reducible refine Rl.R.neBx ?_
  | with_reducible refine Rl.R.neIx ?_
  | with_reducible refine Rl.R.neSx ?_
  | with_reducible refine Rl.R.isNb ?_
  | with_reducible refine Rl.R.isNs ?_
  | with_reducible refine Rl.R.notNb ?_
  | with_reducible refine Rl.R.notNs ?_
  | with_reducible refine Rl.R.eqS ?_
  | with_reducible refine Rl.R.notNr ?_
  | with_reducible refine Rl.R.notNn ?_
  | with_reducible refine Rl.R.notNi ?_
  | with_reducible refine Rl.R.isNr ?_
  | with_reducible refine Rl.R.isNn ?_
  | with_reducible refine Rl.R.isNi ?_
  | with_reducible refine Rl.R.intI ?_
  | with_reducible refine Rl.R.intB ?_
  | with_reducible refine Rl.R.neI ?_
  | with_reducible refine Rl.R.neS ?_
  | with_reducible refine Rl.R.eqB ?_
  | with_reducible refine Rl.R.neB ?_
  | with_reducible refine Rl.R.and3 ?_
  | with_reducible refine Rl.R.shr4 ?_
  | with_reducible refine Rl.R.shr2 ?_
  | with_reducible refine Rl.R.orI ?_
  | with_reducible refine Rl.R.xorI ?_
  | with_reducible refine Rl.R.ifE ?_
  | with_reducible refine Rl.R.par ?_
  | with_reducible refine Rl.R.par3 ?_
  | with_reducible refine Rl.R.ex2 ?_
  | with_reducible refine Rl.R.ex3 ?_
  | with_reducible refine Rl.R.not' ?_
  | with_reducible refine Rl.R.iNot ?_
  | with_reducible refine Rl.R.sl ?_
  | with_reducible refine Rl.R.noPart ?_
  | with_reducible refine Rl.R.part ?_
  | with_reducible refine Rl.R.exI ?_
  | with_reducible refine Rl.R.abs' ?_
  | with_reducible refine Rl.R.min2 ?_
  | with_reducible refine Rl.R.max2 ?_
  | with_reducible refine Rl.R.drop ?_
  | with_reducible refine Rl.R.retN ?_
  | with_reducible refine Rl.R.gSub ?_
  | with_reducible refine Rl.R.for' ?_
  | with_reducible refine Rl.R.seqIter ?_
  | with_reducible refine Rl.R.rng1 ?_
  | with_reducible refine Rl.R.rng2 ?_
  | with_reducible refine Rl.R.aug ?_
  | with_reducible refine Rl.R.ipA ?_
  | with_reducible refine Rl.R.un ?_
  | with_reducible refine Rl.R.neg ?_
  | with_reducible refine Rl.R.tru ?_
  | with_reducible refine Rl.R.yes ?_
  | with_reducible refine Rl.R.andV ?_
  | with_reducible refine Rl.R.orV ?_
  | with_reducible refine Rl.R.notV ?_
  | with_reducible refine Rl.R.isN ?_
  | with_reducible refine Rl.R.notN ?_
  | ((with_reducible refine Rl.R.and15 ?_ ?_); (focus (k_caughtB)))
  | with_reducible refine Rl.R.andI ?_
  | ((with_reducible refine Rl.R.modI ?_ ?_); (focus (k_caughtB)))
  | ((with_reducible refine Rl.R.shrI ?_ ?_); (focus (k_caughtB)))
  | ((with_reducible apply Rl.R.inKDi); (focus assumption))
  | ((with_reducible apply Rl.R.inKDs); (focus assumption))
  | ((with_reducible apply Rl.R.isiD); (focus (lcg_src; done)); (focus (first | exact (rfl : _ = some false) | exact (rfl : _ = some true))))
  | ((with_reducible apply Rl.R.lenLI); (focus (lcg_src; done)))
  | ((with_reducible apply Rl.R.lenTI); (focus (lcg_src; done)))
  | ((with_reducible apply Rl.R.lenL); (focus (lcg_src; done)))
  | ((with_reducible apply Rl.R.lenT); (focus (lcg_src; done)))
  | ((with_reducible apply Rl.R.lenC); (focus (lcg_src; done)))
  | ((with_reducible apply Rl.R.setL); (focus (lcg_sub; done)); (focus (exact rfl)))
  | ((with_reducible apply Rl.R.ixT0); (focus (lcg_src; done)))
  | ((with_reducible apply Rl.R.ixT1); (focus (lcg_src; done)))
  | ((with_reducible apply Rl.R.ixL0); (focus (lcg_src; done)))
  | ((with_reducible apply Rl.R.ixL1); (focus (lcg_src; done)))
  | ((with_reducible apply Rl.R.ixL); (focus (lcg_src; done)); (focus (exact rfl)))
  | ((with_reducible apply Rl.R.ixT); (focus (lcg_src; done)); (focus (exact rfl)))
  | ((with_reducible refine Rl.R.powI ?_ ?_); (focus (exact Rl.R.cpow (by decide))))
  | ((with_reducible refine Rl.R.mulI ?_ ?_); (focus (k_clsL; done)))
  | ((with_reducible refine Rl.R.divI ?_ ?_); (focus (k_offL; done)))
  | ((with_reducible apply Rl.R.andB); (focus (intro QB h; k_caught0; exact h)); (focus (intro hb QB h; k_caught0; exact h)))
  | ((with_reducible apply Rl.R.orB); (focus (intro QB h; k_caught0; exact h)); (focus (intro hb QB h; k_caught0; exact h)))
  | ((with_reducible apply Rl.R.chainB); (focus (intro Q h; k_caught0; exact h)); (focus (intro Q h; k_caught0; exact h)); (focus (intro Q h; k_caught0; exact h)); (focus (intro hb Q h; k_caught0; exact h)); (focus (intro hb Q h; k_caught0; exact h)))))
namespace Rl
open PySem PySem.Spec PyProof.Rows L2
section
variable {K : PySem.W.Frag} {w : World}
theorem fx_mut {r : Addr} {H : Hp} {o : HO} : Fx r H (upd H r o) := sm_bmut (Same.refl _)
theorem pure_law_draw {F : Prop} (_ : F) {vs : List V} {H : Hp} {Q : VK} {E : XK} (h : sp_law_draw K w vs H Q E) : t_law_draw K w { nx := fun _ H' => Q .non H', rt := Q } (start N_law_draw vs) H := by
  obtain ⟨r, m, rfl, ⟨a, b, c, g, a0, b0, b1⟩, m0, m1, q⟩ := h
  unfold t_law_draw
  k_caught0
  refine R.iD (fun h0 => ?_) (fun h0 => ?_)
  · k_caught0
    exact q _ _ fx_mut ⟨a / m, b, c, upd_same, Int.ediv_nonneg a0 (Int.le_of_lt m0), b0, b1⟩ (Int.emod_nonneg _ (by omega)) (Int.emod_lt_of_pos _ m0)
  · k_caught0
    generalize hz : (b * b % 2305843009213693951 + 7919 * (c + 1) * b + 104729) % 2305843009213693951 = z
    have z0 : 0 ≤ z := by rw [← hz]; exact Int.emod_nonneg _ (by decide)
    have z1 : z < 2305843009213693951 := by rw [← hz]; exact Int.emod_lt_of_pos _ (by decide)
    exact q _ _ (fx_mut.trans fx_mut) ⟨a, z, c + 1, upd_same, a0, z0, z1⟩ (Int.emod_nonneg _ (by omega)) (Int.emod_lt_of_pos _ m0)
theorem log_lt {n : Nat} {k : Nat} (h : n < 2 ^ k) : n.log2 < k + 1 := by
  cases n with
  | zero =>
    show Nat.log2 0 < k + 1
    rw [Nat.log2_zero]
    omega
  | succ n => exact Nat.lt_succ_of_lt ((Nat.log2_lt (Nat.succ_ne_zero n)).mpr h)
/-- ten to the sixtieth, i times -/
def tenP (i : Nat) : Nat := 10 ^ (60 * i)
theorem tenP_up (i : Nat) : tenP i ≤ tenP (i + 1) := Nat.pow_le_pow_right (by decide) (by omega)
theorem tenP_succ (i : Nat) : tenP (i + 1) = tenP i * tenP 1 := by
  unfold tenP
  rw [Nat.mul_add, Nat.pow_add]
theorem tenP_log {n i : Nat} (h : n < tenP i) : n.log2 < 4 * (60 * i) + 1 := by
  refine log_lt (Nat.lt_of_lt_of_le h ?_)
  unfold tenP
  rw [Nat.pow_mul 2 4]
  exact Nat.pow_le_pow_left (by decide) _
theorem tenP_one : (10 : Int) ^ (60 : Int).toNat = (tenP 1 : Int) := by decide +kernel
theorem tenP_one_log : ((tenP 1 : Nat) : Int).natAbs.log2 < 1000 := by decide +kernel
theorem tenP_pos : (0 : Int) < (tenP 1 : Int) := by decide +kernel
theorem pure_law_spring {F : Prop} (_ : F) {vs : List V} {H : Hp} {Q : VK} {E : XK} (h : sp_law_spring K w vs H Q E) : t_law_spring K w { nx := fun _ H' => Q .non H', rt := Q } (start N_law_spring vs) H := by
  obtain ⟨s, ns, rfl, hs, hl, q⟩ := h
  unfold t_law_spring
  refine R.seq (R.asg (R.c (R.gName ?_)))
  refine R.seq (R.asg (R.c (R.gName ?_)))
  refine R.seq (R.for' (R.seqIter (R.sl (R.var (R.noPart (R.part (R.c (R.exI ?_)))))))) 
  refine R.slToI hs (by decide) fun l hl2 => ?_
  have s1 : Same H (upd H l (.lst ((ns.take (63 : Int).toNat).map V.int))) := same_upd hl2
  have gl : (upd H l (.lst ((ns.take (63 : Int).toNat).map V.int))) l = some (.lst ((ns.take (63 : Int).toNat).map V.int)) := upd_same
  generalize upd H l (.lst ((ns.take (63 : Int).toNat).map V.int)) = H1 at s1 gl ⊢
  have ht : (ns.take (63 : Int).toNat).length ≤ 63 := by
    rw [List.length_take]
    omega
  refine R.forLI (ns := ns.take (63 : Int).toNat) (fun i σ H' => ∃ (f st : Int) (x : Option V), σ = [some (.ref s), some (.int f), some (.int st), x] ∧ Same H1 H' ∧ 0 ≤ f ∧ f < (tenP i : Int) ∧ 0 ≤ st ∧ st < 2305843009213693951) (SqL.of gl)
    ⟨0, 88651, _, rfl, Same.refl _, Int.le_refl _, by decide, by decide, by decide⟩ (fun i σ H' _ z => by
      obtain ⟨_, _, _, _, z, _⟩ := z
      exact SqL.of (z _ _ gl)) ?_ ?_
  · rintro i c σ H' _ _ hi ⟨f, st, x, rfl, sH, f0, f1, st0, st1⟩
    have i63 : i < 63 := by omega
    refine R.gName ?_
    have up := tenP_up i
    have e60 := tenP_succ i
    refine R.seq (R.joinS (fun σ H' => ∃ f2 : Int, σ = [some (.ref s), some (.int f2), some (.int st), some (.int c)] ∧ Same H1 H' ∧ 0 ≤ f2 ∧ f2 < (tenP (i + 1) : Int)) ?_ fun N key => ?_)
    · rintro σ H2 ⟨f2, rfl, s2, h0, h1⟩
      refine R.asg (R.op (R.op (R.op (R.op (R.var (R.c (R.mulI (R.cmul2 (by decide) (by decide)) ?_)))))))
      refine R.op (R.var (R.c (R.modI (by decide) ?_)))
      refine R.addI (R.c (R.addI (R.c (R.modI (by decide) (R.gName ?_)))))
      exact ⟨f2, _, _, rfl, s2, h0, h1, Int.emod_nonneg _ (by decide), Int.emod_lt_of_pos _ (by decide)⟩
    · refine R.ifS (R.test (R.op (R.cb (R.cons (R.var (R.nil (R.abs' ?_)))))))
      refine R.op (R.c (R.c (R.powI (R.cpow (by decide)) (R.geI (R.bl ?_)))))
      generalize hab : (if c < 0 then -c else c) = ab
      refine R.iD (fun hg => ?_) (fun hg => R.next (key _ _ ⟨f, rfl, sH, f0, by omega⟩))
      refine R.asg (R.op (R.op (R.var (R.op (R.c (R.c (R.powI (R.cpow (by decide)) ?_)))))))
      rw [tenP_one]
      refine R.mulI (.inr ?_) ?_
      · show f.natAbs.log2 + ((tenP 1 : Nat) : Int).natAbs.log2 < 1000000
        have h1 : f.natAbs < tenP i := by omega
        have h2 := tenP_log h1
        have h3 := tenP_one_log
        omega
      refine R.op (R.cb (R.cons (R.var (R.nil (R.abs' ?_)))))
      refine R.op (R.c (R.c (R.powI (R.cpow (by decide)) ?_)))
      rw [hab, tenP_one]
      refine R.modI tenP_pos (R.addI (R.gName ?_))
      have q60 := tenP_pos
      generalize tenP 1 = P at e60 q60 ⊢
      have r0 := Int.emod_nonneg ab (Int.ne_of_gt q60)
      have r1 := Int.emod_lt_of_pos ab q60
      refine key _ _ ⟨_, rfl, sH, Int.add_nonneg (Int.mul_nonneg f0 (Int.le_of_lt q60)) r0, ?_⟩
      rw [e60, Int.natCast_mul]
      have m1 : (f + 1) * (P : Int) ≤ (tenP i : Int) * (P : Int) := Int.mul_le_mul_of_nonneg_right (by omega) (Int.le_of_lt q60)
      rw [Int.add_mul, Int.one_mul] at m1
      exact Int.lt_of_lt_of_le (Int.add_lt_add_left r1 _) m1
  · rintro σ H' ⟨f, st, x, rfl, sH, f0, f1, st0, st1⟩
    refine R.ret (R.lst (R.cons (R.var (R.cons (R.var (R.cons (R.c (R.nil ⟨by k_caughtN0, fun r hr => ?_⟩))))))))
    exact q r _ (s1.trans (sH.trans (same_upd hr))) (s1.free (sH.free hr)) ⟨f, st, 0, upd_same, f0, st0, st1⟩
end
end Rl
namespace Rl
open PySem PySem.Spec PyProof.Rows L2
/-! ## the seven signs -/
section
variable {K : PySem.W.Frag} {w : World} {vs : List V} {H : Hp} {Q : VK} {E : XK}
theorem pure_summed {F : Prop} (_ : F) (h : sp_summed K w vs H Q E) : t_summed K w { nx := fun _ H' => Q .non H', rt := Q } (start N_summed vs) H := by
  obtain ⟨i, j, rfl, q⟩ := h
  exact R.ret (R.op (R.op (R.var (R.var (R.addI (R.c (R.modI (by decide) q)))))))
theorem pure_taken_off {F : Prop} (_ : F) (h : sp_taken_off K w vs H Q E) : t_taken_off K w { nx := fun _ H' => Q .non H', rt := Q } (start N_taken_off vs) H := by
  obtain ⟨i, j, rfl, q⟩ := h
  exact R.ret (R.op (R.op (R.var (R.var (R.subI (R.c (R.modI (by decide) q)))))))
theorem pure_both_bits {F : Prop} (_ : F) (h : sp_both_bits K w vs H Q E) : t_both_bits K w { nx := fun _ H' => Q .non H', rt := Q } (start N_both_bits vs) H := by
  obtain ⟨i, j, rfl, q⟩ := h
  exact R.ret (R.op (R.var (R.var (R.andI q))))
theorem pure_either_bits {F : Prop} (_ : F) (h : sp_either_bits K w vs H Q E) : t_either_bits K w { nx := fun _ H' => Q .non H', rt := Q } (start N_either_bits vs) H := by
  obtain ⟨i, j, rfl, q⟩ := h
  exact R.ret (R.op (R.var (R.var (R.orI q))))
theorem pure_unlike_bits {F : Prop} (_ : F) (h : sp_unlike_bits K w vs H Q E) : t_unlike_bits K w { nx := fun _ H' => Q .non H', rt := Q } (start N_unlike_bits vs) H := by
  obtain ⟨i, j, rfl, q⟩ := h
  exact R.ret (R.op (R.var (R.var (R.xorI q))))
theorem pure_is_lesser {F : Prop} (_ : F) (h : sp_is_lesser K w vs H Q E) : t_is_lesser K w { nx := fun _ H' => Q .non H', rt := Q } (start N_is_lesser vs) H := by
  obtain ⟨i, j, rfl, q⟩ := h
  exact R.ret (R.cb (R.cons (R.op (R.var (R.var (R.ltI (R.nil (R.intB q))))))))
theorem pure_are_same {F : Prop} (_ : F) (h : sp_are_same K w vs H Q E) : t_are_same K w { nx := fun _ H' => Q .non H', rt := Q } (start N_are_same vs) H := by
  obtain ⟨i, j, rfl, q⟩ := h
  exact R.ret (R.cb (R.cons (R.op (R.var (R.var (R.eqI (R.nil (R.intB q))))))))
end
end Rl
namespace Rl
open PySem PySem.Spec PyProof.Rows L2
/-! ## worths: the program's side -/
section
variable {K : PySem.W.Frag} {w : World} {vs : List V} {H : Hp} {Q : VK} {E : XK}
theorem pure_number_worth (F : WorC K w) (h : sp_number_worth K w vs H Q E) : t_number_worth K w { nx := fun _ H' => Q .non H', rt := Q } (start N_number_worth vs) H := by
  obtain ⟨D, x, y, i, rfl, g, q⟩ := h
  exact R.ret (R.op (R.var (R.c (R.ixL0 (SqL.of g) q))))
theorem pure_name_worth (F : WorC K w) (h : sp_name_worth K w vs H Q E) : t_name_worth K w { nx := fun _ H' => Q .non H', rt := Q } (start N_name_worth vs) H := by
  obtain ⟨D, p, y, s, nm, rfl, g, gp, q⟩ := h
  refine R.ret (R.var ⟨p, rfl, .inl ⟨_, gp⟩, R.op (R.var (R.c (R.ixL0 (SqL.of g) (R.c ⟨_, .inl ⟨nmK nm, Sum.inr s, gp, rfl, rfl⟩, ?_⟩))))⟩)
  rw [nmK_val]
  exact q
theorem deep_pos (e : Wt) : 0 < e.deep := by
  cases e <;> (unfold Wt.deep; omega)
theorem getD_of {cs : List Int} {k : Nat} {m : Int} (h : cs[k]? = some m) : cs.getD k 0 = m := by
  rw [List.getD_eq_getElem?_getD, h]
  rfl
/-- a worth asked anew, one less deep -/
theorem wo_call {n : Nat} {x : V} {e : Wt} {p : Addr} {c : V} {nm : List (Str × Int)} {cs : List Int} (hv : WtV K H e x) (hd : e.deep ≤ n) (env : Env K H p c nm cs) (q : ∀ H', Same H H' → Q (.int (e.val nm cs)) H') : spWo K n ([x, .ref p, c] ++ []) H Q E := by
  have := deep_pos e
  obtain ⟨m, rfl⟩ : ∃ m, n = m + 1 := ⟨n - 1, by omega⟩
  exact ⟨x, e, p, c, nm, cs, rfl, hv, hd, env, q⟩
theorem pure_cell_worth {n : Nat} (F : WorC K w) (h : spCe K n vs H Q E) : t_cell_worth K w (spWo K n) { nx := fun _ H' => Q .non H', rt := Q } (start N_cell_worth vs) H := by
  obtain ⟨D, x, e, p, c, nm, cs, rfl, g, hv, hd, env, q⟩ := h
  refine R.ret (R.op (R.var (R.op (R.call (R.cons (R.op (R.var (R.c (R.ixL0 (SqL.of g) (R.cons (R.var (R.cons (R.var (R.nil (wo_call hv hd env fun H1 s1 => R.c (R.modI (by decide) ?_))))))))))))))))
  have e0 := Int.emod_nonneg (e.val nm cs) (show (64 : Int) ≠ 0 by decide)
  have e1 := Int.emod_lt_of_pos (e.val nm cs) (show (0 : Int) < 64 by decide)
  refine R.ixC (Code.mono s1 env.2.1) e0 (by rw [env.2.2]; exact e1) fun m hm _ => ?_
  have z := q H1 s1
  rw [getD_of hm] at z
  exact z
theorem pure_not_worth {n : Nat} (F : WorC K w) (h : spNo K n vs H Q E) : t_not_worth K w (spWo K n) { nx := fun _ H' => Q .non H', rt := Q } (start N_not_worth vs) H := by
  obtain ⟨D, x, e, p, c, nm, cs, rfl, g, hv, hd, env, q⟩ := h
  exact R.ret (R.cb (R.cons (R.op (R.call (R.cons (R.op (R.var (R.c (R.ixL0 (SqL.of g) (R.cons (R.var (R.cons (R.var (R.nil (wo_call hv hd env fun H1 s1 => R.c (R.eqI (R.nil (R.intB (q H1 s1)))))))))))))))))))
/-- word, *rest = e -/
theorem wo_start {t : Addr} {p : Addr} {c : V} {wd : Str} {rest : List V} {nx bk ct : L2.St → Hp → Prop} {rt : VK} {u : TS} (ht : Sq K H t (.str wd :: rest)) (hl : rest.length ≤ 100)
    (q : ∀ D, H D = none → u ⟨nx, rt, bk, ct⟩ [some (.ref t), some (.ref p), some c, some (.str wd), some (.ref D), none, none, none, none] (upd H D (.lst rest))) :
    tSeq (tAsg (tVar 0) (gStar K 2 (gCons (gName 3) (gCons (gName 4) gNil)))) u ⟨nx, rt, bk, ct⟩ (start N_worth_of [.ref t, .ref p, c]) H := by
  refine R.seq (R.asg (R.var (R.gStar (i := 1) ht (by rw [List.length_cons]; omega) (by rw [List.length_cons]; omega) fun D hD => ?_)))
  exact ⟨.str wd, [.ref D], rfl, R.gName ⟨.ref D, [], rfl, R.gName ⟨rfl, q D hD⟩⟩⟩
theorem wo_plain {n : Nat} {t p : Addr} {c : V} {wd nm : Str} {rest : List V} {sp : Sp} (F : WorC K w) (ht : Sq K H t (.str wd :: rest)) (hl : rest.length ≤ 100) (h1 : (valV (gloK K signsT) (Sum.inr wd)).isSome = false) (h2 : valV (gloK K plainT) (Sum.inr wd) = some (.ref (He.ga K nm)))
    (h3 : tblW K w n nm = some sp) (q : ∀ D H', Same H H' → H' D = some (.lst rest) → sp [.ref D, .ref p, c] H' Q E0) : t_worth_of K w (spWo K n) (tblW K w n) { nx := fun _ H' => Q .non H', rt := Q } (start N_worth_of [.ref t, .ref p, c]) H := by
  unfold t_worth_of
  refine wo_start ht hl fun D hD => ?_
  refine R.seq (R.ifS (R.test (R.op (R.var (R.c (R.inKDs F.signs (R.bl ?_)))))))
  rw [h1]
  refine R.iF (R.next (R.seq (R.asg (R.op (R.c (R.var (R.ixKDs F.plain h2 (R.gName ?_))))))))
  exact R.ret (R.callD ⟨nm, sp, rfl, h3, R.cons (R.var (R.cons (R.var (R.cons (R.var (R.nil (R.app (q D _ (same_upd hD) upd_same)))))))) ⟩)
theorem pure_worth_of {n : Nat} (F : WorC K w) (h : spWo K (n + 1) vs H Q E) : t_worth_of K w (spWo K n) (tblW K w n) { nx := fun _ H' => Q .non H', rt := Q } (start N_worth_of vs) H := by
  obtain ⟨v, e, p, c, nm, cs, rfl, hv, hd, env, q⟩ := h
  cases e with
  | num i =>
    obtain ⟨t, rfl, ht⟩ := hv
    exact wo_plain F ht (Nat.le_of_ble_eq_true rfl) rfl rfl rfl fun D H' s g => ⟨D, _, _, i, rfl, g, q H' s⟩
  | nam z =>
    obtain ⟨t, rfl, ht⟩ := hv
    exact wo_plain F ht (Nat.le_of_ble_eq_true rfl) rfl rfl rfl fun D H' s g => ⟨D, p, _, z, nm, rfl, g, env.1.imp (s _ _) fun ⟨o, e⟩ => ⟨o, s _ _ e⟩, q H' s⟩
  | cell a =>
    obtain ⟨t, x, rfl, ht, ha⟩ := hv
    exact wo_plain F ht (Nat.le_of_ble_eq_true rfl) rfl rfl rfl fun D H' s g => ⟨D, x, a, p, c, nm, cs, rfl, g, WtV.mono s ha, by unfold Wt.deep at hd; omega, env.mono s, fun H2 s2 => q H2 (s.trans s2)⟩
  | neg a =>
    obtain ⟨t, x, rfl, ht, ha⟩ := hv
    exact wo_plain F ht (Nat.le_of_ble_eq_true rfl) rfl rfl rfl fun D H' s g => ⟨D, x, a, p, c, nm, cs, rfl, g, WtV.mono s ha, by unfold Wt.deep at hd; omega, env.mono s, fun H2 s2 => q H2 (s.trans s2)⟩
  | two k a b =>
    obtain ⟨t, x, y, rfl, ht, ha, hb⟩ := hv
    have d1 : a.deep ≤ n := by unfold Wt.deep at hd; omega
    have d2 : b.deep ≤ n := by unfold Wt.deep at hd; omega
    unfold t_worth_of
    refine wo_start ht (Nat.le_of_ble_eq_true rfl) fun D hD => ?_
    have h1 : valV (gloK K signsT) (Sum.inr (sgW k)) = some (.ref (He.ga K (sgN k))) := by rcases fin7 k with rfl | rfl | rfl | rfl | rfl | rfl | rfl <;> rfl
    have h3 : tblW K w n (sgN k) = some (spSg k) := by rcases fin7 k with rfl | rfl | rfl | rfl | rfl | rfl | rfl <;> rfl
    refine R.seq (R.ifS (R.test (R.op (R.var (R.c (R.inKDs F.signs (R.bl ?_)))))))
    rw [h1]
    refine R.iT (R.seq (R.asg (R.op (R.c (R.var (R.ixKDs F.signs h1 (R.gName ?_)))))))
    have s0 : Same H (upd H D (.lst [x, y])) := same_upd hD
    have g0 : (upd H D (.lst [x, y])) D = some (.lst [x, y]) := upd_same
    generalize upd H D (.lst [x, y]) = H0 at s0 g0 ⊢
    refine R.seq (R.asg (R.var ⟨D, [x, y], rfl, SqL.of g0, rfl, R.gCons (R.gName (R.gCons (R.gName (R.gNil ?_))))⟩))
    refine R.ret (R.callD ⟨sgN k, spSg k, rfl, h3, R.cons (R.call (R.cons (R.var (R.cons (R.var (R.cons (R.var (R.nil ?_)))))))) ⟩)
    refine wo_call (WtV.mono s0 ha) d1 (env.mono s0) fun H1 s1 => ?_
    refine R.cons (R.call (R.cons (R.var (R.cons (R.var (R.cons (R.var (R.nil ?_))))))))
    refine wo_call (WtV.mono (s0.trans s1) hb) d2 (env.mono (s0.trans s1)) fun H2 s2 => ?_
    exact R.nil ⟨_, _, rfl, q H2 (s0.trans (s1.trans s2))⟩
end
end Rl
namespace Rl
open PySem PySem.Spec PyProof.Rows L2
/-! ## k31: bytes' sums, bits, likeness -/
/-- signs that may be turned -/
def sgSym (k : Fin 7) : Prop := k = 0 ∨ k = 2 ∨ k = 3 ∨ k = 4 ∨ k = 6
/-- signs of three -/
def sgAss (k : Fin 7) : Prop := k = 0 ∨ k = 2 ∨ k = 3 ∨ k = 4
theorem bitN_comm (k : Fin 3) (a b : Nat) : bitN k a b = bitN k b a := by
  rcases fin3w k with rfl | rfl | rfl
  · exact Nat.and_comm a b
  · exact Nat.or_comm a b
  · exact Nat.xor_comm a b
theorem bitN_assoc (k : Fin 3) (a b c : Nat) : bitN k (bitN k a b) c = bitN k a (bitN k b c) := by
  rcases fin3w k with rfl | rfl | rfl
  · exact Nat.and_assoc a b c
  · exact Nat.or_assoc a b c
  · exact Nat.xor_assoc a b c
theorem sg_bits {k : Fin 7} (h : k = 2 ∨ k = 3 ∨ k = 4) : ∃ b : Fin 3, k = sgB b := by
  rcases h with rfl | rfl | rfl
  · exact ⟨0, rfl⟩
  · exact ⟨1, rfl⟩
  · exact ⟨2, rfl⟩
theorem sg_comm {k : Fin 7} (h : sgSym k) {i j : Int} (h0 : 0 ≤ i) (h1 : 0 ≤ j) : sgF k i j = sgF k j i := by
  have bits : ∀ b : Fin 3, sgF (sgB b) i j = sgF (sgB b) j i := fun b => by rw [sgF_bits b h0 h1, sgF_bits b h1 h0, bitN_comm]
  rcases h with rfl | rfl | rfl | rfl | rfl
  · show (i + j) % 256 = (j + i) % 256
    rw [Int.add_comm]
  · exact bits 0
  · exact bits 1
  · exact bits 2
  · show (if decide (i = j) then (1 : Int) else 0) = if decide (j = i) then 1 else 0
    by_cases e : i = j
    · rw [e]
    · rw [decide_eq_false e, decide_eq_false (Ne.symm e)]
theorem sg_assoc {k : Fin 7} (h : sgAss k) {i j l : Int} (h0 : 0 ≤ i) (h1 : 0 ≤ j) (h2 : 0 ≤ l) : sgF k (sgF k i j) l = sgF k i (sgF k j l) := by
  have bits : ∀ b : Fin 3, sgF (sgB b) (sgF (sgB b) i j) l = sgF (sgB b) i (sgF (sgB b) j l) := fun b => by
    rw [sgF_bits b h0 h1, sgF_bits b h1 h2, sgF_bits b (Int.natCast_nonneg _) h2, sgF_bits b h0 (Int.natCast_nonneg _), Int.toNat_natCast, Int.toNat_natCast, bitN_assoc]
  rcases h with rfl | rfl | rfl | rfl
  · show ((i + j) % 256 + l) % 256 = (i + (j + l) % 256) % 256
    omega
  · exact bits 0
  · exact bits 1
  · exact bits 2
theorem sg_off {i j : Int} (h0 : 0 ≤ i ∧ i < 256) : sgF 1 (sgF 0 i j) j = i ∧ sgF 0 (sgF 1 i j) j = i := by
  refine ⟨?_, ?_⟩
  · show ((i + j) % 256 - j) % 256 = i
    omega
  · show ((i - j) % 256 + j) % 256 = i
    omega
theorem sg_or {i j : Int} (h0 : 0 ≤ i) (h1 : 0 ≤ j) : sgF 3 i j = i + j - sgF 2 i j := bitOr_and i j
theorem sg_parts {i j : Int} : sgF 0 (sgF 2 i j) (sgF 3 i j) = sgF 0 i j := by
  show (sgF 2 i j + Builtin.bitOr i j) % 256 = (i + j) % 256
  rw [bitOr_and]
  show (Builtin.bitAnd i j + (i + j - Builtin.bitAnd i j)) % 256 = _
  congr 1
  omega
theorem sg_unlike {i j : Int} (h0 : 0 ≤ i ∧ i < 256) (h1 : 0 ≤ j ∧ j < 256) : sgF 0 (sgF 4 i j) (sgF 2 i j) = sgF 3 i j := by
  have b := sg_byte 3 h0.1 h0.2 h1.1 h1.2
  show ((Builtin.bitOr i j - Builtin.bitAnd i j) + Builtin.bitAnd i j) % 256 = Builtin.bitOr i j
  have b : 0 ≤ Builtin.bitOr i j ∧ Builtin.bitOr i j < 256 := b
  omega
theorem sg_below (i j : Int) : sgF 5 i j + sgF 5 j i + sgF 6 i j = 1 := by
  show (if decide (i < j) then (1 : Int) else 0) + (if decide (j < i) then 1 else 0) + (if decide (i = j) then 1 else 0) = 1
  rcases Int.lt_trichotomy i j with h | h | h
  · rw [decide_eq_true h, decide_eq_false (by omega : ¬ j < i), decide_eq_false (by omega : ¬ i = j)]
    rfl
  · rw [decide_eq_false (by omega : ¬ i < j), decide_eq_false (by omega : ¬ j < i), decide_eq_true h]
    rfl
  · rw [decide_eq_false (by omega : ¬ i < j), decide_eq_true h, decide_eq_false (by omega : ¬ i = j)]
    rfl
theorem sg_self (i : Int) : sgF 1 i i = 0 := by
  show (i - i) % 256 = 0
  omega
end Rl
namespace Rl
open PySem PySem.Spec PyProof.Rows L2
/-! ## tuples that stay; short words (as in WkS, WkP, WkQ, LRunQ) -/
/-- tuples (and what is frozen) stay -/
def SmT (H H' : Hp) : Prop := ∀ a o, H a = some o → ((∃ xs, o = .tup xs) ∨ ∃ u z, o = .frz u z) → H' a = some o
theorem SqT.smt {K : PySem.W.Frag} {H H' : Hp} {a : Addr} {xs : List V} (e : SmT H H') (h : SqT K H a xs) : SqT K H' a xs := by
  rcases h with (g | ⟨o, g⟩) | g
  · exact .inl (.inl (e _ _ g (.inl ⟨_, rfl⟩)))
  · exact .inl (.inr ⟨o, e _ _ g (.inr ⟨_, _, rfl⟩)⟩)
  · exact .inr g
/-- tuples, texts and numbers -/
def TuO : Nat → PyData → Prop
  | 0, _ => False
  | n + 1, .tuple ds => ∀ d ∈ ds, TuO n d
  | _ + 1, .str _ => True
  | _ + 1, .int _ => True
  | _ + 1, _ => False
theorem dpAll_map {K : PySem.W.Frag} {H H' : Hp} : ∀ {xs : List V} {ds : List PyData}, (∀ d ∈ ds, ∀ v, Dp K H v d → Dp K H' v d) → DpAll K H xs ds → DpAll K H' xs ds
  | _, _, _, .nil => .nil
  | _, _, h, .cons a t => .cons (h _ (List.mem_cons_self ..) _ a) (dpAll_map (fun d hd => h d (List.mem_cons_of_mem _ hd)) t)
theorem Dp.smt {K : PySem.W.Frag} {H H' : Hp} (s : SmT H H') : ∀ {n : Nat} {d : PyData} {v : V}, TuO n d → Dp K H v d → Dp K H' v d
  | 0, _, _, h, _ => by cases h
  | n + 1, .tuple ds, v, h, hd => by
    obtain ⟨p, xs, rfl, hp, hx⟩ := dp_tup hd
    exact .tup (SqT.smt s hp) (dpAll_map (fun d hm v hv => Dp.smt (n := n) s (h d hm) hv) hx)
  | _ + 1, .str _, _, _, hd => by
    cases hd
    exact .str _
  | _ + 1, .int _, _, _, hd => by
    cases hd
    exact .int _
  | _ + 1, .none, _, h, _ => by cases h
  | _ + 1, .bool _, _, h, _ => by cases h
  | _ + 1, .list _, _, h, _ => by cases h
  | _ + 1, .dict _, _, h, _ => by cases h
section
variable {K : PySem.W.Frag} {w : World} {vs : List V} {H : Hp} {Q : VK} {E : XK}
theorem dp1 {H : Hp} {xs : List V} {d : PyData} (h : DpAll K H xs [d]) : ∃ v, xs = [v] ∧ Dp K H v d := by
  cases h with
  | cons a t =>
    cases t
    exact ⟨_, rfl, a⟩
end
theorem tuo_tup {n : Nat} {wd : Str} {ds : List PyData} (h : ∀ d ∈ ds, TuO (n + 1) d) : TuO (n + 2) (.tuple (.str wd :: ds)) := fun d hd => by
  rcases List.mem_cons.mp hd with rfl | hd
  · trivial
  · exact h d hd
theorem tuo_one {n : Nat} {d : PyData} (h : TuO n d) : ∀ x ∈ [d], TuO n x := fun x hx => by
  rcases List.mem_cons.mp hx with rfl | hx
  · exact h
  · cases hx
end Rl
namespace Rl
open PySem PySem.Spec PyProof.Rows L2
/-! ## worths, statements and ways are tuples, texts and numbers (after SmtS) -/
theorem Wt.tuoS : ∀ (e : Wt) {n : Nat}, e.deep ≤ n → TuO (n + 1) e.data
  | .num _, 0, h => by cases h
  | .nam _, 0, h => by cases h
  | .cell _, 0, h => by cases h
  | .neg _, 0, h => by cases h
  | .two _ _ _, 0, h => absurd h (Nat.not_succ_le_zero _)
  | .num _, n + 1, _ => fun d hd => by
    rcases List.mem_cons.mp hd with rfl | hd
    · trivial
    · rcases List.mem_cons.mp hd with rfl | hd
      · trivial
      · cases hd
  | .nam _, n + 1, _ => fun d hd => by
    rcases List.mem_cons.mp hd with rfl | hd
    · trivial
    · rcases List.mem_cons.mp hd with rfl | hd
      · trivial
      · cases hd
  | .cell e, n + 1, h => fun d hd => by
    rcases List.mem_cons.mp hd with rfl | hd
    · trivial
    · rcases List.mem_cons.mp hd with rfl | hd
      · exact Wt.tuoS e (Nat.le_of_succ_le_succ h)
      · cases hd
  | .neg e, n + 1, h => fun d hd => by
    rcases List.mem_cons.mp hd with rfl | hd
    · trivial
    · rcases List.mem_cons.mp hd with rfl | hd
      · exact Wt.tuoS e (Nat.le_of_succ_le_succ h)
      · cases hd
  | .two k a b, n + 1, h => fun d hd => by
    have h : max a.deep b.deep ≤ n := Nat.le_of_succ_le_succ h
    rcases List.mem_cons.mp hd with rfl | hd
    · trivial
    · rcases List.mem_cons.mp hd with rfl | hd
      · exact Wt.tuoS a (Nat.le_trans (Nat.le_max_left _ _) h)
      · rcases List.mem_cons.mp hd with rfl | hd
        · exact Wt.tuoS b (Nat.le_trans (Nat.le_max_right _ _) h)
        · cases hd
theorem tuo_mor {n : Nat} {d : PyData} {ds : List PyData} (h : TuO n d) (g : ∀ x ∈ ds, TuO n x) : ∀ x ∈ d :: ds, TuO n x := fun x hx => by
  rcases List.mem_cons.mp hx with rfl | hx
  · exact h
  · exact g x hx
end Rl
namespace Rl
open PySem PySem.Spec PyProof.Rows L2
/-! ## drawn trees: texts that draw of a spring and make data beside it -/
theorem joinT {σ : L2.St} {nx bk ct : L2.St → Hp → Prop} {rt : VK} {t : TS} {H : Hp} (P : L2.St → Hp → Prop) (q : ∀ N : L2.St → Hp → Prop, (∀ σ H, P σ H → N σ H) → t ⟨N, rt, bk, ct⟩ σ H) (key : ∀ σ H, P σ H → nx σ H) : t ⟨nx, rt, bk, ct⟩ σ H := q nx key
theorem dpAll_append {K : PySem.W.Frag} {H : Hp} : ∀ {xs ys : List V} {ds es : List PyData}, DpAll K H xs ds → DpAll K H ys es → DpAll K H (xs ++ ys) (ds ++ es)
  | _, _, _, _, .nil, h2 => h2
  | _, _, _, _, .cons a t, h2 => .cons a (dpAll_append t h2)
def Dt (K : PySem.W.Frag) (r : Addr) (B : Hp) (te : TE) (σ : L2.St) (P : PyData → Prop) : Prop := ∀ (H : Hp) (Q : VK), Spr H r → Same B (but r H) → (∀ v H' d, Fx r H H' → Spr H' r → Dp K (but r H') v d → P d → Q v H') → te σ H Q
def DtA (K : PySem.W.Frag) (r : Addr) (B : Hp) (tr : TA) (σ : L2.St) (P : List PyData → Prop) : Prop := ∀ (H : Hp) (QA : List V → Hp → Prop), Spr H r → Same B (but r H) → (∀ vs H' ds, Fx r H H' → Spr H' r → DpAll K (but r H') vs ds → P ds → QA vs H') → tr σ H QA
section
variable {K : PySem.W.Frag} {w : World} {r : Addr} {B : Hp} {σ : L2.St} {te tf tk : TE} {tr : TA} {P P' : PyData → Prop} {PA PB : List PyData → Prop} {n : Nat} {v : V} {d : PyData}
theorem Dt.imp (h : Dt K r B te σ P) (e : ∀ d, P d → P' d) : Dt K r B te σ P' := fun H Q S b q => h H Q S b fun v H' d f S' hd pd => q v H' d f S' hd (e d pd)
theorem DtA.imp (h : DtA K r B tr σ PA) (e : ∀ d, PA d → PB d) : DtA K r B tr σ PB := fun H Q S b q => h H Q S b fun v H' d f S' hd pd => q v H' d f S' hd (e d pd)
theorem Dt.int {i : Int} : Dt K r B (tC (.int i)) σ (· = .int i) := fun H Q S _ q => q _ _ _ (Fx.refl r H) S (.int i) rfl
theorem Dt.str {s : Str} : Dt K r B (tC (.str s)) σ (· = .str s) := fun H Q S _ q => q _ _ _ (Fx.refl r H) S (.str s) rfl
theorem Dt.vr (h : Dp K B v d) (h0 : σ[n]? = some (some v) := by with_unfolding_all rfl) : Dt K r B (tVar n) σ (· = d) := fun H Q S b q => R.var (q _ _ _ (Fx.refl r H) S (Dp.mono b h) rfl) h0
theorem Dt.draw {i : Nat} {m : Int} (h0 : σ[i]? = some (some (.ref r)) := by with_unfolding_all rfl) (m0 : 0 < m := by decide) (m1 : m < 1073741824 := by decide) : Dt K r B (tCall (sp_law_draw K w) [] E0 (tCons (tVar i) (tCons (tC (.int m)) tNil))) σ (fun d => ∃ j, d = .int j ∧ 0 ≤ j ∧ j < m) := fun H Q S _ q =>
  R.call (R.cons (R.var (R.cons (R.c (R.nil ⟨r, m, rfl, S, m0, m1, fun j H' f S' j0 j1 => q _ _ _ f S' (.int j) ⟨j, rfl, j0, j1⟩⟩))) h0))
theorem DtA.nil : DtA K r B tNil σ (· = []) := fun H Q S _ q => R.nil (q _ _ _ (Fx.refl r H) S .nil rfl)
theorem DtA.cons (h : Dt K r B te σ P) (h2 : DtA K r B tr σ PA) : DtA K r B (tCons te tr) σ (fun ds => ∃ d ds', ds = d :: ds' ∧ P d ∧ PA ds') := fun H Q S b q => R.cons (h H _ S b fun v H1 d f1 S1 d1 p1 => h2 H1 _ S1 (b.trans f1) fun vs H2 ds f2 S2 d2 p2 =>
  q _ _ _ (f1.trans f2) S2 (.cons (Dp.mono f2 d1) d2) ⟨d, ds, rfl, p1, p2⟩)
theorem Dt.tup (h : DtA K r B tr σ PA) (hl : ∀ ds, PA ds → ds.length ≤ 1000) : Dt K r B (tTup tr) σ (fun d => ∃ ds, d = .tuple ds ∧ PA ds) := fun H Q S b q => R.tup (h H _ S b fun vs H1 ds f1 S1 d1 p1 =>
  ⟨by rw [DpAll.length d1]; exact Nat.le_trans (hl ds p1) (by decide), fun p hp => q _ _ _ (f1.trans (Same.but (same_upd hp))) (S1.keep (same_upd hp)) (.tup (SqT.of (but_get (S1.ne hp) upd_same)) (DpAll.mono (Same.but (same_upd hp)) d1)) ⟨ds, rfl, p1⟩⟩)
/-- a new list, as it stands -/
theorem DtA.newL (h : DtA K r B tr σ PA) (hl : ∀ ds, PA ds → ds.length ≤ 1000) {H : Hp} {Q : VK} (S : Spr H r) (b : Same B (but r H)) (q : ∀ p xs ds H', H p = none → p ≠ r → Fx r H H' → Spr H' r → H' p = some (.lst xs) → DpAll K (but r H') xs ds → PA ds → Q (.ref p) H') : tLst tr σ H Q := R.lst (h H _ S b fun vs H1 ds f1 S1 d1 p1 =>
  ⟨by rw [DpAll.length d1]; exact Nat.le_trans (hl ds p1) (by decide), fun p hp => q p vs ds _ (f1.freeS S1 hp) (S1.ne hp) (f1.trans (Same.but (same_upd hp))) (S1.keep (same_upd hp)) upd_same (DpAll.mono (Same.but (same_upd hp)) d1) p1⟩)
theorem Dt.lst (h : DtA K r B tr σ PA) (hl : ∀ ds, PA ds → ds.length ≤ 1000) : Dt K r B (tLst tr) σ (fun d => ∃ ds, d = .list ds ∧ PA ds) := fun H Q S b q => h.newL hl S b fun p xs ds H' hp np f1 S1 g d1 p1 => q _ _ _ f1 S1 (.lst (SqL.of (but_get np g)) d1) ⟨ds, rfl, p1⟩
/-- one of a list, drawn -/
theorem Dt.ixL {PK : Int → Prop} (h : Dt K r B te σ (fun d => ∃ ds, d = .list ds ∧ PA ds)) (hk : Dt K r B tk σ (fun d => ∃ i, d = .int i ∧ 0 ≤ i ∧ PK i)) (hl : ∀ ds i, PA ds → PK i → i < ds.length) : Dt K r B (tOp (rIx K) te tk) σ (fun d => ∃ ds, PA ds ∧ d ∈ ds) := fun H Q S b q =>
  R.op (h H _ S b fun v H1 d f1 S1 d1 p1 => hk H1 _ S1 (b.trans f1) fun v2 H2 d2 f2 S2 e2 p2 => by
    obtain ⟨ds, rfl, p1⟩ := p1
    obtain ⟨i, rfl, i0, p2⟩ := p2
    cases dp_int e2
    obtain ⟨p, xs, rfl, hp, hx⟩ := dp_lst d1
    have hx2 := DpAll.mono f2 hx
    have lx := hl ds i p1 p2
    refine R.ixLV (SqL.mono (L2.Same.trans f2 but_same) hp) i0 (by rw [DpAll.length hx]; exact lx) fun m hm _ => ?_
    obtain ⟨d, g1, g2⟩ := DpAll.get hx2 hm
    exact q _ _ _ (f1.trans f2) S2 g2 ⟨ds, p1, List.mem_of_getElem? g1⟩)
/-- a sign of a text, drawn -/
theorem Dt.ixS {PK : Int → Prop} {s : Str} (hs : s.length ≤ sizeLine) (hk : Dt K r B tk σ (fun d => ∃ i, d = .int i ∧ 0 ≤ i ∧ PK i)) (hl : ∀ i, 0 ≤ i → PK i → ∃ c, atI s.cps.toList i = some c ∧ P (.str ⟨#[c]⟩)) : Dt K r B (tOp (rIx K) (tC (.str s)) tk) σ P := fun H Q S b q =>
  R.op (R.c (hk H _ S b fun v2 H2 d2 f2 S2 e2 p2 => by
    obtain ⟨i, rfl, i0, p2⟩ := p2
    cases dp_int e2
    obtain ⟨c, g, pc⟩ := hl i i0 p2
    exact R.ixS hs g (q _ _ _ f2 S2 (.str _) pc)))
/-- a list that stands, and more behind it: a new one -/
theorem Dt.cat {p : Addr} {xs : List V} {ds : List PyData} (hp : B p = some (.lst xs)) (hx : DpAll K B xs ds) (h : DtA K r B tr σ PA) (hz : ds.length ≤ 1000) (hl : ∀ ds, PA ds → ds.length ≤ 1000) (h0 : σ[n]? = some (some (.ref p)) := by with_unfolding_all rfl) :
    Dt K r B (tOp (rAddA K) (tVar n) (tLst tr)) σ (fun d => ∃ ds2, d = .list ds2 ∧ ∃ es, ds2 = ds ++ es ∧ PA es) := fun H Q S b q =>
  R.op (R.var (h.newL hl S b fun l ys es H1 hl2 nl f1 S1 g1 d1 p1 => by
    refine R.cat (but_same _ _ (f1 _ _ (b _ _ hp))) g1 ?_ fun m hm => ?_
    · rw [DpAll.length hx, DpAll.length d1]
      have := hl es p1
      exact Nat.le_trans (m := 2000) (by omega) (by decide)
    · have e : DpAll K (but r (upd H1 m (.lst (xs ++ ys)))) (xs ++ ys) (ds ++ es) := dpAll_append (DpAll.mono (b.trans (f1.trans (Same.but (same_upd hm)))) hx) (DpAll.mono (Same.but (same_upd hm)) d1)
      exact q _ _ _ (f1.trans (Same.but (same_upd hm))) (S1.keep (same_upd hm)) (.lst (SqL.of (but_get (S1.ne hm) upd_same)) e) ⟨_, rfl, es, rfl, p1⟩) h0)
theorem Dt.ret {nx bk ct : L2.St → Hp → Prop} {rt : VK} {H : Hp} (h : Dt K r B te σ P) (S : Spr H r) (b : Same B (but r H)) (q : ∀ v H' d, Fx r H H' → Spr H' r → Dp K (but r H') v d → P d → rt v H') : tRet te ⟨nx, rt, bk, ct⟩ σ H := R.ret (h H _ S b q)
theorem Dt.asg {nx bk ct : L2.St → Hp → Prop} {rt : VK} {H : Hp} (h : Dt K r B te σ P) (S : Spr H r) (b : Same B (but r H)) (q : ∀ v H' d, Fx r H H' → Spr H' r → Dp K (but r H') v d → P d → nx (σ.set n (some v)) H') : tAsg te (gName n) ⟨nx, rt, bk, ct⟩ σ H := R.asg (h H _ S b fun v H' d f S' hd pd => R.gName (q v H' d f S' hd pd))
end
end Rl
namespace Rl
open PySem PySem.Spec PyProof.Rows L2
/-! ## worths that are drawn (k25, k31) -/
def spLw (K : PySem.W.Frag) (_ : World) : Nat → Sp
  | 0 => fun _ _ _ _ => False
  | n + 1 => fun vs H Q _ => ∃ (r : Addr) (d : Int), vs = [.ref r, .int d] ∧ Spr H r ∧ 1 ≤ d ∧ d ≤ (n + 1 : Nat) ∧ ∀ v H' (e : Wt), Fx r H H' → Spr H' r → Dp K (but r H') v e.data → e.Ok → e.deep ≤ d.toNat → Q v H'
abbrev sp_law_worth (K : PySem.W.Frag) (w : World) : Sp := spLw K w 8
theorem len_law_worth {K : PySem.W.Frag} {w : World} {n : Nat} {vs : List V} {H : Hp} {Q : VK} {E : XK} (h : spLw K w n vs H Q E) : vs.length = 2 := by
  cases n with
  | zero => cases h
  | succ n =>
    obtain ⟨_, _, rfl, _⟩ := h
    rfl
theorem lw_call {K : PySem.W.Frag} {w : World} {n : Nat} {H : Hp} {Q : VK} {E : XK} {r : Addr} {d : Int} (S : Spr H r) (h1 : 1 ≤ d) (h2 : d ≤ n) (q : ∀ v H' (e : Wt), Fx r H H' → Spr H' r → Dp K (but r H') v e.data → e.Ok → e.deep ≤ d.toNat → Q v H') : spLw K w n ([.ref r, .int d] ++ []) H Q E := by
  obtain ⟨m, rfl⟩ : ∃ m, n = m + 1 := ⟨n - 1, by omega⟩
  exact ⟨r, d, rfl, S, h1, h2, q⟩
end Rl
namespace Rl
open PySem PySem.Spec PyProof.Rows L2 NdefX LamX
/-! ## k31: the def within law -/
def top (i : Nat) : Stmt := PySem.Challenge.pw_rowlift_k31_whole_worths_go_together.main.body.getD i (.Pass ⟨0, 0, 0, 0⟩)
def forBody : Stmt → List Stmt
  | .For _ _ body _ _ => body
  | _ => []
def on_law : Stmt := (forBody ((defBody (top 24)).getD 1 (.Pass ⟨0, 0, 0, 0⟩))).getD 4 (.Pass ⟨0, 0, 0, 0⟩)
def on_q_law : Str := "law.<locals>._law_now"
/-- the table of its code objects -/
abbrev nt_P_law (K : PySem.W.Frag) : Addr := (He.cT K ("law", none)).2
def on_nm : Nat → Nat → Str := fun _ _ => on_q_law
def NT (K : PySem.W.Frag) : List NTab := [(nt_P_law K, on_nm)]
theorem nt_mem_law (K : PySem.W.Frag) : (nt_P_law K, on_nm) ∈ NT K := List.mem_of_getElem? (i := 0) rfl
theorem nt_one (K : PySem.W.Frag) {P : Addr} : ∀ p ∈ NT K, p.1 = P → p.2 = on_nm := fun p hp _ => by
  simp only [NT, List.mem_cons, List.not_mem_nil, or_false] at hp
  rw [hp]
/-- its captured names' cells -/
def on_cl (c1 c2 : Addr) : List (Str × Addr) := [("_law_names", c1), ("_law_cells", c2)]
theorem on_cl1 (c1 c2 : Addr) : (on_cl c1 c2).lookup ("_law_names" : Str) = some c1 := by with_unfolding_all rfl
theorem on_cl2 (c1 c2 : Addr) : (on_cl c1 c2).lookup ("_law_cells" : Str) = some c2 := by with_unfolding_all rfl
theorem on_clx {c1 c2 : Addr} : ∀ z d, (on_cl c1 c2).lookup z = some d → (z = "_law_names" ∧ d = c1) ∨ (z = "_law_cells" ∧ d = c2) := fun z d h => by
  have m := PySem.mem_of_lookup h
  simp only [on_cl, List.mem_cons, List.not_mem_nil, or_false, Prod.mk.injEq] at m
  exact m
/-- the worth of what it is handed -/
def spNow (K : PySem.W.Frag) (p c : Addr) : Sp := fun vs H Q _ => ∃ (v : V) (e : Wt) (nm : List (Str × Int)) (cs : List Int), vs = [v] ∧ Dp K H v e.data ∧ e.deep ≤ 24 ∧ Env K H p (.ref c) nm cs ∧ ∀ H', Same H H' → Q (.int (e.val nm cs)) H'
abbrev sp_law__law_now (K : PySem.W.Frag) (_ : World) : Addr → Addr → Sp := spNow K
def OnP (K : PySem.W.Frag) (F : NF) (sp : Addr → Addr → Sp) : Prop := (∃ c1 c2 c, F = NF.of on_law "_law_now" on_q_law (on_cl c1 c2) c) ∧ sp = spNow K
/-- such a def, its cells tracked -/
structure Nw (K : PySem.W.Frag) (H : Hp) (f : Addr) (nm : List (Str × Int)) (cs : List Int) : Prop where
  ex : ∃ (c' c1 c2 : Addr) (o1 o2 : Obj) (a1 a2 : Addr), H f = some (FnO f (NF.of on_law "_law_now" on_q_law (on_cl c1 c2) c')) ∧ H c' = some (CodeO c' on_q_law) ∧ o1.data = .cell (some (.ref a1)) ∧ o2.data = .cell (some (.ref a2)) ∧ c1 ≠ c2 ∧
    H c1 = some (CellO c1 o1) ∧ H c2 = some (CellO c2 o2) ∧ (f ≠ c1 ∧ f ≠ c2) ∧ (c' ≠ c1 ∧ c' ≠ c2) ∧ Env K H a1 (.ref a2) nm cs
def spTwo (K : PySem.W.Frag) (m : Nat) : Sp := fun vs H Q _ => ∃ (f : Addr) (us : List V) (es : List Wt) (nm : List (Str × Int)) (cs : List Int) (j : Nat), vs = .ref f :: us ∧ us.length = m ∧ DpAll K H us (es.map Wt.data) ∧ (∀ e ∈ es, e.Ok ∧ e.deep ≤ 10) ∧ NmG nm j ∧ By cs ∧ cs.length = 64 ∧ Nw K H f nm cs ∧ ∀ H', Same H H' → Q (.bl true) H'
def sp_law_two_right (K : PySem.W.Frag) (_ : World) : Sp := spTwo K 2
def sp_law_three_right (K : PySem.W.Frag) (_ : World) : Sp := spTwo K 3
/-- a worth with a number for each of a name -/
def Wt.put (x : Str) (b : Int) : Wt → Wt
  | .num n => .num n
  | .nam s => if s = x then .num b else .nam s
  | .cell e => .cell (e.put x b)
  | .neg e => .neg (e.put x b)
  | .two k e f => .two k (e.put x b) (f.put x b)
def spPu (K : PySem.W.Frag) (_ : World) : Nat → Sp
  | 0 => fun _ _ _ _ => False
  | n + 1 => fun vs H Q _ => ∃ (v : V) (e : Wt) (x : Str) (b : Int), vs = [v, .str x, .int b] ∧ Dp K H v e.data ∧ e.deep ≤ n + 1 ∧ ∀ v' H', Same H H' → Dp K H' v' (e.put x b).data → Q v' H'
abbrev sp_law_put (K : PySem.W.Frag) (w : World) : Sp := spPu K w 8
def sp_law (K : PySem.W.Frag) (_ : World) : Sp := fun vs H Q _ => ∃ (a : Addr) (ns : List Int), vs = [.ref a] ∧ SqL K H a (ns.map V.int) ∧ ns.length ≤ 63 ∧ TabsN (NT K) H ∧ ∀ H', Q (.bl true) H'
section
variable {K : PySem.W.Frag} {w : World} {vs : List V} {H H' : Hp} {Q : VK} {E : XK}
theorem len_two {m : Nat} (h : spTwo K m vs H Q E) : vs.length = m + 1 := by
  obtain ⟨_, us, _, _, _, _, rfl, e, _⟩ := h
  rw [List.length_cons, e]
theorem len_law_two_right (h : sp_law_two_right K w vs H Q E) : vs.length = 3 := len_two h
theorem len_law_three_right (h : sp_law_three_right K w vs H Q E) : vs.length = 4 := len_two h
theorem len_on {ws : List (Option V)} (h : spCap2 (spNow K) ws vs H Q E) : vs.length = 1 := by
  obtain ⟨_, _, _, _, _, _, _, rfl, _⟩ := h
  rfl
theorem len_law_put {n : Nat} (h : spPu K w n vs H Q E) : vs.length = 3 := by
  cases n with
  | zero => cases h
  | succ n =>
    obtain ⟨_, _, _, _, rfl, _⟩ := h
    rfl
theorem len_law (h : sp_law K w vs H Q E) : vs.length = 1 := by
  obtain ⟨_, _, rfl, _⟩ := h
  rfl
theorem law_in {a : Addr} {ns : List Int} (hl : ns.length ≤ 63) (hT : TabsN (NT K) H) (hS : SqL K H a (ns.map V.int)) : sp_law K w [.ref a] H (fun v _ => v = .bl true) E := ⟨a, ns, rfl, hS, hl, hT, fun _ => rfl⟩
theorem Nw.mono {f : Addr} {nm : List (Str × Int)} {cs : List Int} (h : Nw K H f nm cs) (s : Same H H') : Nw K H' f nm cs := by
  obtain ⟨c', c1, c2, o1, o2, a1, a2, h1, h2, h3, h4, h5, h6, h7, h8, h9, h10⟩ := h.ex
  exact ⟨c', c1, c2, o1, o2, a1, a2, s _ _ h1, s _ _ h2, h3, h4, h5, s _ _ h6, s _ _ h7, h8, h9, Env.mono s h10⟩
end
end Rl
namespace Rl
open PySem PySem.Spec PyProof.Rows L2 NdefX LamX
/-- law._law_now: slots 0 _law_e, 1 _law_names, 2 _law_cells -/
def t_law__law_now (K : PySem.W.Frag) (w : World) : TS :=
  (tRet (tCall (sp_worth_of K w) [] E0 (tCons (tVar 0) (tCons (tVar 1) (tCons (tVar 2) tNil)))))
abbrev N_law__law_now : List Str := ["_law_e", "_law_names", "_law_cells"]

/-- _law_put: slots 0 _law_e, 1 _law_x, 2 _law_byte, 3 _law_part -/
def t_law_put (K : PySem.W.Frag) (w : World) (rec : Sp) : TS :=
  (tSeq (tIfS (tTest (tOp (rEqA K) (tOp (rIx K) (tVar 0) (tC (.int 0))) (tC (.str "name")))) (tRet (tIf (tTest (tOp (rEqA K) (tOp (rIx K) (tVar 0) (tC (.int 1))) (tVar 1))) (tTup (tCons (tC (.str "number")) (tCons (tVar 2) tNil))) (tVar 0))) tNext) (tSeq (tIfS (tTest (tOp (rEqA K) (tOp (rIx K) (tVar 0) (tC (.int 0))) (tC (.str "number")))) (tRet (tVar 0)) tNext) (tRet (tOp (rAddA K) (tSl (rSlA K) (tVar 0) tNoPart (tPart (tC (.int 1)))) (tCB (rTupA K) (tCons (tLc (iSeq K (tSl (rSlA K) (tVar 0) (tPart (tC (.int 1))) tNoPart)) (gName 3) tYes (tCall rec [] E0 (tCons (tVar 3) (tCons (tVar 1) (tCons (tVar 2) tNil)))) [3]) tNil))))))
abbrev N_law_put : List Str := ["_law_e", "_law_x", "_law_byte", "_law_part"]

/-- _law_two_right: slots 0 _law_now_here, 1 _law_one, 2 _law_other, 3 _law_sign, 4 _law_below -/
def t_law_two_right (K : PySem.W.Frag) (w : World) : TS :=
  (tSeq (tFor (iStr (tC (.str "+&|^="))) (gName 3) (tIfS (tTest (tOp (rNeA K) (tCallH2 0 "_law_names" "_law_cells" (OnP K) (tCons (tTup (tCons (tVar 3) (tCons (tVar 1) (tCons (tVar 2) tNil)))) tNil)) (tCallH2 0 "_law_names" "_law_cells" (OnP K) (tCons (tTup (tCons (tVar 3) (tCons (tVar 2) (tCons (tVar 1) tNil)))) tNil)))) (tRet (tC (.bl false))) tNext)) (tSeq (tIfS (tOr (tTest (tOp (rNeA K) (tCallH2 0 "_law_names" "_law_cells" (OnP K) (tCons (tTup (tCons (tC (.str "-")) (tCons (tTup (tCons (tC (.str "+")) (tCons (tVar 1) (tCons (tVar 2) tNil)))) (tCons (tVar 2) tNil)))) tNil)) (tCallH2 0 "_law_names" "_law_cells" (OnP K) (tCons (tVar 1) tNil)))) (tTest (tOp (rNeA K) (tCallH2 0 "_law_names" "_law_cells" (OnP K) (tCons (tTup (tCons (tC (.str "+")) (tCons (tTup (tCons (tC (.str "-")) (tCons (tVar 1) (tCons (tVar 2) tNil)))) (tCons (tVar 2) tNil)))) tNil)) (tCallH2 0 "_law_names" "_law_cells" (OnP K) (tCons (tVar 1) tNil))))) (tRet (tC (.bl false))) tNext) (tSeq (tIfS (tTest (tOp (rNeA K) (tCallH2 0 "_law_names" "_law_cells" (OnP K) (tCons (tTup (tCons (tC (.str "+")) (tCons (tTup (tCons (tC (.str "&")) (tCons (tVar 1) (tCons (tVar 2) tNil)))) (tCons (tTup (tCons (tC (.str "|")) (tCons (tVar 1) (tCons (tVar 2) tNil)))) tNil)))) tNil)) (tCallH2 0 "_law_names" "_law_cells" (OnP K) (tCons (tTup (tCons (tC (.str "+")) (tCons (tVar 1) (tCons (tVar 2) tNil)))) tNil)))) (tRet (tC (.bl false))) tNext) (tSeq (tIfS (tTest (tOp (rNeA K) (tCallH2 0 "_law_names" "_law_cells" (OnP K) (tCons (tTup (tCons (tC (.str "+")) (tCons (tTup (tCons (tC (.str "^")) (tCons (tVar 1) (tCons (tVar 2) tNil)))) (tCons (tTup (tCons (tC (.str "&")) (tCons (tVar 1) (tCons (tVar 2) tNil)))) tNil)))) tNil)) (tCallH2 0 "_law_names" "_law_cells" (OnP K) (tCons (tTup (tCons (tC (.str "|")) (tCons (tVar 1) (tCons (tVar 2) tNil)))) tNil)))) (tRet (tC (.bl false))) tNext) (tSeq (tAsg (tOp (rAddA K) (tOp (rAddA K) (tCallH2 0 "_law_names" "_law_cells" (OnP K) (tCons (tTup (tCons (tC (.str "<")) (tCons (tVar 1) (tCons (tVar 2) tNil)))) tNil)) (tCallH2 0 "_law_names" "_law_cells" (OnP K) (tCons (tTup (tCons (tC (.str "<")) (tCons (tVar 2) (tCons (tVar 1) tNil)))) tNil))) (tCallH2 0 "_law_names" "_law_cells" (OnP K) (tCons (tTup (tCons (tC (.str "=")) (tCons (tVar 1) (tCons (tVar 2) tNil)))) tNil))) (gName 4)) (tRet (tAndV (tOp (rEqA K) (tVar 4) (tC (.int 1))) (tAndV (tOp (rEqA K) (tCallH2 0 "_law_names" "_law_cells" (OnP K) (tCons (tTup (tCons (tC (.str "not")) (tCons (tVar 1) tNil))) tNil)) (tCallH2 0 "_law_names" "_law_cells" (OnP K) (tCons (tTup (tCons (tC (.str "=")) (tCons (tVar 1) (tCons (tTup (tCons (tC (.str "number")) (tCons (tC (.int 0)) tNil))) tNil)))) tNil))) (tOp (rEqA K) (tCallH2 0 "_law_names" "_law_cells" (OnP K) (tCons (tTup (tCons (tC (.str "-")) (tCons (tVar 1) (tCons (tVar 1) tNil)))) tNil)) (tC (.int 0)))))))))))
abbrev N_law_two_right : List Str := ["_law_now_here", "_law_one", "_law_other", "_law_sign", "_law_below"]

/-- _law_three_right: slots 0 _law_now_here, 1 _law_one, 2 _law_other, 3 _law_third, 4 _law_sign -/
def t_law_three_right (K : PySem.W.Frag) (w : World) : TS :=
  (tSeq (tFor (iStr (tC (.str "+&|^"))) (gName 4) (tIfS (tTest (tOp (rNeA K) (tCallH2 0 "_law_names" "_law_cells" (OnP K) (tCons (tTup (tCons (tVar 4) (tCons (tTup (tCons (tVar 4) (tCons (tVar 1) (tCons (tVar 2) tNil)))) (tCons (tVar 3) tNil)))) tNil)) (tCallH2 0 "_law_names" "_law_cells" (OnP K) (tCons (tTup (tCons (tVar 4) (tCons (tVar 1) (tCons (tTup (tCons (tVar 4) (tCons (tVar 2) (tCons (tVar 3) tNil)))) tNil)))) tNil)))) (tRet (tC (.bl false))) tNext)) (tRet (tOp (rEqA K) (tCallH2 0 "_law_names" "_law_cells" (OnP K) (tCons (tTup (tCons (tC (.str "cell")) (tCons (tTup (tCons (tC (.str "+")) (tCons (tVar 1) (tCons (tTup (tCons (tC (.str "number")) (tCons (tC (.int 64)) tNil))) tNil)))) tNil))) tNil)) (tCallH2 0 "_law_names" "_law_cells" (OnP K) (tCons (tTup (tCons (tC (.str "cell")) (tCons (tVar 1) tNil))) tNil)))))
abbrev N_law_three_right : List Str := ["_law_now_here", "_law_one", "_law_other", "_law_third", "_law_sign"]

/-- law: slots 0 _law_script, 1 _law_spring_here, 2 _law_turn, 3 _law_some, 4 _law_k, 5 _law_names, 6 _law_x, 7 _law_cells, 8 _law_at, 9 _law_now -/
def t_law (K : PySem.W.Frag) (w : World) (c1 c2 : Addr) : TS :=
  (tSeq (tAsg (tCall (sp_law_spring K w) [] E0 (tCons (tVar 0) tNil)) (gName 1)) (tSeq (tFor (iRng1 (tCons (tOp (rAddA K) (tC (.int 1)) (tCB (rMin2) (tCons (tCB (rLenA K) (tCons (tVar 0) tNil)) (tCons (tC (.int 6)) tNil)))) tNil)) (gName 2) (tSeq (tAsg (tLc (iRng1 (tCons (tC (.int 3)) tNil)) (gName 4) tYes (tCall (sp_law_worth K w) [] E0 (tCons (tVar 1) (tCons (tOp (rAddA K) (tC (.int 1)) (tCall (sp_law_draw K w) [] E0 (tCons (tVar 1) (tCons (tC (.int 6)) tNil)))) tNil))) [4]) (gName 3)) (tSeq (tAsg tDNewK (gName 5)) (tSeq (tFor (iSeq K (tLst (tCons (tC (.str "a")) (tCons (tC (.str "b")) (tCons (tC (.str "c")) (tCons (tC (.str "d")) (tCons (tC (.str "zero")) (tCons (tC (.str "less")) tNil)))))))) (gName 6) (sDPut (tVar 5) (tVar 6) (tOp (rIx K) (tLst (tCons (tCall (sp_law_draw K w) [] E0 (tCons (tVar 1) (tCons (tC (.int 256)) tNil))) (tCons (tCall (sp_law_draw K w) [] E0 (tCons (tVar 1) (tCons (tC (.int 2)) tNil))) tNil))) (tCall (sp_law_draw K w) [] E0 (tCons (tVar 1) (tCons (tC (.int 2)) tNil)))))) (tSeq (tAsg (tLc (iRng1 (tCons (tC (.int 64)) tNil)) (gName 8) tYes (tCall (sp_law_draw K w) [] E0 (tCons (tVar 1) (tCons (tC (.int 256)) tNil))) [8]) (gName 7)) (tSeq (tNdef (NT K) 9 (NF.of on_law "_law_now" on_q_law (on_cl c1 c2))) (tSeq (tIfS (tOr (tNot (tB (tCallC2 K c1 c2 5 7 (sp_law_two_right K w) (tCons (tVar 9) (tCons (tOp (rIx K) (tVar 3) (tC (.int 0))) (tCons (tOp (rIx K) (tVar 3) (tC (.int 1))) tNil)))))) (tNot (tB (tCallC2 K c1 c2 5 7 (sp_law_three_right K w) (tCons (tVar 9) (tCons (tOp (rIx K) (tVar 3) (tC (.int 0))) (tCons (tOp (rIx K) (tVar 3) (tC (.int 1))) (tCons (tOp (rIx K) (tVar 3) (tC (.int 2))) tNil)))))))) (tRet (tC (.bl false))) tNext) (tSeq (tIfS (tTest (tOp (rNeA K) (NdefX.tCallN (fun c => NF.of on_law "_law_now" on_q_law (on_cl c1 c2) c) 9 [5, 7] (fun _ _ => spCap2 (sp_law__law_now K w)) E0 (tCons (tTup (tCons (tC (.str "cell")) (tCons (tOp (rIx K) (tVar 3) (tC (.int 2))) tNil))) tNil)) (tOp (rIx K) (tVar 7) (tOp (rModA) (NdefX.tCallN (fun c => NF.of on_law "_law_now" on_q_law (on_cl c1 c2) c) 9 [5, 7] (fun _ _ => spCap2 (sp_law__law_now K w)) E0 (tCons (tOp (rIx K) (tVar 3) (tC (.int 2))) tNil)) (tC (.int 64)))))) (tRet (tC (.bl false))) tNext) (tLock (tFor (iKeys (tVar 5)) (gName 6) (tIfS (tTest (tOp (rNeA K) (NdefX.tCallN (fun c => NF.of on_law "_law_now" on_q_law (on_cl c1 c2) c) 9 [5, 7] (fun _ _ => spCap2 (sp_law__law_now K w)) E0 (tCons (tCall (sp_law_put K w) [] E0 (tCons (tOp (rIx K) (tVar 3) (tC (.int 0))) (tCons (tVar 6) (tCons (tDGet (tVar 5) (tVar 6)) tNil)))) tNil)) (NdefX.tCallN (fun c => NF.of on_law "_law_now" on_q_law (on_cl c1 c2) c) 9 [5, 7] (fun _ _ => spCap2 (sp_law__law_now K w)) E0 (tCons (tOp (rIx K) (tVar 3) (tC (.int 0))) tNil)))) (tRet (tC (.bl false))) tNext))))))))))) (tRet (tC (.bl true)))))
abbrev N_law : List Str := ["_law_script", "_law_spring_here", "_law_turn", "_law_some", "_law_k", "_law_names", "_law_x", "_law_cells", "_law_at", "_law_now"]

end Rl
namespace Rl
open PySem PySem.Spec PyProof.Rows L2 NdefX LamX
section
variable {K : PySem.W.Frag} {w : World} {vs : List V} {H H' : Hp} {Q : VK} {E : XK} {σ : L2.St} {te tf : TE} {d1 d2 : PyData}
theorem smt_but {c : Addr} {o : Obj} (e : H c = some (CellO c o)) : SmT H (but c H) := fun a u z t => but_get (fun x => by
  rw [x, e] at z
  cases Option.some.inj z
  rcases t with ⟨_, t⟩ | ⟨_, _, t⟩ <;> cases t) z
theorem SmT.trans2 {H2 : Hp} (a : SmT H H') (b : SmT H' H2) : SmT H H2 := fun x u z t => b x u (a x u z t) t
theorem rd_but {c a : Addr} {o : Obj} {kvs : List (Key × V)} (e : H c = some (CellO c o)) (h : Rd H a (.dK kvs)) : Rd (but c H) a (.dK kvs) := by
  rcases h with h | ⟨u, h⟩
  · exact .inl (but_get (fun x => by rw [x, e] at h; cases h) h)
  · exact .inr ⟨u, but_get (fun x => by rw [x, e] at h; cases h) h⟩
theorem code_but {c a : Addr} {o : Obj} {ns : List Int} (e : H c = some (CellO c o)) (h : Code K H (.ref a) ns) : Code K (but c H) (.ref a) ns := by
  have nq : ∀ {b : Addr} {u : HO}, H b = some u → (∀ φ, u ≠ .ext φ) → (but c H) b = some u := fun {b u} z n => but_keep e n z
  obtain ⟨b, e2, hb⟩ := h
  refine ⟨b, e2, hb.imp (fun s => ?_) fun s => ?_⟩
  · rcases s with (z | ⟨u, z⟩) | z
    · exact .inl (.inl (nq z fun _ y => nomatch y))
    · exact .inl (.inr ⟨u, nq z fun _ y => nomatch y⟩)
    · exact .inr z
  · rcases s with (z | ⟨u, z⟩) | z
    · exact .inl (.inl (nq z fun _ y => nomatch y))
    · exact .inl (.inr ⟨u, nq z fun _ y => nomatch y⟩)
    · exact .inr z
/-- the worth of a term, told by the def that was handed -/
theorem now_call {f : Addr} {e : Wt} {nm : List (Str × Int)} {cs : List Int} (N : Nw K H f nm cs) (h0 : σ[0]? = some (some (.ref f))) (hx : DX K te σ H e.data) (hd : e.deep ≤ 24) (q : ∀ H', Same H H' → Q (.int (e.val nm cs)) H') : tCallH2 0 "_law_names" "_law_cells" (OnP K) (tCons te tNil) σ H Q := by
  obtain ⟨c', c1, c2, o1, o2, a1, a2, h1, h2, h3, h4, h5, h6, h7, h8, h9, h10⟩ := N.ex
  refine ⟨f, NF.of on_law "_law_now" on_q_law (on_cl c1 c2) c', spNow K, c1, c2, o1, o2, a1, a2, h0, ⟨⟨c1, c2, c', rfl⟩, rfl⟩, ⟨on_clx, on_cl1 c1 c2, on_cl2 c1 c2⟩, h3, h4, h5, h1, R.cons (hx _ fun v H1 s1 dv => R.nil ⟨s1 _ _ h1, s1 _ _ h2, s1 _ _ h6, s1 _ _ h7, h8, h9, ?_⟩)⟩
  have g6 := s1 _ _ h6
  have g7 := s1 _ _ h7
  have g6' : (but c2 H1) c1 = some (CellO c1 o1) := but_get h5 g6
  have env := Env.mono s1 h10
  refine ⟨v, e, nm, cs, rfl, Dp.smt ((smt_but g7).trans2 (smt_but g6')) (Wt.tuoS e hd) dv, hd, ⟨rd_but g6' (rd_but g7 env.1), code_but g6' (code_but g7 env.2.1), env.2.2⟩, fun H' s' n1 n2 => q _ ?_⟩
  exact L2.Same.trans s1 (same_put g7 (same_put g6' s'))
theorem DX.v {v : V} {d : PyData} {n : Nat} (h : Dp K H v d) (h0 : σ[n]? = some (some v)) : DX K (tVar n) σ H d := fun Q q => R.var (q _ _ (Same.refl _) h) h0
theorem DX.s (z : Str) : DX K (tC (.str z)) σ H (.str z) := fun Q q => R.c (q _ _ (Same.refl _) (.str z))
theorem DX.n (z : Int) : DX K (tC (.int z)) σ H (.int z) := fun Q q => R.c (q _ _ (Same.refl _) (.int z))
theorem DX.t2 (h1 : DX K te σ H d1) (h2 : ∀ H', Same H H' → DX K tf σ H' d2) : DX K (tTup (tCons te (tCons tf tNil))) σ H (.tuple [d1, d2]) := fun Q q => R.tup (R.cons (h1 _ fun v H1 s1 p1 => R.cons (h2 H1 s1 _ fun u H2 s2 p2 => R.nil ⟨by simp only [List.length_cons, List.length_nil]; decide, fun t ht =>
  q _ _ (s1.trans (s2.trans (same_upd ht))) (.tup (SqT.of upd_same) (.cons (Dp.mono (s2.trans (same_upd ht)) p1) (.cons (Dp.mono (same_upd ht) p2) .nil)))⟩)))
theorem DX.t3 {tg : TE} {d3 : PyData} (h1 : DX K te σ H d1) (h2 : ∀ H', Same H H' → DX K tf σ H' d2) (h3 : ∀ H', Same H H' → DX K tg σ H' d3) : DX K (tTup (tCons te (tCons tf (tCons tg tNil)))) σ H (.tuple [d1, d2, d3]) := fun Q q => R.tup (R.cons (h1 _ fun v H1 s1 p1 => R.cons (h2 H1 s1 _ fun u H2 s2 p2 => R.cons (h3 H2 (s1.trans s2) _ fun y H3 s3 p3 => R.nil ⟨by simp only [List.length_cons, List.length_nil]; decide, fun t ht =>
  q _ _ (s1.trans (s2.trans (s3.trans (same_upd ht)))) (.tup (SqT.of upd_same) (.cons (Dp.mono (s2.trans (s3.trans (same_upd ht))) p1) (.cons (Dp.mono (s3.trans (same_upd ht)) p2) (.cons (Dp.mono (same_upd ht) p3) .nil))))⟩))))
theorem cmp_now {f : Addr} {ea eb : Wt} {nm : List (Str × Int)} {cs : List Int} {ta tb : TE} (N : Nw K H f nm cs) (h0 : σ[0]? = some (some (.ref f))) (ha : DX K ta σ H ea.data) (hb : ∀ H', Same H H' → DX K tb σ H' eb.data) (da : ea.deep ≤ 24) (db : eb.deep ≤ 24) (eq : ea.val nm cs = eb.val nm cs) {QB : Bool → Hp → Prop} (q : ∀ H', Same H H' → QB false H') :
    tTest (tOp (rNeA K) (tCallH2 0 "_law_names" "_law_cells" (OnP K) (tCons ta tNil)) (tCallH2 0 "_law_names" "_law_cells" (OnP K) (tCons tb tNil))) σ H QB := by
  refine R.test (R.op (now_call N h0 ha da fun H1 s1 => now_call (N.mono s1) h0 (hb H1 s1) db fun H2 s2 => ?_))
  rw [eq]
  exact R.neI (by rw [decide_eq_true rfl]; exact R.bl (q _ (s1.trans s2)))
theorem pure_law__law_now {F : Prop} (_ : F) {ws : List (Option V)} (h : spCap2 (spNow K) ws vs H Q E) : t_law__law_now K w { nx := fun _ H' => Q .non H', rt := Q } (startF N_law__law_now vs ws) H := by
  obtain ⟨a1, a2, rfl, v, e, nm, cs, rfl, dv, hd, env, q⟩ := h
  unfold t_law__law_now
  exact R.ret (R.call (R.cons (R.var (R.cons (R.var (R.cons (R.var (R.nil ⟨v, e, a1, .ref a2, nm, cs, rfl, Wt.ofT dv, hd, env, q⟩))))))))
theorem five_at {i c : Nat} (h : ("+&|^=" : Str).cps[i]? = some c) : ∃ k : Fin 7, sgSym k ∧ V.str ⟨#[c]⟩ = .str (sgW k) := by
  have hi : i < 5 := by
    have := (Array.getElem?_eq_some_iff.mp h).1
    rw [show ("+&|^=" : Str).cps.size = 5 by kernel_rfl] at this
    exact this
  match i, hi with
  | 0, _ =>
    rw [show ("+&|^=" : Str).cps[0]? = some 43 by kernel_rfl] at h
    cases h
    exact ⟨0, .inl rfl, by kernel_rfl⟩
  | 1, _ =>
    rw [show ("+&|^=" : Str).cps[1]? = some 38 by kernel_rfl] at h
    cases h
    exact ⟨2, .inr (.inl rfl), by kernel_rfl⟩
  | 2, _ =>
    rw [show ("+&|^=" : Str).cps[2]? = some 124 by kernel_rfl] at h
    cases h
    exact ⟨3, .inr (.inr (.inl rfl)), by kernel_rfl⟩
  | 3, _ =>
    rw [show ("+&|^=" : Str).cps[3]? = some 94 by kernel_rfl] at h
    cases h
    exact ⟨4, .inr (.inr (.inr (.inl rfl))), by kernel_rfl⟩
  | 4, _ =>
    rw [show ("+&|^=" : Str).cps[4]? = some 61 by kernel_rfl] at h
    cases h
    exact ⟨6, .inr (.inr (.inr (.inr rfl))), by kernel_rfl⟩
theorem four_at {i c : Nat} (h : ("+&|^" : Str).cps[i]? = some c) : ∃ k : Fin 7, sgAss k ∧ V.str ⟨#[c]⟩ = .str (sgW k) := by
  have hi : i < 4 := by
    have := (Array.getElem?_eq_some_iff.mp h).1
    rw [show ("+&|^" : Str).cps.size = 4 by kernel_rfl] at this
    exact this
  match i, hi with
  | 0, _ =>
    rw [show ("+&|^" : Str).cps[0]? = some 43 by kernel_rfl] at h
    cases h
    exact ⟨0, .inl rfl, by kernel_rfl⟩
  | 1, _ =>
    rw [show ("+&|^" : Str).cps[1]? = some 38 by kernel_rfl] at h
    cases h
    exact ⟨2, .inr (.inl rfl), by kernel_rfl⟩
  | 2, _ =>
    rw [show ("+&|^" : Str).cps[2]? = some 124 by kernel_rfl] at h
    cases h
    exact ⟨3, .inr (.inr (.inl rfl)), by kernel_rfl⟩
  | 3, _ =>
    rw [show ("+&|^" : Str).cps[3]? = some 94 by kernel_rfl] at h
    cases h
    exact ⟨4, .inr (.inr (.inr rfl)), by kernel_rfl⟩
theorem deep2 {k : Fin 7} {a b : Wt} {n : Nat} (h1 : a.deep ≤ n) (h2 : b.deep ≤ n) : (Wt.two k a b).deep ≤ n + 1 := by
  show max a.deep b.deep + 1 ≤ _
  omega
theorem pure_law_two_right {F : Prop} (_ : F) (h : sp_law_two_right K w vs H Q E) : t_law_two_right K w { nx := fun _ H' => Q .non H', rt := Q } (start N_law_two_right vs) H := by
  obtain ⟨f, us, es, nm, cs, j, rfl, hu, du, ok, g, hb, h64, N, q⟩ := h
  obtain ⟨v1, v2, rfl⟩ : ∃ v1 v2, us = [v1, v2] := by
    match us, hu with
    | [a, b], _ => exact ⟨a, b, rfl⟩
  obtain ⟨e1, e2, rfl, d1, d2⟩ : ∃ e1 e2, es = [e1, e2] ∧ Dp K H v1 e1.data ∧ Dp K H v2 e2.data := by
    match es, du with
    | [e1, e2], .cons a (.cons b .nil) => exact ⟨e1, e2, rfl, a, b⟩
  obtain ⟨o1, p1⟩ := ok e1 (by simp)
  obtain ⟨o2, p2⟩ := ok e2 (by simp)
  have b1 := Wt.byte g hb o1
  have b2 := Wt.byte g hb o2
  have p12 : ∀ {k : Fin 7}, (Wt.two k e1 e2).deep ≤ 11 := deep2 p1 p2
  have p21 : ∀ {k : Fin 7}, (Wt.two k e2 e1).deep ≤ 11 := deep2 p2 p1
  unfold t_law_two_right
  refine R.seq (R.for' (R.strIter (R.c ⟨"+&|^=", rfl, ?_⟩)))
  refine R.loop walk_str (fun i σ H' => ∃ v3, σ = [some (.ref f), some v1, some v2, v3, none] ∧ Same H H') ⟨none, rfl, Same.refl _⟩ (fun _ _ _ _ _ => True.intro) ?_ ?_
  · rintro i x σ H3 H4 hi ⟨v3, rfl, s⟩ ⟨rfl, c, hc, rfl⟩
    obtain ⟨k, hk, ek⟩ := five_at hc
    rw [ek]
    refine R.gName (R.ifS (cmp_now (ea := .two k e1 e2) (eb := .two k e2 e1) (N.mono s) rfl ?_ (fun H5 s5 => ?_) (Nat.le_trans p12 (by decide)) (Nat.le_trans p21 (by decide)) (sg_comm hk b1.1 b2.1) fun H6 s6 => R.iF (R.next ⟨_, rfl, s.trans s6⟩)))
    · exact DX.t3 (DX.v (.str _) rfl) (fun H' s' => DX.v (Dp.mono (s.trans s') d1) rfl) fun H' s' => DX.v (Dp.mono (s.trans s') d2) rfl
    · exact DX.t3 (DX.v (.str _) rfl) (fun H' s' => DX.v (Dp.mono (s.trans (s5.trans s')) d2) rfl) fun H' s' => DX.v (Dp.mono (s.trans (s5.trans s')) d1) rfl
  rintro σ H3 ⟨v3, rfl, s⟩
  have N3 := N.mono s
  replace d1 := Dp.mono s d1
  replace d2 := Dp.mono s d2
  replace q := fun H' (z : Same H3 H') => q H' (s.trans z)
  clear N s
  have x1 : ∀ {H' : Hp}, Same H3 H' → DX K (tVar 1) [some (V.ref f), some v1, some v2, v3, none] H' e1.data := fun s => DX.v (Dp.mono s d1) rfl
  have x2 : ∀ {H' : Hp}, Same H3 H' → DX K (tVar 2) [some (V.ref f), some v1, some v2, v3, none] H' e2.data := fun s => DX.v (Dp.mono s d2) rfl
  have t12 : ∀ {H' : Hp} (k : Fin 7) (z : Str), sgW k = z → Same H3 H' → DX K (tTup (tCons (tC (.str z)) (tCons (tVar 1) (tCons (tVar 2) tNil)))) [some (V.ref f), some v1, some v2, v3, none] H' (Wt.two k e1 e2).data := fun k z e s => by
    subst e
    exact DX.t3 (DX.s _) (fun H' s' => x1 (s.trans s')) fun H' s' => x2 (s.trans s')
  -- differences and sums
  refine R.seq (R.ifS (R.or' (cmp_now (ea := .two 1 (.two 0 e1 e2) e2) (eb := e1) N3 rfl (DX.t3 (DX.s "-") (fun H' s' => t12 0 "+" rfl s') fun H' s' => x2 s') (fun H' s' => x1 s') (Nat.le_trans (deep2 p12 (Nat.le_trans p2 (by decide))) (by decide)) (Nat.le_trans p1 (by decide)) (sg_off b1).1 fun H4 s4 => R.iF ?_)))
  refine cmp_now (ea := .two 0 (.two 1 e1 e2) e2) (eb := e1) (N3.mono s4) rfl (DX.t3 (DX.s "+") (fun H' s' => t12 1 "-" rfl (s4.trans s')) fun H' s' => x2 (s4.trans s')) (fun H' s' => x1 (s4.trans s')) (Nat.le_trans (deep2 p12 (Nat.le_trans p2 (by decide))) (by decide)) (Nat.le_trans p1 (by decide)) (sg_off b1).2 fun H5 s5 => R.iF (R.next ?_)
  replace s5 := s4.trans s5
  refine R.seq (R.ifS (cmp_now (ea := .two 0 (.two 2 e1 e2) (.two 3 e1 e2)) (eb := .two 0 e1 e2) (N3.mono s5) rfl (DX.t3 (DX.s "+") (fun H' s' => t12 2 "&" rfl (s5.trans s')) fun H' s' => t12 3 "|" rfl (s5.trans s')) (fun H' s' => t12 0 "+" rfl (s5.trans s')) (Nat.le_trans (deep2 p12 p12) (by decide)) (Nat.le_trans p12 (by decide)) sg_parts fun H6 s6 => R.iF (R.next ?_)))
  replace s6 := s5.trans s6
  refine R.seq (R.ifS (cmp_now (ea := .two 0 (.two 4 e1 e2) (.two 2 e1 e2)) (eb := .two 3 e1 e2) (N3.mono s6) rfl (DX.t3 (DX.s "+") (fun H' s' => t12 4 "^" rfl (s6.trans s')) fun H' s' => t12 2 "&" rfl (s6.trans s')) (fun H' s' => t12 3 "|" rfl (s6.trans s')) (Nat.le_trans (deep2 p12 p12) (by decide)) (Nat.le_trans p12 (by decide)) (sg_unlike b1 b2) fun H7 s7 => R.iF (R.next ?_)))
  replace s7 := s6.trans s7
  -- below one another
  refine R.seq (R.asg (R.op (R.op (now_call (e := .two 5 e1 e2) (N3.mono s7) rfl (t12 5 "<" rfl s7) (Nat.le_trans p12 (by decide)) fun H8 s8 => now_call (e := .two 5 e2 e1) (N3.mono (s7.trans s8)) rfl (DX.t3 (DX.s "<") (fun H' s' => x2 ((s7.trans s8).trans s')) fun H' s' => x1 ((s7.trans s8).trans s')) (Nat.le_trans p21 (by decide)) fun H9 s9 => R.addI (now_call (e := .two 6 e1 e2) (N3.mono ((s7.trans s8).trans s9)) rfl (t12 6 "=" rfl ((s7.trans s8).trans s9)) (Nat.le_trans p12 (by decide)) fun H10 s10 => R.addI (R.gName ?_))))))
  have sA := ((s7.trans s8).trans s9).trans s10
  rw [show (Wt.two 5 e1 e2).val nm cs + (Wt.two 5 e2 e1).val nm cs + (Wt.two 6 e1 e2).val nm cs = 1 from sg_below _ _]
  have y1 : ∀ {H' : Hp}, Same H3 H' → DX K (tVar 1) [some (V.ref f), some v1, some v2, v3, some (.int 1)] H' e1.data := fun s => DX.v (Dp.mono s d1) rfl
  refine R.ret (R.andV (R.op (R.var (R.c (R.eqIx ⟨_, rfl, R.iT ?_⟩)))))
  refine R.andV (R.op (now_call (e := .neg e1) (N3.mono sA) rfl (DX.t2 (DX.s "not") fun H' s' => y1 (sA.trans s')) (Nat.le_trans (Nat.succ_le_succ p1) (by decide)) fun H11 s11 => now_call (e := .two 6 e1 (.num 0)) (N3.mono (sA.trans s11)) rfl (DX.t3 (DX.s "=") (fun H' s' => y1 ((sA.trans s11).trans s')) fun H' s' => DX.t2 (DX.s "number") fun H' s' => DX.n 0) (Nat.le_trans (deep2 p1 (by show (1 : Nat) ≤ 10; decide)) (by decide)) fun H12 s12 => R.eqI ⟨_, rfl, ?_⟩))
  rw [show (Wt.neg e1).val nm cs = (Wt.two 6 e1 (.num 0)).val nm cs from rfl, decide_eq_true rfl]
  have sB := (sA.trans s11).trans s12
  refine R.iT (R.op (now_call (e := .two 1 e1 e1) (N3.mono sB) rfl (DX.t3 (DX.s "-") (fun H' s' => y1 (sB.trans s')) fun H' s' => y1 (sB.trans s')) (Nat.le_trans (deep2 p1 p1) (by decide)) fun H13 s13 => R.c (R.eqI ?_)))
  rw [show (Wt.two 1 e1 e1).val nm cs = 0 from sg_self _, decide_eq_true rfl]
  exact q _ (sB.trans s13)
theorem pure_law_three_right {F : Prop} (_ : F) (h : sp_law_three_right K w vs H Q E) : t_law_three_right K w { nx := fun _ H' => Q .non H', rt := Q } (start N_law_three_right vs) H := by
  obtain ⟨f, us, es, nm, cs, j, rfl, hu, du, ok, g, hb, h64, N, q⟩ := h
  obtain ⟨v1, v2, v3, rfl⟩ : ∃ v1 v2 v3, us = [v1, v2, v3] := by
    match us, hu with
    | [a, b, c], _ => exact ⟨a, b, c, rfl⟩
  obtain ⟨e1, e2, e3, rfl, d1, d2, d3⟩ : ∃ e1 e2 e3, es = [e1, e2, e3] ∧ Dp K H v1 e1.data ∧ Dp K H v2 e2.data ∧ Dp K H v3 e3.data := by
    match es, du with
    | [e1, e2, e3], .cons a (.cons b (.cons c .nil)) => exact ⟨e1, e2, e3, rfl, a, b, c⟩
  obtain ⟨o1, p1⟩ := ok e1 (by simp)
  obtain ⟨o2, p2⟩ := ok e2 (by simp)
  obtain ⟨o3, p3⟩ := ok e3 (by simp)
  have b1 := Wt.byte g hb o1
  have b2 := Wt.byte g hb o2
  have b3 := Wt.byte g hb o3
  have p12 : ∀ {k : Fin 7}, (Wt.two k e1 e2).deep ≤ 11 := deep2 p1 p2
  have p23 : ∀ {k : Fin 7}, (Wt.two k e2 e3).deep ≤ 11 := deep2 p2 p3
  unfold t_law_three_right
  refine R.seq (R.for' (R.strIter (R.c ⟨"+&|^", rfl, ?_⟩)))
  refine R.loop walk_str (fun i σ H' => ∃ v4, σ = [some (.ref f), some v1, some v2, some v3, v4] ∧ Same H H') ⟨none, rfl, Same.refl _⟩ (fun _ _ _ _ _ => True.intro) ?_ ?_
  · rintro i x σ H3 H4 hi ⟨v4, rfl, s⟩ ⟨rfl, c, hc, rfl⟩
    obtain ⟨k, hk, ek⟩ := four_at hc
    rw [ek]
    refine R.gName (R.ifS (cmp_now (ea := .two k (.two k e1 e2) e3) (eb := .two k e1 (.two k e2 e3)) (N.mono s) rfl ?_ (fun H5 s5 => ?_) (Nat.le_trans (deep2 p12 (Nat.le_trans p3 (by decide))) (by decide)) (Nat.le_trans (deep2 (Nat.le_trans p1 (by decide)) p23) (by decide)) (sg_assoc hk b1.1 b2.1 b3.1) fun H6 s6 => R.iF (R.next ⟨_, rfl, s.trans s6⟩)))
    · exact DX.t3 (DX.v (.str _) rfl) (fun H' s' => DX.t3 (DX.v (.str _) rfl) (fun H'' s'' => DX.v (Dp.mono (s.trans (s'.trans s'')) d1) rfl) fun H'' s'' => DX.v (Dp.mono (s.trans (s'.trans s'')) d2) rfl) fun H' s' => DX.v (Dp.mono (s.trans s') d3) rfl
    · exact DX.t3 (DX.v (.str _) rfl) (fun H' s' => DX.v (Dp.mono (s.trans (s5.trans s')) d1) rfl) fun H' s' => DX.t3 (DX.v (.str _) rfl) (fun H'' s'' => DX.v (Dp.mono (s.trans (s5.trans (s'.trans s''))) d2) rfl) fun H'' s'' => DX.v (Dp.mono (s.trans (s5.trans (s'.trans s''))) d3) rfl
  rintro σ H3 ⟨v4, rfl, s⟩
  have N3 := N.mono s
  refine R.ret (R.op (now_call (e := .cell (.two 0 e1 (.num 64))) N3 rfl ?_ (Nat.le_trans (Nat.succ_le_succ (deep2 p1 (by show (1 : Nat) ≤ 10; decide))) (by decide)) fun H4 s4 => now_call (e := .cell e1) (N3.mono s4) rfl ?_ (Nat.le_trans (Nat.succ_le_succ p1) (by decide)) fun H5 s5 => R.eqI ?_))
  · exact DX.t2 (DX.s "cell") fun H' s' => DX.t3 (DX.s "+") (fun H'' s'' => DX.v (Dp.mono (s.trans (s'.trans s'')) d1) rfl) fun H'' s'' => DX.t2 (DX.s "number") fun H3 s3 => DX.n 64
  · exact DX.t2 (DX.s "cell") fun H' s' => DX.v (Dp.mono (s.trans (s4.trans s')) d1) rfl
  · have e : (Wt.cell (.two 0 e1 (.num 64))).val nm cs = (Wt.cell e1).val nm cs := by
      show cs.getD ((e1.val nm cs + 64) % 256 % 64).toNat 0 = cs.getD (e1.val nm cs % 64).toNat 0
      rw [show (e1.val nm cs + 64) % 256 % 64 = e1.val nm cs % 64 by omega]
    rw [e, decide_eq_true rfl]
    exact q _ (s.trans (s4.trans s5))
end
end Rl
namespace Rl
open PySem PySem.Spec PyProof.Rows L2 NdefX LamX
section
variable {K : PySem.W.Frag} {w : World} {vs : List V} {H H' : Hp} {Q : VK} {E : XK} {n : Nat}
theorem smtL {D : Addr} {xs : List V} {o : HO} (e : H D = some (.lst xs)) : SmT H (upd H D o) := fun a u z t => upd_mut (fun x => by
  rw [x, e] at z
  cases z
  rcases t with ⟨_, t⟩ | ⟨_, _, t⟩ <;> cases t) z
theorem put_deep (x : Str) (b : Int) : ∀ e : Wt, (e.put x b).deep ≤ e.deep
  | .num _ => Nat.le_refl _
  | .nam s => by
    unfold Wt.put
    split <;> exact Nat.le_refl _
  | .cell e => Nat.succ_le_succ (put_deep x b e)
  | .neg e => Nat.succ_le_succ (put_deep x b e)
  | .two k e f => by
    have h1 := put_deep x b e
    have h2 := put_deep x b f
    show max (e.put x b).deep (f.put x b).deep + 1 ≤ max e.deep f.deep + 1
    omega
theorem pu_call {v : V} {e : Wt} {x : Str} {b : Int} (hv : Dp K H v e.data) (hd : e.deep ≤ n) (q : ∀ v' H', Same H H' → Dp K H' v' (e.put x b).data → Q v' H') : spPu K w n ([v, .str x, .int b] ++ []) H Q E := by
  have := deep_pos e
  obtain ⟨m, rfl⟩ : ∃ m, n = m + 1 := ⟨n - 1, by omega⟩
  exact ⟨v, e, x, b, rfl, hv, hd, q⟩
/-- a worth with worths within -/
theorem put_sub {z x : Str} {b : Int} {v : V} {subs : List Wt} (hz : z ≠ "name" ∧ z ≠ "number") (h1 : 1 ≤ subs.length) (h2 : subs.length ≤ 2) (hd : ∀ e ∈ subs, e.deep ≤ n) (dv : Dp K H v (.tuple (.str z :: subs.map Wt.data)))
    (q : ∀ v' H', Same H H' → Dp K H' v' (.tuple (.str z :: subs.map fun e => (e.put x b).data)) → Q v' H') : t_law_put K w (spPu K w n) { nx := fun _ H' => Q .non H', rt := Q } (start N_law_put [v, .str x, .int b]) H := by
  obtain ⟨p, xs, rfl, hp, dx⟩ := dp_tup dv
  obtain ⟨x0, ys, rfl, d0, dy⟩ : ∃ x0 ys, xs = x0 :: ys ∧ Dp K H x0 (.str z) ∧ DpAll K H ys (subs.map Wt.data) := by
    cases dx with
    | cons a t => exact ⟨_, _, rfl, a, t⟩
  cases dp_str d0
  have ly : ys.length = subs.length := by rw [DpAll.length dy, List.length_map]
  unfold t_law_put
  refine R.seq (R.ifS (R.test (R.op (R.op (R.var (R.c (R.ixT0 hp (R.c (R.eqS (R.bl (R.iDF hz.1 (R.next ?_)))))))))))) 
  refine R.seq (R.ifS (R.test (R.op (R.op (R.var (R.c (R.ixT0 hp (R.c (R.eqS (R.bl (R.iDF hz.2 (R.next ?_)))))))))))) 
  refine R.ret (R.op (R.sl (R.var (R.noPart (R.part (R.c (R.exI (.inr ⟨p, _, rfl, hp, ?_, fun l hl => ?_⟩))))))))
  · rintro ⟨_, e⟩
    revert e
    rw [show (some (1 : Int)) = some ((1 : Nat) : Int) from rfl, HT.sIx_nat, List.length_cons]
    omega
  rw [show cutV (V.str z :: ys) none (some 1) = [V.str z] from cut_toI _ (by decide)]
  have s1 : Same H (upd H l (.tup [.str z])) := same_upd hl
  have g1 : (upd H l (.tup [.str z])) l = some (.tup [.str z]) := upd_same
  have hp1 := SqT.mono s1 hp
  have dy1 := DpAll.mono s1 dy
  generalize upd H l (.tup [.str z]) = H1 at s1 g1 hp1 dy1 ⊢
  refine R.cb (R.cons (R.lc (R.seqIter (R.sl (R.var (R.part (R.c (R.exI (R.noPart (.inr ⟨p, _, rfl, hp1, ?_, fun l2 hl2 => ?_⟩))))))))))
  · rintro ⟨e, _⟩
    revert e
    rw [show (some (1 : Int)) = some ((1 : Nat) : Int) from rfl, HT.sIx_nat, List.length_cons]
    omega
  rw [show cutV (V.str z :: ys) (some 1) none = ys from cut_fromI _ (by decide)]
  have s2 : Same H1 (upd H1 l2 (.tup ys)) := same_upd hl2
  have g2 : (upd H1 l2 (.tup ys)) l2 = some (.tup ys) := upd_same
  have g12 := s2 _ _ g1
  have dy2 := DpAll.mono s2 dy1
  generalize upd H1 l2 (.tup ys) = H2 at s2 g2 g12 dy2 ⊢
  refine Or.inr ⟨l2, rfl, ⟨_, SqT.of g2⟩, fun D hD => ?_⟩
  refine R.lcI walk_tup (fun i H' => Same H2 H' ∧ ∃ us, H' D = some (.lst us) ∧ DpAll K H' us ((subs.take i).map fun e => (e.put x b).data)) ⟨same_upd hD, [], upd_same, .nil⟩ (fun i H' _ ⟨s, _⟩ => SqT.of (s _ _ g2)) ?_ ?_
  · rintro i y H3 H4 hi ⟨s3, us, gD, du⟩ ⟨rfl, hy⟩
    have hi2 : i < subs.length := by omega
    obtain ⟨d, hd', dp⟩ := DpAll.get dy2 hy
    rw [List.getElem?_map, List.getElem?_eq_getElem hi2] at hd'
    cases Option.some.inj hd'
    refine ⟨rfl, R.yes (iteT ?_)⟩
    refine R.call (R.cons (R.var (R.cons (R.var (R.cons (R.var (R.nil (pu_call (Dp.mono s3 dp) (hd _ (List.getElem_mem hi2)) fun v' H5 s5 dv' => ?_))))))))
    have lu : us.length ≤ 2 := by rw [DpAll.length du, List.length_map, List.length_take]; omega
    have gD5 := s5 _ _ gD
    refine ⟨us, gD5, Nat.lt_of_le_of_lt lu (by decide), Same.mut hD (s3.trans s5), us ++ [v'], upd_same, ?_⟩
    have tk : subs.take (i + 1) = subs.take i ++ [subs[i]] := by rw [List.take_succ, List.getElem?_eq_getElem hi2]; rfl
    rw [tk, List.map_append]
    have sm := smtL (o := .lst (us ++ [v'])) gD5
    have tu : ∀ e ∈ subs, TuO (n + 1) (e.put x b).data := fun e he => Wt.tuoS _ (Nat.le_trans (put_deep x b e) (hd e he))
    refine dpAll_append (dpAll_map (fun d hd2 v hv => ?_) (DpAll.mono s5 du)) (.cons (Dp.smt sm (tu _ (List.getElem_mem hi2)) dv') .nil)
    obtain ⟨e, he, rfl⟩ := List.mem_map.mp hd2
    exact Dp.smt sm (tu e (List.mem_of_mem_take he)) hv
  · rintro H3 ⟨s3, us, gD, du⟩
    have e : subs.take ys.length = subs := by rw [ly, List.take_length]
    rw [e] at du
    have lu : us.length = subs.length := by rw [DpAll.length du, List.length_map]
    refine R.nil (R.tupL (SqL.of gD) fun t ht => ?_)
    have s4 : Same H3 (upd H3 t (.tup us)) := same_upd ht
    refine R.catT (SqT.of (s4 _ _ (s3 _ _ g12))) (SqT.of upd_same) (by simp) ?_ (fun z => ?_) fun _ l5 hl5 => ?_
    · exact Nat.le_trans (m := 3) (by show 1 + us.length ≤ 3; omega) (by decide)
    · rw [z] at lu
      exact absurd lu.symm (by show ¬ subs.length = 0; omega)
    · have s5 : Same (upd H3 t (.tup us)) (upd (upd H3 t (.tup us)) l5 (.tup ([.str z] ++ us))) := same_upd hl5
      refine q _ _ (s1.trans (s2.trans (s3.trans (s4.trans s5)))) (.tup (SqT.of upd_same) (.cons (.str z) (DpAll.mono (s4.trans s5) du)))
theorem pure_law_put {F : Prop} (_ : F) (h : spPu K w (n + 1) vs H Q E) : t_law_put K w (spPu K w n) { nx := fun _ H' => Q .non H', rt := Q } (start N_law_put vs) H := by
  obtain ⟨v, e, x, b, rfl, dv, hd, q⟩ := h
  cases e with
  | num m =>
    obtain ⟨p, xs, rfl, hp, dx⟩ := dp_tup (show Dp K H v (.tuple [.str "number", .int m]) from dv)
    obtain ⟨y1, y2, rfl, a1, a2⟩ : ∃ y1 y2, xs = [y1, y2] ∧ Dp K H y1 (.str "number") ∧ Dp K H y2 (.int m) := by
      cases dx with
      | cons a t =>
        cases t with
        | cons b u =>
          cases u
          exact ⟨_, _, rfl, a, b⟩
    cases dp_str a1
    unfold t_law_put
    refine R.seq (R.ifS (R.test (R.op (R.op (R.var (R.c (R.ixT0 hp (R.c (R.eqS (R.bl (R.iDF (by decide) (R.next ?_))))))))))))
    refine R.seq (R.ifS (R.test (R.op (R.op (R.var (R.c (R.ixT0 hp (R.c (R.eqS (R.bl (R.iDT rfl ?_)))))))))))
    exact R.ret (R.var (q _ _ (Same.refl _) dv))
  | nam m =>
    obtain ⟨p, xs, rfl, hp, dx⟩ := dp_tup (show Dp K H v (.tuple [.str "name", .str m]) from dv)
    obtain ⟨y1, y2, rfl, a1, a2⟩ : ∃ y1 y2, xs = [y1, y2] ∧ Dp K H y1 (.str "name") ∧ Dp K H y2 (.str m) := by
      cases dx with
      | cons a t =>
        cases t with
        | cons b u =>
          cases u
          exact ⟨_, _, rfl, a, b⟩
    cases dp_str a1
    cases dp_str a2
    unfold t_law_put
    refine R.seq (R.ifS (R.test (R.op (R.op (R.var (R.c (R.ixT0 hp (R.c (R.eqS (R.bl (R.iDT rfl ?_)))))))))))
    refine R.ret (R.ifE (R.test (R.op (R.op (R.var (R.c (R.ixT1 hp (R.var (R.eqS (R.bl ?_))))))))))
    by_cases z : m = x
    · have ep : (Wt.nam m).put x b = .num b := if_pos z
      rw [ep] at q
      refine R.iDT z (R.tup (R.cons (R.c (R.cons (R.var (R.nil ⟨by simp only [List.length_cons, List.length_nil]; decide, fun t ht => ?_⟩))))))
      exact q _ _ (same_upd ht) (.tup (SqT.of upd_same) (.cons (.str _) (.cons (.int _) .nil)))
    · have ep : (Wt.nam m).put x b = .nam m := if_neg z
      rw [ep] at q
      exact R.iDF z (R.var (q _ _ (Same.refl _) dv))
  | cell e =>
    refine put_sub (z := "cell") (subs := [e]) (by decide) (by simp) (by simp) (fun e' he => ?_) dv q
    rw [List.mem_singleton.mp he]
    exact Nat.le_of_succ_le_succ hd
  | neg e =>
    refine put_sub (z := "not") (subs := [e]) (by decide) (by simp) (by simp) (fun e' he => ?_) dv q
    rw [List.mem_singleton.mp he]
    exact Nat.le_of_succ_le_succ hd
  | two k e f =>
    refine put_sub (z := sgW k) (subs := [e, f]) ((by decide +kernel : ∀ k : Fin 7, sgW k ≠ "name" ∧ sgW k ≠ "number") k) (by simp) (by simp) (fun e' he => ?_) dv q
    have hd : max e.deep f.deep ≤ n := Nat.le_of_succ_le_succ hd
    simp only [List.mem_cons, List.not_mem_nil, or_false] at he
    rcases he with rfl | rfl <;> omega
/-- a name's own byte put for it changes nothing -/
theorem put_val {x : Str} {nm : List (Str × Int)} {cs : List Int} : ∀ e : Wt, (e.put x (nmV nm x)).val nm cs = e.val nm cs
  | .num _ => rfl
  | .nam s => by
    unfold Wt.put
    by_cases z : s = x
    · rw [if_pos z, z]
      rfl
    · rw [if_neg z]
  | .cell e => by
    show cs.getD ((e.put x (nmV nm x)).val nm cs % 64).toNat 0 = cs.getD (e.val nm cs % 64).toNat 0
    rw [put_val e]
  | .neg e => by
    show (if decide ((e.put x (nmV nm x)).val nm cs = 0) then (1 : Int) else 0) = if decide (e.val nm cs = 0) then 1 else 0
    rw [put_val e]
  | .two k e f => by
    show sgF k ((e.put x (nmV nm x)).val nm cs) ((f.put x (nmV nm x)).val nm cs) = sgF k (e.val nm cs) (f.val nm cs)
    rw [put_val e, put_val f]
end
end Rl
namespace Rl
open PySem PySem.Spec PyProof.Rows L2 NdefX LamX
section
variable {K : PySem.W.Frag} {w : World}
/-- [.. for k in range(n)], each drawn: a new list -/
theorem lcS31 {σ : L2.St} {H : Hp} {Q : VK} {te : TE} {j : Nat} {lo : Int} {m : Nat} {r : Addr} (P : Hp → V → Prop) (Pfx : ∀ H H' v, P H v → Fx r H H' → P H' v) (Pmut : ∀ H D v xs o, P H v → H D = some (.lst xs) → P (upd H D o) v)
    (hS : Spr H r) (hm : m < 1000) (hw : ∀ x, wipe ((wipe σ [j]).set j (some x)) [j] = wipe σ [j])
    (he : ∀ i H', i < m → Spr H' r → ∀ Q' : VK, (∀ v H'', Fx r H' H'' → Spr H'' r → P H'' v → Q' v H'') → te ((wipe σ [j]).set j (some (.int (lo + (i : Nat))))) H' Q')
    (q : ∀ D H' vs, H D = none → D ≠ r → Fx r H H' → Spr H' r → H' D = some (.lst vs) → vs.length = m → (∀ v ∈ vs, P H' v) → Q (.ref D) H') : ∀ D, H D = none → R.LcLoop (Itr lo m) (L2.gName j) tYes te [j] σ D H Q := by
  intro D hD
  have nD : D ≠ r := hS.ne hD
  refine R.lcI walk_range (fun i H' => ∃ vs : List V, Fx r H H' ∧ Spr H' r ∧ H' D = some (.lst vs) ∧ vs.length = i ∧ ∀ v ∈ vs, P H' v) ⟨[], Same.but (same_upd hD), hS.keep (same_upd hD), upd_same, rfl, fun _ z => (nomatch z)⟩ (fun _ _ _ _ => True.intro) ?_ ?_
  · rintro i x H1 H' hi ⟨vs, f1, S1, gD, hl, hP⟩ ⟨rfl, rfl⟩
    refine ⟨hw _, R.yes (iteT ?_)⟩
    refine he i _ hi S1 _ fun v H2 f2 S2 p2 => ?_
    have g2 := f2.at nD gD
    refine ⟨vs, g2, Nat.lt_of_le_of_lt (m := 1000) (by omega) (by decide), vs ++ [v], Fx.mutN hD (f1.trans f2), S2.mut nD, upd_same, by rw [List.length_append, hl]; rfl, fun y hy => ?_⟩
    rcases List.mem_append.mp hy with z | z
    · exact Pmut _ _ _ _ _ (Pfx _ _ _ (hP y z) f2) g2
    · rw [List.mem_singleton.mp z]
      exact Pmut _ _ _ _ _ p2 g2
  · rintro H' ⟨vs, f1, S1, gD, hl, hP⟩
    exact q D H' vs hD nD f1 S1 gD hl hP
theorem ints_of {vs : List V} (h : ∀ v ∈ vs, ∃ n : Int, v = .int n ∧ 0 ≤ n ∧ n < 256) : ∃ ds : List Int, vs = ds.map V.int ∧ By ds := by
  induction vs with
  | nil => exact ⟨[], rfl, fun _ z => (nomatch z)⟩
  | cons v vs ih =>
    obtain ⟨n, rfl, n0, n1⟩ := h v (List.mem_cons_self ..)
    obtain ⟨ds, rfl, hb⟩ := ih fun y hy => h y (List.mem_cons_of_mem _ hy)
    exact ⟨n :: ds, rfl, fun x hx => (List.mem_cons.mp hx).elim (fun z => z ▸ ⟨n0, n1⟩) (hb x)⟩
end
section
variable {K : PySem.W.Frag} {w : World} {vs : List V} {H H' H0 : Hp} {Q : VK} {E : XK} {σ : L2.St} {r : Addr}
theorem nk31 {a b : Addr} {x y : HO} (h : H a = some x) (g : H b = some y) (n : x ≠ y) : a ≠ b := fun z => by
  rw [z, g] at h
  exact n (Option.some.inj h).symm
theorem dput31 {ty td tv : TE} {nx bk ct : L2.St → Hp → Prop} {rt : VK} (q : tv σ H fun v H1 => td σ H1 fun x H2 => ty σ H2 fun y H3 => ∃ a H4, x = .ref a ∧ DPut H3 a y v H4 ∧ nx σ H4) : sDPut td ty tv ⟨nx, rt, bk, ct⟩ σ H := q
/-- a worth among what is drawn -/
def WtP (K : PySem.W.Frag) (r : Addr) (H : Hp) (v : V) : Prop := ∃ e : Wt, Dp K (but r H) v e.data ∧ e.Ok ∧ e.deep ≤ 6
def ByP (_ : Hp) (v : V) : Prop := ∃ n : Int, v = .int n ∧ 0 ≤ n ∧ n < 256
theorem but_smt {D : Addr} {xs : List V} {o : HO} (e : H D = some (.lst xs)) : SmT (but r H) (but r (upd H D o)) := fun a u z t => by
  obtain ⟨na, z⟩ := but_of z
  refine but_get na (upd_mut (fun x => ?_) z)
  rw [x, e] at z
  cases z
  rcases t with ⟨_, t⟩ | ⟨_, _, t⟩ <;> cases t
theorem WtP.mutD {D : Addr} {v : V} {kvs : List (Key × V)} {o : HO} (h : WtP K r H v) (g : H D = some (.dK kvs)) : WtP K r (upd H D o) v := by
  obtain ⟨e, d, ok, p⟩ := h
  refine ⟨e, Dp.smt (fun a u z t => ?_) (Wt.tuoS e p) d, ok, p⟩
  obtain ⟨na, z⟩ := but_of z
  refine but_get na (upd_mut (fun x => ?_) z)
  rw [x, g] at z
  cases z
  rcases t with ⟨_, t⟩ | ⟨_, _, t⟩ <;> cases t
theorem ext_smt (e : ExtN H H') : SmT H H' := fun a o z t => e a o z fun ps y => by
  rw [y] at t
  rcases t with ⟨_, t⟩ | ⟨_, _, t⟩ <;> cases t
theorem tabs_off {p : Addr} {kvs : List (Key × V)} (T : TabsN (NT K) H) (gp : H p = some (.dK kvs)) (k : ∀ a u, H a = some u → a ≠ p → H' a = some u) : TabsN (NT K) H' := by
  intro x hx
  obtain ⟨ps, h1, h2, h3⟩ := T x hx
  refine ⟨ps, k _ _ h1 (fun z => ?_), h2, fun pos cv hc => ?_⟩
  · rw [z, gp] at h1
    cases h1
  · obtain ⟨c, e1, e2⟩ := h3 pos cv hc
    refine ⟨c, e1, k _ _ e2 fun z => ?_⟩
    rw [z, gp] at e2
    cases e2
theorem WtP.fx {v : V} (h : WtP K r H v) (f : Fx r H H') : WtP K r H' v := by
  obtain ⟨e, d, o, p⟩ := h
  exact ⟨e, Dp.mono f d, o, p⟩
theorem WtP.mut {D : Addr} {v : V} {xs : List V} {o : HO} (h : WtP K r H v) (g : H D = some (.lst xs)) : WtP K r (upd H D o) v := by
  obtain ⟨e, d, ok, p⟩ := h
  exact ⟨e, Dp.smt (but_smt g) (Wt.tuoS e p) d, ok, p⟩
/-- tables and code objects stay, whatever becomes of the spring -/
theorem tabs_fx (T : TabsN (NT K) H) (S : Spr H r) (f : Fx r H H') : TabsN (NT K) H' := by
  obtain ⟨a, b, c, hr, _⟩ := S
  intro p hp
  obtain ⟨ps, h1, h2, h3⟩ := T p hp
  refine ⟨ps, f.at (fun z => ?_) h1, h2, fun pos cv hc => ?_⟩
  · rw [z, hr] at h1
    cases h1
  · obtain ⟨c, e1, e2⟩ := h3 pos cv hc
    refine ⟨c, e1, f.at (fun z => ?_) e2⟩
    rw [z, hr] at e2
    cases e2
theorem fx_mutS {l : Addr} {o : HO} (hl : H l = none) (f : Fx r H H') : Fx r H (upd H' l o) := Fx.mutN hl f
/-- a call of a def that is handed the def within, its cells tracked -/
theorem two_held {m : Nat} {c1 c2 a1 a2 f c' : Addr} {o1 o2 : Obj} {us : List V} {es : List Wt} {nm : List (Str × Int)} {cs : List Int} {j : Nat} (n1 : H c1 = none) (n2 : H c2 = none) (nc : c1 ≠ c2) (d1 : o1.data = .cell (some (.ref a1))) (d2 : o2.data = .cell (some (.ref a2))) (hf : H f = some (FnO f (NF.of on_law "_law_now" on_q_law (on_cl c1 c2) c'))) (hc : H c' = some (CodeO c' on_q_law)) (env : Env K H a1 (.ref a2) nm cs)
    (hu : us.length = m) (du : DpAll K H us (es.map Wt.data)) (ok : ∀ e ∈ es, e.Ok ∧ e.deep ≤ 10) (g : NmG nm j) (hb : By cs) (h64 : cs.length = 64) (q : ∀ H2, Same (upd (upd H c1 (CellO c1 o1)) c2 (CellO c2 o2)) H2 → Q (.bl true) H2) : spTwo K m (.ref f :: us) (upd (upd H c1 (CellO c1 o1)) c2 (CellO c2 o2)) Q E := by
  have s1 : Same H (upd H c1 (CellO c1 o1)) := same_upd n1
  have n2' : (upd H c1 (CellO c1 o1)) c2 = none := by rw [upd_ne nc.symm]; exact n2
  have s := s1.trans (same_upd (o := CellO c2 o2) n2')
  have g1 : (upd (upd H c1 (CellO c1 o1)) c2 (CellO c2 o2)) c1 = some (CellO c1 o1) := by rw [upd_ne nc]; exact upd_same
  have g2 : (upd (upd H c1 (CellO c1 o1)) c2 (CellO c2 o2)) c2 = some (CellO c2 o2) := upd_same
  have ne : ∀ {x : Addr} {u : HO} {c : Addr}, H x = some u → H c = none → x ≠ c := fun h n z => by rw [z, n] at h; cases h
  exact ⟨f, us, es, nm, cs, j, rfl, hu, DpAll.mono s du, ok, g, hb, h64, ⟨c', c1, c2, o1, o2, a1, a2, s _ _ hf, s _ _ hc, d1, d2, nc, g1, g2, ⟨ne hf n1, ne hf n2⟩, ⟨ne hc n1, ne hc n2⟩, Env.mono s env⟩, q⟩
theorem held_facts {c1 c2 : Addr} {o1 o2 : Obj} {H2 : Hp} (n1 : H c1 = none) (n2 : H c2 = none) (nc : c1 ≠ c2) (s2 : Same (upd (upd H c1 (CellO c1 o1)) c2 (CellO c2 o2)) H2) : H2 c1 = some (CellO c1 o1) ∧ H2 c2 = some (CellO c2 o2) ∧ Same H (but c1 (but c2 H2)) := by
  have s1 : Same H (upd H c1 (CellO c1 o1)) := same_upd n1
  have n2' : (upd H c1 (CellO c1 o1)) c2 = none := by rw [upd_ne nc.symm]; exact n2
  have s := s1.trans (same_upd (o := CellO c2 o2) n2')
  have g1 : (upd (upd H c1 (CellO c1 o1)) c2 (CellO c2 o2)) c1 = some (CellO c1 o1) := by rw [upd_ne nc]; exact upd_same
  have g2 : (upd (upd H c1 (CellO c1 o1)) c2 (CellO c2 o2)) c2 = some (CellO c2 o2) := upd_same
  have ne : ∀ {x : Addr} {u : HO} {c : Addr}, H x = some u → H c = none → x ≠ c := fun h n z => by rw [z, n] at h; cases h
  exact ⟨s2 _ _ g1, s2 _ _ g2, fun b u z => but_get (ne z n1) (but_get (ne z n2) (s2 _ _ (s _ _ z)))⟩
/-- the def within, called where it was made -/
theorem ncall {c1 c2 a1 a2 f c' : Addr} {te : TE} {e : Wt} {nm : List (Str × Int)} {cs : List Int} (hf : H f = some (FnO f (NF.of on_law "_law_now" on_q_law (on_cl c1 c2) c'))) (hc : H c' = some (CodeO c' on_q_law)) (env : Env K H a1 (.ref a2) nm cs) (h9 : σ[9]? = some (some (.ref f))) (h5 : slotAt σ 5 = some (.ref a1)) (h7 : slotAt σ 7 = some (.ref a2))
    (hx : DX K te σ H e.data) (hd : e.deep ≤ 24) (q : ∀ H', Same H H' → Q (.int (e.val nm cs)) H') : NdefX.tCallN (fun c => NF.of on_law "_law_now" on_q_law (on_cl c1 c2) c) 9 [5, 7] (fun _ _ => spCap2 (sp_law__law_now K w)) E0 (tCons te tNil) σ H Q := by
  refine ⟨f, c', h9, hf, R.cons (hx _ fun v H1 s1 dv => R.nil ⟨s1 _ _ hf, s1 _ _ hc, a1, a2, ?_, v, e, nm, cs, rfl, dv, hd, Env.mono s1 env, fun H2 s2 => q H2 (s1.trans s2)⟩)⟩
  show [slotAt σ 5, slotAt σ 7] = _
  rw [h5, h7]
theorem pure_law {F : Prop} (_ : F) (c1 c2 : Addr) (h : sp_law K w vs H Q E) : t_law K w c1 c2 { nx := fun _ H' => Q .non H', rt := Q } (start N_law vs) H := by
  obtain ⟨s, ns, rfl, hs, hl, T0, q⟩ := h
  unfold t_law
  refine R.seq (R.asg (R.call (R.cons (R.var (R.nil ⟨s, ns, rfl, hs, hl, fun r H1 e1 nr S1 => R.gName ?_⟩)))))
  have T1 : TabsN (NT K) H1 := T0.ext e1
  refine R.seq (R.for' (R.rng1 (R.cons (R.op (R.c (R.cb (R.cons (R.cb (R.cons (R.var (R.nil (R.lenLI (SqL.mono e1 hs) (R.cons (R.c (R.nil (R.min2 (R.addI (R.nil (R.rng1v (by split <;> omega) (by split <;> omega) ?_)))))))))))))))))))
  clear T0 e1 hs nr
  refine R.forR (fun i σ H' => ∃ (v2 v3 v5 v6 v7 v9 : Option V), σ = [some (.ref s), some (.ref r), v2, v3, none, v5, v6, v7, none, v9] ∧ Spr H' r ∧ TabsN (NT K) H') ⟨_, _, _, _, _, _, rfl, S1, T1⟩ ?_ ?_
  · rintro i σ H2 hi ⟨v2, v3, v5, v6, v7, v9, rfl, S2, T2⟩
    -- three worths
    refine R.gName (R.seq (R.asg (R.lc (R.rng1 (R.cons (R.c (R.nil (R.rng1v (j := 3) (by decide) (by decide) (lcS31 (WtP K r) (fun _ _ _ h f => h.fx f) (fun _ _ _ _ _ h g => h.mut g) S2 (by decide) (fun _ => rfl) (fun k Ha hk Sa Q' q' => ?_) fun D3 H3 us hD3 nD3 f3 S3 g3 l3 P3 => R.gName ?_)))))))))
    · refine R.call (R.cons (R.var (R.cons (R.op (R.c (R.call (R.cons (R.var (R.cons (R.c (R.nil ⟨r, 6, rfl, Sa, by decide, by decide, fun n Hb fb Sb n0 n1 => R.addI (R.nil (lw_call Sb (by omega) (by omega) fun v Hc e fc Sc dv ok dp => q' v Hc (fb.trans fc) Sc ⟨e, dv, ok, by omega⟩))⟩)))))))))))
    -- names
    refine R.seq (R.asg fun p hp => R.gName ?_)
    have np : p ≠ r := S3.ne hp
    have p0 : H2 p = none := Fx.freeS f3 S3 hp
    have s4 : Same H3 (upd H3 p (.dK [])) := same_upd hp
    have g4 : (upd H3 p (.dK [])) p = some (.dK (nmK [])) := upd_same
    have P4 : ∀ v ∈ us, WtP K r (upd H3 p (.dK [])) v := fun v hv => (P3 v hv).fx (Same.but s4)
    have g34 := s4 _ _ g3
    have f4 := f3.trans (Same.but s4)
    have S4 := S3.keep s4
    generalize upd H3 p (.dK []) = H4 at g4 P4 g34 f4 S4 ⊢
    refine R.seq (R.for' (R.seqIter (R.lst (R.cons (R.c (R.cons (R.c (R.cons (R.c (R.cons (R.c (R.cons (R.c (R.cons (R.c (R.nil ⟨by decide, fun l5 hl5 => ?_⟩))))))))))))))))
    have s5 : Same H4 (upd H4 l5 (.lst [.str "a", .str "b", .str "c", .str "d", .str "zero", .str "less"])) := same_upd hl5
    have g5 : (upd H4 l5 (.lst [.str "a", .str "b", .str "c", .str "d", .str "zero", .str "less"])) l5 = some (.lst [.str "a", .str "b", .str "c", .str "d", .str "zero", .str "less"]) := upd_same
    have P5 : ∀ v ∈ us, WtP K r (upd H4 l5 (.lst [.str "a", .str "b", .str "c", .str "d", .str "zero", .str "less"])) v := fun v hv => (P4 v hv).fx (Same.but s5)
    have nl5 : l5 ≠ r := S4.ne hl5
    have f5 := f4.trans (Same.but s5)
    have S5 := S4.keep s5
    have g54 := s5 _ _ g4
    have g534 := s5 _ _ g34
    generalize upd H4 l5 (.lst [.str "a", .str "b", .str "c", .str "d", .str "zero", .str "less"]) = H5 at g5 P5 f5 S5 g54 g534 ⊢
    refine R.forL (xs := [.str "a", .str "b", .str "c", .str "d", .str "zero", .str "less"]) (fun k σ H' => ∃ (v6 : Option V) (nm : List (Str × Int)), σ = [some (.ref s), some (.ref r), some (.int (0 + (i : Int))), some (.ref D3), none, some (.ref p), v6, v7, none, v9] ∧ Fx r H2 H' ∧ Spr H' r ∧ H' p = some (.dK (nmK nm)) ∧ NmG nm k ∧ H' D3 = some (.lst us) ∧ (∀ v ∈ us, WtP K r H' v) ∧ H' l5 = some (.lst [.str "a", .str "b", .str "c", .str "d", .str "zero", .str "less"]))
      (SqL.of g5) ⟨_, [], rfl, f5, S5, g54, NmG.nil, g534, P5, g5⟩ (fun k σ H' _ ⟨_, _, _, _, _, _, _, _, _, g⟩ => SqL.of g) ?_ ?_
    · clear P5 P4 P3 g5 g54 g534 f5 S5 s5 S4 f4 g34 g4 s4 S3 f3 g3 hp hl5
      rintro k x σ H5 hx hk ⟨v6, nm, rfl, f5, S5, gp, gn, gD, P5, gl⟩
      have hk6 : k < 6 := hk
      obtain ⟨z, rfl⟩ : ∃ z, x = .str z := by
        obtain rfl | rfl | rfl | rfl | rfl | rfl : k = 0 ∨ k = 1 ∨ k = 2 ∨ k = 3 ∨ k = 4 ∨ k = 5 := by omega
        all_goals exact ⟨_, (Option.some.inj hx).symm⟩
      refine R.gName (dput31 (R.op (R.lst (R.cons ?_))))
      refine R.call (R.cons (R.var (R.cons (R.c (R.nil ⟨r, 256, rfl, S5, by decide, by decide, fun a H6 f6 S6 a0 a1 => R.cons ?_⟩)))))
      refine R.call (R.cons (R.var (R.cons (R.c (R.nil ⟨r, 2, rfl, S6, by decide, by decide, fun b H7 f7 S7 b0 b1 => R.nil ⟨by simp only [List.length_cons, List.length_nil]; decide, fun l8 hl8 => ?_⟩⟩)))))
      refine R.call (R.cons (R.var (R.cons (R.c (R.nil ⟨r, 2, rfl, S7.keep (same_upd hl8), by decide, by decide, fun c H9 f9 S9 c0 c1' => ?_⟩)))))
      refine R.ixLI (ns := [a, b]) (SqL.of (f9.at (S7.ne hl8) upd_same)) c0 c1' fun y _ hy => ?_
      have hy : y = a ∨ y = b := by simpa using hy
      have f59 := (f6.trans f7).trans ((Same.but (same_upd (o := .lst [.int a, .int b]) hl8)).trans f9)
      have gp9 := f59.at np gp
      have gD9 := f59.at nD3 gD
      have gl9 := f59.at nl5 gl
      refine R.var (R.var ⟨p, _, rfl, .inl ⟨nmK nm, .inr z, gp9, rfl, ?_, rfl⟩, ?_⟩)
      · unfold nmK
        rw [List.length_map]
        exact Nat.lt_of_le_of_lt (Nat.le_trans gn.len (by omega : k ≤ 6)) (by decide)
      rw [nmK_put]
      exact ⟨_, nmPut nm z y, rfl, Fx.mutN p0 (f5.trans f59), S9.mut np, upd_same, gn.put (by omega) (by omega), upd_mut (nk31 gD9 gp9 fun z => nomatch z) gD9, fun v hv => ((P5 v hv).fx f59).mutD gp9, upd_mut (nk31 gl9 gp9 fun z => nomatch z) gl9⟩
    clear P5 P4 P3 g5 g54 g534 f5 S5 s5 S4 f4 g34 g4 s4 S3 f3 g3 hp hl5
    rintro σ H5 ⟨v6, nm, rfl, f5, S5, gp, gn, gD, P5, _⟩
    -- cells
    refine R.seq (R.asg (R.lc (R.rng1 (R.cons (R.c (R.nil (R.rng1v (j := 64) (by decide) (by decide) (lcS31 ByP (fun _ _ _ h _ => h) (fun _ _ _ _ _ h _ => h) S5 (by decide) (fun _ => rfl) (fun k Ha hk Sa Q' q' => ?_) fun D8 H8 ws hD8 nD8 f8 S8 g8 l8 P8 => R.gName ?_))))))))
    · exact R.call (R.cons (R.var (R.cons (R.c (R.nil ⟨r, 256, rfl, Sa, by decide, by decide, fun n Hb fb Sb n0 n1 => q' _ Hb fb Sb ⟨n, rfl, n0, n1⟩⟩)))))
    obtain ⟨cs, rfl, hb⟩ := ints_of P8
    have h64 : cs.length = 64 := by
      rw [List.length_map] at l8
      exact l8
    have gp8 := f8.at np gp
    have gD8 := f8.at nD3 gD
    have W8 : ∀ v ∈ us, WtP K r H8 v := fun v hv => (P5 v hv).fx f8
    have f28 := f5.trans f8
    have npD : p ≠ D8 := ne_of_none gp hD8
    clear P5 P8 gp gD f5 S5 f8 hD8
    -- the def within
    refine R.seq ⟨tabs_fx T2 S2 f28, fun f c' H9 e9 T9 nf gf gc => ?_⟩
    have gc : H9 c' = some (CodeO c' on_q_law) := gc
    have gp9 := e9 _ _ gp8 fun _ z => nomatch z
    have gD9 := e9 _ _ gD8 fun _ z => nomatch z
    have gC9 := e9 _ _ g8 fun _ z => nomatch z
    have S9 : Spr H9 r := by
      obtain ⟨a, b, c, e, h⟩ := S8
      exact ⟨a, b, c, e9 _ _ e (fun _ z => nomatch z), h⟩
    have W9 : ∀ v ∈ us, ∃ e : Wt, Dp K H9 v e.data ∧ e.Ok ∧ e.deep ≤ 6 := fun v hv => by
      obtain ⟨e, d, ok, dp⟩ := W8 v hv
      exact ⟨e, Dp.smt (ext_smt e9) (Wt.tuoS e dp) (Dp.mono but_same d), ok, dp⟩
    clear W8 gp8 gD8 g8 S8 f28 nf e9
    match us, l3, W9, gD9 with
    | [u0, u1, u2], _, W9, gD9 =>
    obtain ⟨e0, d0, ok0, p0'⟩ := W9 u0 (by simp)
    obtain ⟨e1, d1, ok1, p1⟩ := W9 u1 (by simp)
    obtain ⟨e2, d2, ok2, p2⟩ := W9 u2 (by simp)
    have env : Env K H9 p (.ref D8) nm cs := ⟨.inl gp9, ⟨D8, rfl, .inl (SqL.of gC9)⟩, h64⟩
    clear W9
    have two : ∀ e ∈ [e0, e1], e.Ok ∧ e.deep ≤ 10 := fun e he => by
      simp only [List.mem_cons, List.not_mem_nil, or_false] at he
      rcases he with rfl | rfl
      · exact ⟨ok0, by omega⟩
      · exact ⟨ok1, by omega⟩
    have three : ∀ e ∈ [e0, e1, e2], e.Ok ∧ e.deep ≤ 10 := fun e he => by
      simp only [List.mem_cons, List.not_mem_nil, or_false] at he
      rcases he with rfl | rfl | rfl
      · exact ⟨ok0, by omega⟩
      · exact ⟨ok1, by omega⟩
      · exact ⟨ok2, by omega⟩
    -- two, three
    dsimp only
    refine R.seq (R.ifS (R.or' (R.not' (R.tB' (R.cons (R.var (R.cons (R.op (R.var (R.c (R.ixL0 (SqL.of gD9) (R.cons (R.op (R.var (R.c (R.ixL1 (SqL.of gD9) (R.nil ⟨p, D8, rfl, rfl, npD, ?_⟩)))))))))))))))))
    intro o1 o2 od1 od2 _ _ n1 n2 nc
    refine two_held (m := 2) (us := [u0, u1]) (es := [e0, e1]) n1 n2 nc od1 od2 gf gc env rfl (.cons d0 (.cons d1 .nil)) two gn hb h64 fun Hx sx => ?_
    obtain ⟨x1, x2, sa⟩ := held_facts n1 n2 nc sx
    refine ⟨x1, x2, R.bl (R.iF ?_)⟩
    generalize but c1 (but c2 Hx) = Ha at sa ⊢
    clear x1 x2 sx n1 n2 od1 od2
    refine R.not' (R.tB' (R.cons (R.var (R.cons (R.op (R.var (R.c (R.ixL0 (SqL.of (sa _ _ gD9)) (R.cons (R.op (R.var (R.c (R.ixL1 (SqL.of (sa _ _ gD9)) (R.cons (R.op (R.var (R.c (R.ixL (SqL.of (sa _ _ gD9)) (R.atI_pos (i := 2) (by decide) rfl) (R.nil ⟨p, D8, rfl, rfl, npD, ?_⟩)))))))))))))))))))
    intro o1 o2 od1 od2 _ _ n1 n2 nc
    refine two_held (m := 3) (us := [u0, u1, u2]) (es := [e0, e1, e2]) n1 n2 nc od1 od2 (sa _ _ gf) (sa _ _ gc) (Env.mono sa env) rfl (DpAll.mono sa (.cons d0 (.cons d1 (.cons d2 .nil)))) three gn hb h64 fun Hx sx => ?_
    obtain ⟨x1, x2, sb⟩ := held_facts n1 n2 nc sx
    refine ⟨x1, x2, R.bl (R.iF (R.next ?_))⟩
    generalize but c1 (but c2 Hx) = Hb at sb ⊢
    clear x1 x2 sx n1 n2 od1 od2
    have sab := sa.trans sb
    clear sa sb two three
    have gf := sab _ _ gf
    have gc := sab _ _ gc
    have gp9 := sab _ _ gp9
    have gD9 := sab _ _ gD9
    have gC9 := sab _ _ gC9
    have env := Env.mono sab env
    have d0 := Dp.mono sab d0
    have d2 := Dp.mono sab d2
    have S9 := S9.keep sab
    have T9 : TabsN (NT K) Hb := T9.ext sab
    clear d1 p1 ok1 sab
    -- a cell
    have ix2 : ∀ {v6 : Option V} {H' : Hp}, Same Hb H' → DX K (tOp (rIx K) (tVar 3) (tC (.int 2))) [some (.ref s), some (.ref r), some (.int (0 + (i : Int))), some (.ref D3), none, some (.ref p), v6, some (.ref D8), none, some (.ref f)] H' e2.data := fun s Q q => R.op (R.var (R.c (R.ixL (SqL.of (s _ _ gD9)) (R.atI_pos (i := 2) (by decide) rfl) (q _ _ (Same.refl _) (Dp.mono s d2)))))
    refine R.seq (R.ifS (R.test (R.op (ncall (e := .cell e2) gf gc env rfl rfl rfl (DX.t2 (DX.s "cell") fun H' s' => ix2 s') (Nat.le_trans (Nat.succ_le_succ p2) (by decide)) fun Hc sc => R.op (R.var (R.op (ncall (e := e2) (sc _ _ gf) (sc _ _ gc) (Env.mono sc env) rfl rfl rfl (ix2 sc) (Nat.le_trans p2 (by decide)) fun Hd sd => R.c (R.modI (by decide) (R.ixLI (ns := cs) (SqL.of (sd _ _ (sc _ _ gC9))) (Int.emod_nonneg _ (by decide)) (by rw [h64]; exact Int.emod_lt_of_pos _ (by decide)) fun mv hmv _ => ?_)))))))))
    have ecell : (Wt.cell e2).val nm cs = mv := by
      show cs.getD (e2.val nm cs % 64).toNat 0 = mv
      rw [List.getD_eq_getElem?_getD, hmv]
      rfl
    rw [ecell]
    refine R.neIx (R.bl (R.iF (R.next ?_)))
    have scd := sc.trans sd
    have gf := scd _ _ gf
    have gc := scd _ _ gc
    have gp9 := scd _ _ gp9
    have gD9 := scd _ _ gD9
    have gC9 := scd _ _ gC9
    have d0 := Dp.mono scd d0
    have S9 := S9.keep scd
    have T9 : TabsN (NT K) Hd := T9.ext scd
    clear env scd sc sd d2 p2 ok2 ecell hmv ix2
    -- each name's byte put for it
    have nfp : f ≠ p := nk31 gf gp9 fun z => by
      unfold FnO at z
      cases z
    have ncp : c' ≠ p := nk31 gc gp9 fun z => by
      unfold CodeO at z
      cases z
    have nDp : D3 ≠ p := nk31 gD9 gp9 fun z => nomatch z
    refine ⟨p, .dK (nmK nm), gp9, trivial, fun od => ?_⟩
    have gfz : (upd Hd p (.frz od (.dK (nmK nm)))) p = some (.frz od (.dK (nmK nm))) := upd_same
    have gf := upd_mut (o := .frz od (.dK (nmK nm))) nfp gf
    have gc := upd_mut (o := .frz od (.dK (nmK nm))) ncp gc
    have gD9 := upd_mut (o := .frz od (.dK (nmK nm))) nDp gD9
    have gC9 := upd_mut (o := .frz od (.dK (nmK nm))) npD.symm gC9
    have env : Env K (upd Hd p (.frz od (.dK (nmK nm)))) p (.ref D8) nm cs := ⟨.inr ⟨od, gfz⟩, ⟨D8, rfl, .inl (SqL.of gC9)⟩, h64⟩
    have d0 : Dp K (upd Hd p (.frz od (.dK (nmK nm)))) u0 e0.data := Dp.smt (fun a u z t => upd_mut (fun x => by
      rw [x, gp9] at z
      cases z
      rcases t with ⟨_, t⟩ | ⟨_, _, t⟩ <;> cases t) z) (Wt.tuoS e0 p0') d0
    refine R.for' (R.var ⟨p, od, rfl, .inl ⟨nmK nm, gfz, R.loop walk_keys (fun k σ H' => ∃ (v6 : Option V), σ = [some (.ref s), some (.ref r), some (.int (0 + (i : Int))), some (.ref D3), none, some (.ref p), v6, some (.ref D8), none, some (.ref f)] ∧ Same (upd Hd p (.frz od (.dK (nmK nm)))) H') ⟨_, rfl, Same.refl _⟩ (fun _ _ _ _ ⟨_, _, e⟩ => e _ _ gfz) ?_ ?_⟩⟩)
    · rintro k x σ He Hf hk ⟨v6, rfl, se⟩ ⟨rfl, ky, v, hky, rfl⟩
      obtain ⟨z, mz, hz, rfl⟩ : ∃ z mz, nm[k]? = some (z, mz) ∧ ky = .inr z := by
        unfold nmK at hky
        rw [List.getElem?_map] at hky
        cases hq : nm[k]? with
        | none => rw [hq] at hky; cases hky
        | some q =>
          rw [hq] at hky
          cases Option.some.inj hky
          exact ⟨q.1, q.2, rfl, rfl⟩
      have hv : valV (nmK nm) (Sum.inr z) = some (.int (nmV nm z)) := by
        rw [nmK_get]
        unfold nmV
        cases hq : nm.lookup z with
        | some n => rfl
        | none =>
          have hm := List.mem_of_getElem? hz
          exact absurd hq (by
            intro h0
            have := List.lookup_eq_none_iff.mp h0 (z, mz) hm
            simp at this)
      have gfe := se _ _ gf
      have gce := se _ _ gc
      have enve := Env.mono se env
      refine R.gName (R.ifS (R.test (R.op (ncall (e := e0.put z (nmV nm z)) gfe gce enve rfl rfl rfl (fun Q q => ?_) (Nat.le_trans (put_deep z _ e0) (Nat.le_trans p0' (by decide))) fun Hg sg => ncall (e := e0) (sg _ _ gfe) (sg _ _ gce) (Env.mono sg enve) rfl rfl rfl (fun Q q => ?_) (Nat.le_trans p0' (by decide)) fun Hh sh => ?_))))
      · refine R.call (R.cons (R.op (R.var (R.c (R.ixL0 (SqL.of (se _ _ gD9)) (R.cons (R.var (R.cons (R.dget (R.var (R.var ⟨p, _, rfl, .inl ⟨nmK nm, .inr z, .inr ⟨od, se _ _ gfz⟩, rfl, hv.symm⟩, R.nil (pu_call (Dp.mono se d0) (Nat.le_trans p0' (by decide)) q)⟩)))))))))))
      · exact R.op (R.var (R.c (R.ixL0 (SqL.of (sg _ _ (se _ _ gD9))) (q _ _ (Same.refl _) (Dp.mono (se.trans sg) d0)))))
      · rw [put_val]
        exact R.neIx (R.bl (R.iF (R.next ⟨_, rfl, se.trans (sg.trans sh)⟩)))
    · rintro σ He ⟨v6, rfl, se⟩
      have off : ∀ a u, Hd a = some u → a ≠ p → (upd He p (.dK (nmK nm))) a = some u := fun a u h n => upd_mut n (se _ _ (upd_mut n h))
      refine ⟨se _ _ gfz, _, _, _, _, _, _, rfl, ?_, tabs_off T9 gp9 off⟩
      obtain ⟨a, b, c, e, h⟩ := S9
      exact ⟨a, b, c, off _ _ e np.symm, h⟩
  · rintro σ H2 ⟨v2, v3, v5, v6, v7, v9, rfl, S2, T2⟩
    exact R.ret (R.c (q _))
end
end Rl
namespace Rl
open PySem PySem.Spec PyProof.Rows L2 NdefX LamX
abbrev CAPS31 : List Str := ["_law_names", "_law_cells"]
theorem nt_start (K : PySem.W.Frag) (H : Hp) (h : ∀ p ∈ [He.cT K ("law", none)], H p.2 = some (.tbl #[])) : TabsN (NT K) H := fun p hp => by
  rw [List.mem_singleton.mp hp]
  exact TabN.nil (h _ (List.mem_singleton.mpr rfl))
theorem on_known (K : PySem.W.Frag) (w : World) {P : Program} {mg : Str → Option Value} {base : Heap} {k : Nat} (n : ∀ (f : Addr) (cl : List (Str × Addr)) (c2 : Addr), NOk P w K mg base CX0 k f (NF.of on_law "_law_now" on_q_law cl c2) ["_law_e"] CAPS31 (spCap2 (sp_law__law_now K w)))
    {f : Addr} {F : NF} {sp : Addr → Addr → Sp} (h : OnP K F sp) : NOk P w K mg base CX0 k f F ["_law_e"] CAPS31 (spCap2 sp) := by
  obtain ⟨⟨c1, c2, c, rfl⟩, rfl⟩ := h
  exact n f (on_cl c1 c2) c
theorem on_gt1 (n : Nat) : n < n + 1 := Nat.lt_succ_self n
theorem on_gt2 (n : Nat) : n < n + 2 := Nat.lt_succ_of_lt (Nat.lt_succ_self n)
theorem on_gt3 (n : Nat) : n < n + 3 := Nat.lt_succ_of_lt (Nat.lt_succ_of_lt (Nat.lt_succ_self n))
theorem on_caps {X : Cx} {c1 c2 : Addr} (ok : X.Ok) (hcl : cloFrom X.env.cells (C8.fnScope on_law).names [] = on_cl c1 c2) (hb : ndefB X.env.scope (C8.fnScope on_law) CAPS31 = true) (hjs : [5, 7].map (fun j => X.N[j]?) = CAPS31.map some) : Caps X (on_cl c1 c2) CAPS31 [5, 7] := by
  rw [← hcl]
  exact Caps.made ok (ndef_free hb) (ndef_fr hb) hjs
section
variable {K : PySem.W.Frag} {P : Program} {w : World} {base : Heap} {mg : Str → Option Value}
theorem fn_ofC {x : Str} {st : Stmt} {fd : FuncData} {N ps : List Str} {k : Nat} {sp : Sp} (D : FnP K x st (He.fAd K (x, none)) fd) (S : FnScope N ps (defScope st)) (len : ∀ vs H Q E, sp vs H Q E → vs.length = ps.length)
    (hbody : ∀ (A : Around) (outer : List PySem.Env) (s : Shared) (H : Hp) (vs : List V) (Q : VK) (E : XK), Room k (A.deeper (envOfC x (defScope st) s.heap.objs.size (He.fAd K (x, none)) (.ref (He.codeOf K (x, none))))) → sp vs H Q E →
      ∃ t, PSs (cxOf CX0 P w K mg base N x (defScope st) (He.fAd K (x, none)) (.ref (He.codeOf K (x, none))) A outer s H E) (defBody st) t ∧ t { nx := fun _ H' => Q .non H', rt := Q } (start N vs) H) : FnOk P w K mg base CX0 (k + 1) (He.fAd K (x, none)) fd ps sp := by
  obtain ⟨oc, od, dV, kV, doc, pm, an, cdv, ct, osl, e, lk, hcd, _, _⟩ := D.ex
  obtain ⟨c, ec⟩ := He.codeIn_ref hcd
  have e1 : He.codeOf K (x, none) = c := He.codeOf_eq lk (by rw [e]; exact ec)
  rw [e1] at hbody
  subst ec e
  exact fn_of lk hcd S len fun A outer s H vs Q E hr hsp => hbody A outer s H vs Q E hr hsp
end
end Rl
namespace Rl
open PySem PySem.Spec PyProof.Rows L2 NdefX LamX
/-- _law_worth: slots 0 _law_spring_here, 1 _law_deep, 2 _law_pick, 3 _law_sign -/
def t_law_worth (K : PySem.W.Frag) (w : World) (rec : Sp) : TS :=
  (tSeq (tAsg (tIf (tTest (tOp (rGtA) (tVar 1) (tC (.int 1)))) (tCall (sp_law_draw K w) [] E0 (tCons (tVar 0) (tCons (tC (.int 10)) tNil))) (tCall (sp_law_draw K w) [] E0 (tCons (tVar 0) (tCons (tC (.int 4)) tNil)))) (gName 2)) (tSeq (tIfS (tTest (tOp (rLtA) (tVar 2) (tC (.int 2)))) (tRet (tTup (tCons (tC (.str "number")) (tCons (tOp (rIx K) (tLst (tCons (tCall (sp_law_draw K w) [] E0 (tCons (tVar 0) (tCons (tC (.int 4)) tNil))) (tCons (tCall (sp_law_draw K w) [] E0 (tCons (tVar 0) (tCons (tC (.int 256)) tNil))) (tCons (tC (.int 255)) tNil)))) (tCall (sp_law_draw K w) [] E0 (tCons (tVar 0) (tCons (tC (.int 3)) tNil)))) tNil)))) tNext) (tSeq (tIfS (tTest (tOp (rLtA) (tVar 2) (tC (.int 4)))) (tRet (tTup (tCons (tC (.str "name")) (tCons (tOp (rIx K) (tLst (tCons (tC (.str "a")) (tCons (tC (.str "b")) (tCons (tC (.str "c")) (tCons (tC (.str "d")) (tCons (tC (.str "zero")) (tCons (tC (.str "less")) tNil))))))) (tCall (sp_law_draw K w) [] E0 (tCons (tVar 0) (tCons (tC (.int 6)) tNil)))) tNil)))) tNext) (tSeq (tIfS (tTest (tOp (rEqA K) (tVar 2) (tC (.int 4)))) (tRet (tTup (tCons (tC (.str "cell")) (tCons (tCall rec [] E0 (tCons (tVar 0) (tCons (tOp (rSubA) (tVar 1) (tC (.int 1))) tNil))) tNil)))) tNext) (tSeq (tIfS (tTest (tOp (rEqA K) (tVar 2) (tC (.int 5)))) (tRet (tTup (tCons (tC (.str "not")) (tCons (tCall rec [] E0 (tCons (tVar 0) (tCons (tOp (rSubA) (tVar 1) (tC (.int 1))) tNil))) tNil)))) tNext) (tSeq (tAsg (tOp (rIx K) (tC (.str "+-&|^<=")) (tCall (sp_law_draw K w) [] E0 (tCons (tVar 0) (tCons (tC (.int 7)) tNil)))) (gName 3)) (tRet (tTup (tCons (tVar 3) (tCons (tCall rec [] E0 (tCons (tVar 0) (tCons (tOp (rSubA) (tVar 1) (tC (.int 1))) tNil))) (tCons (tCall rec [] E0 (tCons (tVar 0) (tCons (tOp (rSubA) (tVar 1) (tC (.int 1))) tNil))) tNil)))))))))))
abbrev N_law_worth : List Str := ["_law_spring_here", "_law_deep", "_law_pick", "_law_sign"]

end Rl
namespace Rl
open PySem PySem.Spec PyProof.Rows L2
section
variable {K : PySem.W.Frag} {w : World} {vs : List V} {H : Hp} {Q : VK} {E : XK}
theorem sg_at : ∀ i : Fin 7, ∃ (k : Fin 7) (c : Nat), atI ("+-&|^<=" : Str).cps.toList (i.val : Int) = some c ∧ (⟨#[c]⟩ : Str) = sgW k := fun i => by
  rcases fin7 i with rfl | rfl | rfl | rfl | rfl | rfl | rfl
  · exact ⟨0, 43, by decide, rfl⟩
  · exact ⟨1, 45, by decide, rfl⟩
  · exact ⟨2, 38, by decide, rfl⟩
  · exact ⟨3, 124, by decide, rfl⟩
  · exact ⟨4, 94, by decide, rfl⟩
  · exact ⟨5, 60, by decide, rfl⟩
  · exact ⟨6, 61, by decide, rfl⟩
/-- a sign that is drawn -/
theorem dt_sign {r : Addr} {B : Hp} {σ : L2.St} {n : Nat} (h0 : σ[n]? = some (some (.ref r)) := by with_unfolding_all rfl) : Dt K r B (tOp (rIx K) (tC (.str "+-&|^<=")) (tCall (sp_law_draw K w) [] E0 (tCons (tVar n) (tCons (tC (.int 7)) tNil)))) σ (fun d => ∃ k : Fin 7, d = .str (sgW k)) :=
  Dt.ixS (PK := fun i => i < 7) (by decide) ((Dt.draw h0).imp fun d ⟨j, e, j0, j1⟩ => ⟨j, e, j0, j1⟩) fun i i0 i1 => by
    obtain ⟨k, c, h1, h2⟩ := sg_at ⟨i.toNat, by omega⟩
    refine ⟨c, ?_, k, by rw [h2]⟩
    rw [show ((i.toNat : Nat) : Int) = i from Int.toNat_of_nonneg i0] at h1
    exact h1
theorem pure_law_worth {F : Prop} (_ : F) {n : Nat} (h : spLw K w (n + 1) vs H Q E) : t_law_worth K w (spLw K w n) { nx := fun _ H' => Q .non H', rt := Q } (start N_law_worth vs) H := by
  obtain ⟨r, d, rfl, S, d1, dn, q⟩ := h
  unfold t_law_worth
  refine R.seq (joinT (fun σ H' => ∃ k, σ = [some (.ref r), some (.int d), some (.int k), none] ∧ Fx r H H' ∧ Spr H' r ∧ (k < 4 ∨ 1 < d)) (fun N key => ?_) ?_)
  · refine R.asg (R.ifE (R.test (R.op (R.var (R.c (R.gtI (R.bl (R.iD (fun h => ?_) (fun h => ?_)))))))))
    · exact R.call (R.cons (R.var (R.cons (R.c (R.nil ⟨r, 10, rfl, S, by decide, by decide, fun k H1 f1 S1 _ _ => R.gName (key _ _ ⟨k, rfl, f1, S1, .inr h⟩)⟩)))))
    · exact R.call (R.cons (R.var (R.cons (R.c (R.nil ⟨r, 4, rfl, S, by decide, by decide, fun k H1 f1 S1 _ k1 => R.gName (key _ _ ⟨k, rfl, f1, S1, .inl k1⟩)⟩)))))
  rintro σ H1 ⟨k, rfl, f1, S1, hk⟩
  have dpos : 1 ≤ d.toNat := by omega
  refine R.seq (R.ifS (R.test (R.op (R.var (R.c (R.ltI (R.bl (R.iD (fun h2 => ?_) (fun h2 => R.next ?_)))))))))
  · refine Dt.ret (Dt.tup (DtA.cons Dt.str (DtA.cons (Dt.ixL (PK := fun i => i < 3) (Dt.lst (DtA.cons Dt.draw (DtA.cons Dt.draw (DtA.cons Dt.int DtA.nil))) ?_) ((Dt.draw rfl).imp fun d ⟨j, e, j0, j1⟩ => ⟨j, e, j0, j1⟩) ?_) DtA.nil)) ?_) S1 (Same.refl _) fun v H2 x f2 S2 hx px => ?_
    · rintro ds ⟨x1, ds1, rfl, _, x2, ds2, rfl, _, x3, ds3, rfl, _, rfl⟩
      exact Nat.le_of_ble_eq_true rfl
    · rintro ds i ⟨x1, ds1, rfl, _, x2, ds2, rfl, _, x3, ds3, rfl, _, rfl⟩ hi
      exact hi
    · rintro ds ⟨x1, ds1, rfl, _, x2, ds2, rfl, _, rfl⟩
      exact Nat.le_of_ble_eq_true rfl
    · obtain ⟨ds, rfl, x1, ds1, rfl, rfl, x2, ds2, rfl, ⟨ls, hls, hm⟩, rfl⟩ := px
      obtain ⟨y1, ls1, rfl, ⟨j1, rfl, a1, b1⟩, y2, ls2, rfl, ⟨j2, rfl, a2, b2⟩, y3, ls3, rfl, rfl, rfl⟩ := hls
      obtain ⟨i, rfl, i0, i1⟩ : ∃ i, x2 = .int i ∧ 0 ≤ i ∧ i < 256 := by
        simp only [List.mem_cons, List.not_mem_nil, or_false] at hm
        rcases hm with rfl | rfl | rfl
        · exact ⟨_, rfl, a1, by omega⟩
        · exact ⟨_, rfl, a2, b2⟩
        · exact ⟨_, rfl, by decide, by decide⟩
      exact q v H2 (.num i) (f1.trans f2) S2 hx ⟨i0, i1⟩ dpos
  refine R.seq (R.ifS (R.test (R.op (R.var (R.c (R.ltI (R.bl (R.iD (fun h3 => ?_) (fun h3 => R.next ?_)))))))))
  · refine Dt.ret (Dt.tup (DtA.cons Dt.str (DtA.cons (Dt.ixL (PK := fun i => i < 6) (Dt.lst (DtA.cons Dt.str (DtA.cons Dt.str (DtA.cons Dt.str (DtA.cons Dt.str (DtA.cons Dt.str (DtA.cons Dt.str DtA.nil)))))) ?_) ((Dt.draw rfl).imp fun d ⟨j, e, j0, j1⟩ => ⟨j, e, j0, j1⟩) ?_) DtA.nil)) ?_) S1 (Same.refl _) fun v H2 x f2 S2 hx px => ?_
    · rintro ds ⟨x1, ds1, rfl, _, x2, ds2, rfl, _, x3, ds3, rfl, _, x4, ds4, rfl, _, x5, ds5, rfl, _, x6, ds6, rfl, _, rfl⟩
      exact Nat.le_of_ble_eq_true rfl
    · rintro ds i ⟨x1, ds1, rfl, _, x2, ds2, rfl, _, x3, ds3, rfl, _, x4, ds4, rfl, _, x5, ds5, rfl, _, x6, ds6, rfl, _, rfl⟩ hi
      exact hi
    · rintro ds ⟨x1, ds1, rfl, _, x2, ds2, rfl, _, rfl⟩
      exact Nat.le_of_ble_eq_true rfl
    · obtain ⟨ds, rfl, x1, ds1, rfl, rfl, x2, ds2, rfl, ⟨ls, hls, hm⟩, rfl⟩ := px
      obtain ⟨y1, ls1, rfl, rfl, y2, ls2, rfl, rfl, y3, ls3, rfl, rfl, y4, ls4, rfl, rfl, y5, ls5, rfl, rfl, y6, ls6, rfl, rfl, rfl⟩ := hls
      obtain ⟨s, rfl, hs⟩ : ∃ s, x2 = .str s ∧ s ∈ six := by
        simp only [List.mem_cons, List.not_mem_nil, or_false] at hm
        rcases hm with rfl | rfl | rfl | rfl | rfl | rfl <;> exact ⟨_, rfl, by decide⟩
      exact q v H2 (.nam s) (f1.trans f2) S2 hx hs dpos
  have d2 : 1 < d := hk.resolve_left h3

  have rec1 : ∀ {H3 : Hp} {QQ : VK}, Spr H3 r → (∀ v H' (e : Wt), Fx r H3 H' → Spr H' r → Dp K (but r H') v e.data → e.Ok → e.deep + 1 ≤ d.toNat → QQ v H') → tCall (spLw K w n) [] E0 (tCons (tVar 0) (tCons (tOp rSubA (tVar 1) (tC (.int 1))) tNil)) [some (.ref r), some (.int d), some (.int k), none] H3 QQ := fun S3 qq => by
    refine R.call (R.cons (R.var (R.cons (R.op (R.var (R.c (R.subI (R.nil ?_))))))))
    exact lw_call S3 (by omega) (by omega) fun v H' e f S' hd ok dp => qq v H' e f S' hd ok (by omega)
  refine R.seq (R.ifS (R.test (R.op (R.var (R.c (R.eqI (R.bl (R.iD (fun h4 => ?_) (fun h4 => R.next ?_)))))))))
  · refine R.ret (R.tup (R.cons (R.c (R.cons (rec1 S1 fun v H2 e f2 S2 hd ok dp => R.nil ⟨by k_caughtN0, fun p hp => ?_⟩)))))
    exact q _ _ (.cell e) (f1.trans (f2.trans (Same.but (same_upd hp)))) (S2.keep (same_upd hp)) (.tup (SqT.of (but_get (S2.ne hp) upd_same)) (.cons (.str _) (.cons (Dp.mono (Same.but (same_upd hp)) hd) .nil))) ok dp
  refine R.seq (R.ifS (R.test (R.op (R.var (R.c (R.eqI (R.bl (R.iD (fun h5 => ?_) (fun h5 => R.next ?_)))))))))
  · refine R.ret (R.tup (R.cons (R.c (R.cons (rec1 S1 fun v H2 e f2 S2 hd ok dp => R.nil ⟨by k_caughtN0, fun p hp => ?_⟩)))))
    exact q _ _ (.neg e) (f1.trans (f2.trans (Same.but (same_upd hp)))) (S2.keep (same_upd hp)) (.tup (SqT.of (but_get (S2.ne hp) upd_same)) (.cons (.str _) (.cons (Dp.mono (Same.but (same_upd hp)) hd) .nil))) ok dp
  refine R.seq (Dt.asg (B := but r H1) (dt_sign (w := w) (r := r) (n := 0) rfl) S1 (Same.refl _) fun v2 H2 dd f2 S2 hd2 pd => ?_)
  obtain ⟨sk, rfl⟩ := pd
  cases dp_str hd2
  have rec2 : ∀ {H3 : Hp} {QQ : VK}, Spr H3 r → (∀ v H' (e : Wt), Fx r H3 H' → Spr H' r → Dp K (but r H') v e.data → e.Ok → e.deep + 1 ≤ d.toNat → QQ v H') → tCall (spLw K w n) [] E0 (tCons (tVar 0) (tCons (tOp rSubA (tVar 1) (tC (.int 1))) tNil)) [some (.ref r), some (.int d), some (.int k), some (.str (sgW sk))] H3 QQ := fun S3 qq => by
    refine R.call (R.cons (R.var (R.cons (R.op (R.var (R.c (R.subI (R.nil ?_))))))))
    exact lw_call S3 (by omega) (by omega) fun v H' e f S' hd ok dp => qq v H' e f S' hd ok (by omega)
  refine R.ret (R.tup (R.cons (R.var (R.cons (rec2 S2 fun v H3 e1 f3 S3 e1d ok1 dp1 => R.cons (rec2 S3 fun v4 H4 e2 f4 S4 e2d ok2 dp2 => R.nil ⟨by k_caughtN0, fun p hp => ?_⟩))))))
  exact q _ _ (.two sk e1 e2) (f1.trans (f2.trans (f3.trans (f4.trans (Same.but (same_upd hp)))))) (S4.keep (same_upd hp)) (.tup (SqT.of (but_get (S4.ne hp) upd_same)) (.cons (.str _) (.cons (Dp.mono (L2.Same.trans f4 (Same.but (same_upd hp))) e1d) (.cons (Dp.mono (Same.but (same_upd hp)) e2d) .nil)))) ⟨ok1, ok2⟩ (by
    show max e1.deep e2.deep + 1 ≤ d.toNat
    omega)
end
end Rl
namespace Rl
open PySem PySem.Spec PyProof.Rows L2 NdefX LamX
/-! ## the walk of each def -/
abbrev s_number_worth : Stmt := top 3
abbrev s_name_worth : Stmt := top 4
abbrev s_summed : Stmt := top 7
abbrev s_taken_off : Stmt := top 8
abbrev s_both_bits : Stmt := top 9
abbrev s_either_bits : Stmt := top 10
abbrev s_unlike_bits : Stmt := top 11
abbrev s_is_lesser : Stmt := top 12
abbrev s_are_same : Stmt := top 13
abbrev s_cell_worth : Stmt := top 5
abbrev s_not_worth : Stmt := top 6
abbrev s_worth_of : Stmt := top 16
abbrev s_law_spring : Stmt := top 18
abbrev s_law_draw : Stmt := top 19
abbrev s_law_worth : Stmt := top 20
abbrev s_law_put : Stmt := top 21
abbrev s_law_two_right : Stmt := top 22
abbrev s_law_three_right : Stmt := top 23
abbrev s_law : Stmt := top 24

structure Bl (mg : Str → Option Value) : Prop where
  b_abs : mg "abs" = none
  b_int : mg "int" = none
  b_len : mg "len" = none
  b_min : mg "min" = none
  b_range : mg "range" = none
  b_tuple : mg "tuple" = none
structure Cn (K : PySem.W.Frag) (mg : Str → Option Value) : Prop where
  c_CELLS : ∃ t, mg "CELLS" = some (.int 64 t)
  c_PLAIN : mg "PLAIN" = some (.ref (He.ga K "PLAIN"))
  c_ROUND : ∃ t, mg "ROUND" = some (.int 256 t)
  c_SIGNS : mg "SIGNS" = some (.ref (He.ga K "SIGNS"))

section
variable {P : Program} {w : World} {K : PySem.W.Frag} {mg : Str → Option Value} {base : Heap}
theorem sc_number_worth : FnScope N_number_worth ["rest", "names", "cells"] (defScope s_number_worth) := ⟨rfl, rfl, rfl, by decide +kernel, rfl, by decide +kernel, by decide +kernel⟩
theorem cl_number_worth (B : Bl mg) (C : Cn K mg) (F : WorC K w) {f : Addr} {fd : FuncData} (D : FnP K "number_worth" s_number_worth f fd) (hm : mg "number_worth" = some (.ref f)) (hb : Binds K fd ["rest", "names", "cells"] []) : Cl P w K mg base 1 "number_worth" (sp_number_worth K w) :=
  cl_of D hm hb sc_number_worth (fun vs H Q E h => len_number_worth h) fun cdv A outer s H vs Q E hr h => ⟨t_number_worth K w, PSs.nox (pss_one (ps_ret (pe_ix ix_seq (pv 0) pe_int (fun _ _ => rfl)))), pure_number_worth F h⟩

theorem sc_name_worth : FnScope N_name_worth ["rest", "names", "cells"] (defScope s_name_worth) := ⟨rfl, rfl, rfl, by decide +kernel, rfl, by decide +kernel, by decide +kernel⟩
theorem cl_name_worth (B : Bl mg) (C : Cn K mg) (F : WorC K w) {f : Addr} {fd : FuncData} (D : FnP K "name_worth" s_name_worth f fd) (hm : mg "name_worth" = some (.ref f)) (hb : Binds K fd ["rest", "names", "cells"] []) : Cl P w K mg base 1 "name_worth" (sp_name_worth K w) :=
  cl_of D hm hb sc_name_worth (fun vs H Q E h => len_name_worth h) fun cdv A outer s H vs Q E hr h => ⟨t_name_worth K w, PSs.nox (pss_one (ps_ret (pe_dget2 (hu_of hr) (pv 1) (pe_ix ix_seq (pv 0) pe_int (fun _ _ => rfl)) pe_int ⟨rfl, rfl, rfl, rfl⟩))), pure_name_worth F h⟩

theorem sc_summed : FnScope N_summed ["one", "other"] (defScope s_summed) := ⟨rfl, rfl, rfl, by decide +kernel, rfl, by decide +kernel, by decide +kernel⟩
theorem cl_summed (B : Bl mg) (C : Cn K mg) (F : WorC K w) {f : Addr} {fd : FuncData} (D : FnP K "summed" s_summed f fd) (hm : mg "summed" = some (.ref f)) (hb : Binds K fd ["one", "other"] []) : Cl P w K mg base 1 "summed" (sp_summed K w) :=
  cl_of D hm hb sc_summed (fun vs H Q E h => len_summed h) fun cdv A outer s H vs Q E hr h => ⟨t_summed K w, PSs.nox (pss_one (ps_ret (pe_op op_modA (pe_op op_addA (pv 0) (pv 1)) (pe_gcn rfl C.c_ROUND)))), pure_summed F h⟩

theorem sc_taken_off : FnScope N_taken_off ["one", "other"] (defScope s_taken_off) := ⟨rfl, rfl, rfl, by decide +kernel, rfl, by decide +kernel, by decide +kernel⟩
theorem cl_taken_off (B : Bl mg) (C : Cn K mg) (F : WorC K w) {f : Addr} {fd : FuncData} (D : FnP K "taken_off" s_taken_off f fd) (hm : mg "taken_off" = some (.ref f)) (hb : Binds K fd ["one", "other"] []) : Cl P w K mg base 1 "taken_off" (sp_taken_off K w) :=
  cl_of D hm hb sc_taken_off (fun vs H Q E h => len_taken_off h) fun cdv A outer s H vs Q E hr h => ⟨t_taken_off K w, PSs.nox (pss_one (ps_ret (pe_op op_modA (pe_op op_subA (pv 0) (pv 1)) (pe_gcn rfl C.c_ROUND)))), pure_taken_off F h⟩

theorem sc_both_bits : FnScope N_both_bits ["one", "other"] (defScope s_both_bits) := ⟨rfl, rfl, rfl, by decide +kernel, rfl, by decide +kernel, by decide +kernel⟩
theorem cl_both_bits (B : Bl mg) (C : Cn K mg) (F : WorC K w) {f : Addr} {fd : FuncData} (D : FnP K "both_bits" s_both_bits f fd) (hm : mg "both_bits" = some (.ref f)) (hb : Binds K fd ["one", "other"] []) : Cl P w K mg base 1 "both_bits" (sp_both_bits K w) :=
  cl_of D hm hb sc_both_bits (fun vs H Q E h => len_both_bits h) fun cdv A outer s H vs Q E hr h => ⟨t_both_bits K w, PSs.nox (pss_one (ps_ret (pe_op op_andA (pv 0) (pv 1)))), pure_both_bits F h⟩

theorem sc_either_bits : FnScope N_either_bits ["one", "other"] (defScope s_either_bits) := ⟨rfl, rfl, rfl, by decide +kernel, rfl, by decide +kernel, by decide +kernel⟩
theorem cl_either_bits (B : Bl mg) (C : Cn K mg) (F : WorC K w) {f : Addr} {fd : FuncData} (D : FnP K "either_bits" s_either_bits f fd) (hm : mg "either_bits" = some (.ref f)) (hb : Binds K fd ["one", "other"] []) : Cl P w K mg base 1 "either_bits" (sp_either_bits K w) :=
  cl_of D hm hb sc_either_bits (fun vs H Q E h => len_either_bits h) fun cdv A outer s H vs Q E hr h => ⟨t_either_bits K w, PSs.nox (pss_one (ps_ret (pe_op op_orA (pv 0) (pv 1)))), pure_either_bits F h⟩

theorem sc_unlike_bits : FnScope N_unlike_bits ["one", "other"] (defScope s_unlike_bits) := ⟨rfl, rfl, rfl, by decide +kernel, rfl, by decide +kernel, by decide +kernel⟩
theorem cl_unlike_bits (B : Bl mg) (C : Cn K mg) (F : WorC K w) {f : Addr} {fd : FuncData} (D : FnP K "unlike_bits" s_unlike_bits f fd) (hm : mg "unlike_bits" = some (.ref f)) (hb : Binds K fd ["one", "other"] []) : Cl P w K mg base 1 "unlike_bits" (sp_unlike_bits K w) :=
  cl_of D hm hb sc_unlike_bits (fun vs H Q E h => len_unlike_bits h) fun cdv A outer s H vs Q E hr h => ⟨t_unlike_bits K w, PSs.nox (pss_one (ps_ret (pe_op op_xorA (pv 0) (pv 1)))), pure_unlike_bits F h⟩

theorem sc_is_lesser : FnScope N_is_lesser ["one", "other"] (defScope s_is_lesser) := ⟨rfl, rfl, rfl, by decide +kernel, rfl, by decide +kernel, by decide +kernel⟩
theorem cl_is_lesser (B : Bl mg) (C : Cn K mg) (F : WorC K w) {f : Addr} {fd : FuncData} (D : FnP K "is_lesser" s_is_lesser f fd) (hm : mg "is_lesser" = some (.ref f)) (hb : Binds K fd ["one", "other"] []) : Cl P w K mg base 1 "is_lesser" (sp_is_lesser K w) :=
  cl_of D hm hb sc_is_lesser (fun vs H Q E h => len_is_lesser h) fun cdv A outer s H vs Q E hr h => ⟨t_is_lesser K w, PSs.nox (pss_one (ps_ret (pe_callTy call_intA (by rfl) B.b_int (by decide +kernel) (pa_cons (pe_cmpR op_ltA (pv 0) (pv 1) (nomark _)) pa_nil)))), pure_is_lesser F h⟩

theorem sc_are_same : FnScope N_are_same ["one", "other"] (defScope s_are_same) := ⟨rfl, rfl, rfl, by decide +kernel, rfl, by decide +kernel, by decide +kernel⟩
theorem cl_are_same (B : Bl mg) (C : Cn K mg) (F : WorC K w) {f : Addr} {fd : FuncData} (D : FnP K "are_same" s_are_same f fd) (hm : mg "are_same" = some (.ref f)) (hb : Binds K fd ["one", "other"] []) : Cl P w K mg base 1 "are_same" (sp_are_same K w) :=
  cl_of D hm hb sc_are_same (fun vs H Q E h => len_are_same h) fun cdv A outer s H vs Q E hr h => ⟨t_are_same K w, PSs.nox (pss_one (ps_ret (pe_callTy call_intA (by rfl) B.b_int (by decide +kernel) (pa_cons (pe_cmpR (op_eqA hr.units) (pv 0) (pv 1) (nomark _)) pa_nil)))), pure_are_same F h⟩

theorem sc_cell_worth : FnScope N_cell_worth ["rest", "names", "cells"] (defScope s_cell_worth) := ⟨rfl, rfl, rfl, by decide +kernel, rfl, by decide +kernel, by decide +kernel⟩
theorem sc_not_worth : FnScope N_not_worth ["rest", "names", "cells"] (defScope s_not_worth) := ⟨rfl, rfl, rfl, by decide +kernel, rfl, by decide +kernel, by decide +kernel⟩
theorem sc_worth_of : FnScope N_worth_of ["e", "names", "cells"] (defScope s_worth_of) := ⟨rfl, rfl, rfl, by decide +kernel, rfl, by decide +kernel, by decide +kernel⟩
theorem clr_worth_of (B : Bl mg) (C : Cn K mg) (F : WorC K w) (c_number_worth : Cl P w K mg base 1 "number_worth" (sp_number_worth K w)) (c_name_worth : Cl P w K mg base 1 "name_worth" (sp_name_worth K w)) (c_summed : Cl P w K mg base 1 "summed" (sp_summed K w)) (c_taken_off : Cl P w K mg base 1 "taken_off" (sp_taken_off K w)) (c_both_bits : Cl P w K mg base 1 "both_bits" (sp_both_bits K w)) (c_either_bits : Cl P w K mg base 1 "either_bits" (sp_either_bits K w)) (c_unlike_bits : Cl P w K mg base 1 "unlike_bits" (sp_unlike_bits K w)) (c_is_lesser : Cl P w K mg base 1 "is_lesser" (sp_is_lesser K w)) (c_are_same : Cl P w K mg base 1 "are_same" (sp_are_same K w)) (g_number_worth : mg "number_worth" = some (.ref (He.ga K "number_worth"))) (g_name_worth : mg "name_worth" = some (.ref (He.ga K "name_worth"))) (g_summed : mg "summed" = some (.ref (He.ga K "summed"))) (g_taken_off : mg "taken_off" = some (.ref (He.ga K "taken_off"))) (g_both_bits : mg "both_bits" = some (.ref (He.ga K "both_bits"))) (g_either_bits : mg "either_bits" = some (.ref (He.ga K "either_bits"))) (g_unlike_bits : mg "unlike_bits" = some (.ref (He.ga K "unlike_bits"))) (g_is_lesser : mg "is_lesser" = some (.ref (He.ga K "is_lesser"))) (g_are_same : mg "are_same" = some (.ref (He.ga K "are_same"))) (g_cell_worth : mg "cell_worth" = some (.ref (He.ga K "cell_worth"))) (g_not_worth : mg "not_worth" = some (.ref (He.ga K "not_worth"))) {f_worth_of : Addr} {fd_worth_of : FuncData} (D_worth_of : FnP K "worth_of" s_worth_of f_worth_of fd_worth_of) (hm_worth_of : mg "worth_of" = some (.ref f_worth_of)) (hb_worth_of : Binds K fd_worth_of ["e", "names", "cells"] []) {f_cell_worth : Addr} {fd_cell_worth : FuncData} (D_cell_worth : FnP K "cell_worth" s_cell_worth f_cell_worth fd_cell_worth) (hm_cell_worth : mg "cell_worth" = some (.ref f_cell_worth)) (hb_cell_worth : Binds K fd_cell_worth ["rest", "names", "cells"] []) {f_not_worth : Addr} {fd_not_worth : FuncData} (D_not_worth : FnP K "not_worth" s_not_worth f_not_worth fd_not_worth) (hm_not_worth : mg "not_worth" = some (.ref f_not_worth)) (hb_not_worth : Binds K fd_not_worth ["rest", "names", "cells"] []) : ∀ n, Cl P w K mg base (1 + 2 * n) "worth_of" (spWo K n)
  | 0 => ⟨f_worth_of, fd_worth_of, _, ⟨fun vs H Q E h => h.elim, fun A outer s H args us vs Q E hr he hb hv h => h.elim⟩, hm_worth_of, D_worth_of.kp, hb_worth_of⟩
  | n + 1 => by
    have c_rec := clr_worth_of B C F c_number_worth c_name_worth c_summed c_taken_off c_both_bits c_either_bits c_unlike_bits c_is_lesser c_are_same g_number_worth g_name_worth g_summed g_taken_off g_both_bits g_either_bits g_unlike_bits g_is_lesser g_are_same g_cell_worth g_not_worth D_worth_of hm_worth_of hb_worth_of D_cell_worth hm_cell_worth hb_cell_worth D_not_worth hm_not_worth hb_not_worth n
    have c_cell_worth : Cl P w K mg base (1 + 2 * n + 1) "cell_worth" (spCe K n) :=
      cl_of (k := 1 + 2 * n) D_cell_worth hm_cell_worth hb_cell_worth sc_cell_worth (fun vs H Q E h => len_cell_worth h) fun cdv A outer s H vs Q E hr h => ⟨t_cell_worth K w (spWo K n), PSs.nox (pss_one (ps_ret (pe_ix ix_seq (pv 2) (pe_op op_modA (pe_cl c_rec hr (by omega) rfl (pa_cons (pe_ix ix_seq (pv 0) pe_int (fun _ _ => rfl)) (pa_cons (pv 1) (pa_cons (pv 2) pa_nil)))) (pe_gcn rfl C.c_CELLS)) (fun _ _ => rfl)))), pure_cell_worth F h⟩
    have c_not_worth : Cl P w K mg base (1 + 2 * n + 1) "not_worth" (spNo K n) :=
      cl_of (k := 1 + 2 * n) D_not_worth hm_not_worth hb_not_worth sc_not_worth (fun vs H Q E h => len_not_worth h) fun cdv A outer s H vs Q E hr h => ⟨t_not_worth K w (spWo K n), PSs.nox (pss_one (ps_ret (pe_callTy call_intA (by rfl) B.b_int (by decide +kernel) (pa_cons (pe_cmpR (op_eqA hr.units) (pe_cl c_rec hr (by omega) rfl (pa_cons (pe_ix ix_seq (pv 0) pe_int (fun _ _ => rfl)) (pa_cons (pv 1) (pa_cons (pv 2) pa_nil)))) pe_int (nomark _)) pa_nil)))), pure_not_worth F h⟩
    have c_dd : ∀ nm sp, tblW K w n nm = some sp → Cl P w K mg base (1 + 2 * n + 1) nm sp ∧ mg nm = some (.ref (He.ga K nm)) := by
      intro nm sp h
      have hm := lookup_mem h
      simp only [tblL, List.mem_cons, List.not_mem_nil, or_false, Prod.mk.injEq] at hm
      rcases hm with ⟨rfl, rfl⟩ | ⟨rfl, rfl⟩ | ⟨rfl, rfl⟩ | ⟨rfl, rfl⟩ | ⟨rfl, rfl⟩ | ⟨rfl, rfl⟩ | ⟨rfl, rfl⟩ | ⟨rfl, rfl⟩ | ⟨rfl, rfl⟩ | ⟨rfl, rfl⟩ | ⟨rfl, rfl⟩
      · exact ⟨(c_number_worth).mono (by omega), g_number_worth⟩
      · exact ⟨(c_name_worth).mono (by omega), g_name_worth⟩
      · exact ⟨(c_summed).mono (by omega), g_summed⟩
      · exact ⟨(c_taken_off).mono (by omega), g_taken_off⟩
      · exact ⟨(c_both_bits).mono (by omega), g_both_bits⟩
      · exact ⟨(c_either_bits).mono (by omega), g_either_bits⟩
      · exact ⟨(c_unlike_bits).mono (by omega), g_unlike_bits⟩
      · exact ⟨(c_is_lesser).mono (by omega), g_is_lesser⟩
      · exact ⟨(c_are_same).mono (by omega), g_are_same⟩
      · exact ⟨c_cell_worth, g_cell_worth⟩
      · exact ⟨c_not_worth, g_not_worth⟩
    exact cl_of (k := 1 + 2 * n + 1) D_worth_of hm_worth_of hb_worth_of sc_worth_of (fun vs H Q E h => len_worth_of h) fun cdv A outer s H vs Q E hr h => ⟨t_worth_of K w (spWo K n) (tblW K w n), PSs.nox (pss_cons (ps_asg (pv 0) (pg_star (i := 1) rfl (pgs_cons (pg_name (i := 3) sc_worth_of.nd rfl (.inl rfl)) (pgs_star (pg_name (i := 4) sc_worth_of.nd rfl (.inl rfl)) pgs_nil))))
      (pss_cons (ps_if (pt_cmpR op_inKD (pv 3) (pe_glob rfl C.c_SIGNS rfl) rfl)
      (pss_cons (ps_set (i := 5) sc_worth_of.nd rfl (.inl rfl) (pe_ix ix_KD (pe_glob rfl C.c_SIGNS rfl) (pv 3) (fun _ _ => rfl)))
      (pss_cons (ps_asg (pv 4) (pg_lst rfl (pgs_cons (pg_name (i := 6) sc_worth_of.nd rfl (.inl rfl)) (pgs_cons (pg_name (i := 7) sc_worth_of.nd rfl (.inl rfl)) pgs_nil))))
      (pss_one (ps_ret (pe_callD c_dd hr (by omega) rfl (.inl rfl) (pa_cons (pe_cl c_rec hr (by omega) rfl (pa_cons (pv 6) (pa_cons (pv 1) (pa_cons (pv 2) pa_nil)))) (pa_cons (pe_cl c_rec hr (by omega) rfl (pa_cons (pv 7) (pa_cons (pv 1) (pa_cons (pv 2) pa_nil)))) pa_nil)))))))
      pss_nil)
      (pss_cons (ps_set (i := 8) sc_worth_of.nd rfl (.inl rfl) (pe_ix ix_KD (pe_glob rfl C.c_PLAIN rfl) (pv 3) (fun _ _ => rfl)))
      (pss_one (ps_ret (pe_callD c_dd hr (by omega) rfl (.inl rfl) (pa_cons (pv 4) (pa_cons (pv 1) (pa_cons (pv 2) pa_nil))))))))), pure_worth_of F h⟩
theorem cl_worth_of (B : Bl mg) (C : Cn K mg) (F : WorC K w) (c_number_worth : Cl P w K mg base 1 "number_worth" (sp_number_worth K w)) (c_name_worth : Cl P w K mg base 1 "name_worth" (sp_name_worth K w)) (c_summed : Cl P w K mg base 1 "summed" (sp_summed K w)) (c_taken_off : Cl P w K mg base 1 "taken_off" (sp_taken_off K w)) (c_both_bits : Cl P w K mg base 1 "both_bits" (sp_both_bits K w)) (c_either_bits : Cl P w K mg base 1 "either_bits" (sp_either_bits K w)) (c_unlike_bits : Cl P w K mg base 1 "unlike_bits" (sp_unlike_bits K w)) (c_is_lesser : Cl P w K mg base 1 "is_lesser" (sp_is_lesser K w)) (c_are_same : Cl P w K mg base 1 "are_same" (sp_are_same K w)) (g_number_worth : mg "number_worth" = some (.ref (He.ga K "number_worth"))) (g_name_worth : mg "name_worth" = some (.ref (He.ga K "name_worth"))) (g_summed : mg "summed" = some (.ref (He.ga K "summed"))) (g_taken_off : mg "taken_off" = some (.ref (He.ga K "taken_off"))) (g_both_bits : mg "both_bits" = some (.ref (He.ga K "both_bits"))) (g_either_bits : mg "either_bits" = some (.ref (He.ga K "either_bits"))) (g_unlike_bits : mg "unlike_bits" = some (.ref (He.ga K "unlike_bits"))) (g_is_lesser : mg "is_lesser" = some (.ref (He.ga K "is_lesser"))) (g_are_same : mg "are_same" = some (.ref (He.ga K "are_same"))) (g_cell_worth : mg "cell_worth" = some (.ref (He.ga K "cell_worth"))) (g_not_worth : mg "not_worth" = some (.ref (He.ga K "not_worth"))) {f_worth_of : Addr} {fd_worth_of : FuncData} (D_worth_of : FnP K "worth_of" s_worth_of f_worth_of fd_worth_of) (hm_worth_of : mg "worth_of" = some (.ref f_worth_of)) (hb_worth_of : Binds K fd_worth_of ["e", "names", "cells"] []) {f_cell_worth : Addr} {fd_cell_worth : FuncData} (D_cell_worth : FnP K "cell_worth" s_cell_worth f_cell_worth fd_cell_worth) (hm_cell_worth : mg "cell_worth" = some (.ref f_cell_worth)) (hb_cell_worth : Binds K fd_cell_worth ["rest", "names", "cells"] []) {f_not_worth : Addr} {fd_not_worth : FuncData} (D_not_worth : FnP K "not_worth" s_not_worth f_not_worth fd_not_worth) (hm_not_worth : mg "not_worth" = some (.ref f_not_worth)) (hb_not_worth : Binds K fd_not_worth ["rest", "names", "cells"] []) : Cl P w K mg base 49 "worth_of" (sp_worth_of K w) :=
  clr_worth_of B C F c_number_worth c_name_worth c_summed c_taken_off c_both_bits c_either_bits c_unlike_bits c_is_lesser c_are_same g_number_worth g_name_worth g_summed g_taken_off g_both_bits g_either_bits g_unlike_bits g_is_lesser g_are_same g_cell_worth g_not_worth D_worth_of hm_worth_of hb_worth_of D_cell_worth hm_cell_worth hb_cell_worth D_not_worth hm_not_worth hb_not_worth 24

theorem sc_law_spring : FnScope N_law_spring ["_law_script"] (defScope s_law_spring) := ⟨rfl, rfl, rfl, by decide +kernel, rfl, by decide +kernel, by decide +kernel⟩
theorem cl_law_spring (B : Bl mg) (C : Cn K mg) (F : WorC K w) {f : Addr} {fd : FuncData} (D : FnP K "_law_spring" s_law_spring f fd) (hm : mg "_law_spring" = some (.ref f)) (hb : Binds K fd ["_law_script"] []) : Cl P w K mg base 1 "_law_spring" (sp_law_spring K w) :=
  cl_of D hm hb sc_law_spring (fun vs H Q E h => len_law_spring h) fun cdv A outer s H vs Q E hr h => ⟨t_law_spring K w, PSs.nox (pss_cons (ps_set (i := 1) sc_law_spring.nd rfl (.inl rfl) pe_int)
      (pss_cons (ps_set (i := 2) sc_law_spring.nd rfl (.inl rfl) pe_int)
      (pss_cons (ps_for PassesOwn.never rfl (pi_seq (pe_slice sl_A (pv 0) po_none (po_some pe_int))) (pg_name (i := 3) sc_law_spring.nd rfl (.inl rfl))
      (pss_cons (ps_if (pt_cmpR op_geA (pe_callB call_absA (by rfl) B.b_abs (by decide +kernel) (pa_cons (pv 3) pa_nil)) (pe_op op_powA pe_int pe_int) (nomark _))
      (pss_one (ps_set (i := 1) sc_law_spring.nd rfl (.inl rfl) (pe_op op_addA (pe_op op_mulA (pv 1) (pe_op op_powA pe_int pe_int)) (pe_op op_modA (pe_callB call_absA (by rfl) B.b_abs (by decide +kernel) (pa_cons (pv 3) pa_nil)) (pe_op op_powA pe_int pe_int)))))
      pss_nil)
      (pss_one (ps_set (i := 2) sc_law_spring.nd rfl (.inl rfl) (pe_op op_modA (pe_op op_addA (pe_op op_addA (pe_op op_mulA (pv 2) pe_int) (pe_op op_modA (pv 3) pe_int)) pe_int) pe_int)))))
      (pss_one (ps_ret (pe_lst (pa_cons (pv 1) (pa_cons (pv 2) (pa_cons pe_int pa_nil))))))))), pure_law_spring F h⟩

theorem sc_law_draw : FnScope N_law_draw ["_law_spring_here", "_law_many"] (defScope s_law_draw) := ⟨rfl, rfl, rfl, by decide +kernel, rfl, by decide +kernel, by decide +kernel⟩
theorem cl_law_draw (B : Bl mg) (C : Cn K mg) (F : WorC K w) {f : Addr} {fd : FuncData} (D : FnP K "_law_draw" s_law_draw f fd) (hm : mg "_law_draw" = some (.ref f)) (hb : Binds K fd ["_law_spring_here", "_law_many"] []) : Cl P w K mg base 1 "_law_draw" (sp_law_draw K w) :=
  cl_of D hm hb sc_law_draw (fun vs H Q E h => len_law_draw h) fun cdv A outer s H vs Q E hr h => ⟨t_law_draw K w, PSs.nox (pss_cons (ps_if (pt_cmpR op_gtA (pe_ix ix_seq (pv 0) pe_int (fun _ _ => rfl)) pe_int (nomark _))
      (pss_cons (ps_set (i := 2) sc_law_draw.nd rfl (.inl rfl) (pe_op op_modA (pe_ix ix_seq (pv 0) pe_int (fun _ _ => rfl)) (pv 1)))
      (pss_cons (ps_asg (pe_op op_divA (pe_ix ix_seq (pv 0) pe_int (fun _ _ => rfl)) (pv 1)) (pg_sub (pv 0) pe_int set_list))
      (pss_one (ps_ret (pv 2)))))
      pss_nil)
      (pss_cons (ps_asg (pe_op op_addA (pe_ix ix_seq (pv 0) pe_int (fun _ _ => rfl)) pe_int) (pg_sub (pv 0) pe_int set_list))
      (pss_cons (ps_set (i := 3) sc_law_draw.nd rfl (.inl rfl) (pe_op op_modA (pe_op op_mulA (pe_ix ix_seq (pv 0) pe_int (fun _ _ => rfl)) (pe_ix ix_seq (pv 0) pe_int (fun _ _ => rfl))) pe_int))
      (pss_cons (ps_asg (pe_op op_modA (pe_op op_addA (pe_op op_addA (pv 3) (pe_op op_mulA (pe_op op_mulA pe_int (pe_ix ix_seq (pv 0) pe_int (fun _ _ => rfl))) (pe_ix ix_seq (pv 0) pe_int (fun _ _ => rfl)))) pe_int) pe_int) (pg_sub (pv 0) pe_int set_list))
      (pss_one (ps_ret (pe_op op_modA (pe_op op_divA (pe_ix ix_seq (pv 0) pe_int (fun _ _ => rfl)) pe_int) (pv 1)))))))), pure_law_draw F h⟩

theorem sc_law_worth : FnScope N_law_worth ["_law_spring_here", "_law_deep"] (defScope s_law_worth) := ⟨rfl, rfl, rfl, by decide +kernel, rfl, by decide +kernel, by decide +kernel⟩
theorem clr_law_worth (B : Bl mg) (C : Cn K mg) (F : WorC K w) (c_law_draw : Cl P w K mg base 1 "_law_draw" (sp_law_draw K w)) {f : Addr} {fd : FuncData} (D : FnP K "_law_worth" s_law_worth f fd) (hm : mg "_law_worth" = some (.ref f)) (hb : Binds K fd ["_law_spring_here", "_law_deep"] []) : ∀ n, Cl P w K mg base (1 + n) "_law_worth" (spLw K w n)
  | 0 => ⟨f, fd, _, ⟨fun vs H Q E h => h.elim, fun A outer s H args us vs Q E hr he hb hv h => h.elim⟩, hm, D.kp, hb⟩
  | n + 1 =>
    have c_rec := clr_law_worth B C F c_law_draw D hm hb n
    cl_of (k := 1 + n) D hm hb sc_law_worth (fun vs H Q E h => len_law_worth h) fun cdv A outer s H vs Q E hr h => ⟨t_law_worth K w (spLw K w n), PSs.nox (pss_cons (ps_set (i := 2) sc_law_worth.nd rfl (.inl rfl) (pe_ifExp (pt_cmpR op_gtA (pv 1) pe_int (nomark _)) (pe_cl c_law_draw hr (by omega) rfl (pa_cons (pv 0) (pa_cons pe_int pa_nil))) (pe_cl c_law_draw hr (by omega) rfl (pa_cons (pv 0) (pa_cons pe_int pa_nil)))))
      (pss_cons (ps_if (pt_cmpR op_ltA (pv 2) pe_int (nomark _))
      (pss_one (ps_ret (pe_tup (pa_cons pe_str (pa_cons (pe_ix ix_seq (pe_lst (pa_cons (pe_cl c_law_draw hr (by omega) rfl (pa_cons (pv 0) (pa_cons pe_int pa_nil))) (pa_cons (pe_cl c_law_draw hr (by omega) rfl (pa_cons (pv 0) (pa_cons pe_int pa_nil))) (pa_cons pe_int pa_nil)))) (pe_cl c_law_draw hr (by omega) rfl (pa_cons (pv 0) (pa_cons pe_int pa_nil))) (fun _ _ => rfl)) pa_nil)))))
      pss_nil)
      (pss_cons (ps_if (pt_cmpR op_ltA (pv 2) pe_int (nomark _))
      (pss_one (ps_ret (pe_tup (pa_cons pe_str (pa_cons (pe_ix ix_seq (pe_lst (pa_cons pe_str (pa_cons pe_str (pa_cons pe_str (pa_cons pe_str (pa_cons pe_str (pa_cons pe_str pa_nil))))))) (pe_cl c_law_draw hr (by omega) rfl (pa_cons (pv 0) (pa_cons pe_int pa_nil))) (fun _ _ => rfl)) pa_nil)))))
      pss_nil)
      (pss_cons (ps_if (pt_cmpR (op_eqA hr.units) (pv 2) pe_int (nomark _))
      (pss_one (ps_ret (pe_tup (pa_cons pe_str (pa_cons (pe_cl c_rec hr (Nat.le_refl _) rfl (pa_cons (pv 0) (pa_cons (pe_op op_subA (pv 1) pe_int) pa_nil))) pa_nil)))))
      pss_nil)
      (pss_cons (ps_if (pt_cmpR (op_eqA hr.units) (pv 2) pe_int (nomark _))
      (pss_one (ps_ret (pe_tup (pa_cons pe_str (pa_cons (pe_cl c_rec hr (Nat.le_refl _) rfl (pa_cons (pv 0) (pa_cons (pe_op op_subA (pv 1) pe_int) pa_nil))) pa_nil)))))
      pss_nil)
      (pss_cons (ps_set (i := 3) sc_law_worth.nd rfl (.inl rfl) (pe_ix ix_seq pe_str (pe_cl c_law_draw hr (by omega) rfl (pa_cons (pv 0) (pa_cons pe_int pa_nil))) (fun _ _ => rfl)))
      (pss_one (ps_ret (pe_tup (pa_cons (pv 3) (pa_cons (pe_cl c_rec hr (Nat.le_refl _) rfl (pa_cons (pv 0) (pa_cons (pe_op op_subA (pv 1) pe_int) pa_nil))) (pa_cons (pe_cl c_rec hr (Nat.le_refl _) rfl (pa_cons (pv 0) (pa_cons (pe_op op_subA (pv 1) pe_int) pa_nil))) pa_nil)))))))))))), pure_law_worth F h⟩
theorem cl_law_worth (B : Bl mg) (C : Cn K mg) (F : WorC K w) (c_law_draw : Cl P w K mg base 1 "_law_draw" (sp_law_draw K w)) {f : Addr} {fd : FuncData} (D : FnP K "_law_worth" s_law_worth f fd) (hm : mg "_law_worth" = some (.ref f)) (hb : Binds K fd ["_law_spring_here", "_law_deep"] []) : Cl P w K mg base 9 "_law_worth" (sp_law_worth K w) :=
  clr_law_worth B C F c_law_draw D hm hb 8

theorem sc_law__law_now : NScope N_law__law_now ["_law_e"] ["_law_names", "_law_cells"] (C8.fnScope on_law) := nscope_by (by decide +kernel)
theorem nok_law__law_now (B : Bl mg) (C : Cn K mg) (F : WorC K w) (c_worth_of : Cl P w K mg base 49 "worth_of" (sp_worth_of K w)) (f : Addr) (cl : List (Str × Addr)) (c2 : Addr) : NOk P w K mg base CX0 50 f (NF.of on_law "_law_now" on_q_law cl c2) ["_law_e"] ["_law_names", "_law_cells"] (spCap2 (sp_law__law_now K w)) :=
  nok_of sc_law__law_now (fun doc pm ctv us hl => match us, hl with | [_], _ => rfl) (fun ws vs H Q E h => len_on h) fun A outer s H vs ws Q E hr hf hc hw h => ⟨t_law__law_now K w, PSs.nox (pss_one (ps_ret (pe_cl c_worth_of hr (by decide) rfl (pa_cons (pv 0) (pa_cons (pv 1) (pa_cons (pv 2) pa_nil)))))), pure_law__law_now F h⟩

theorem sc_law_put : FnScope N_law_put ["_law_e", "_law_x", "_law_byte"] (defScope s_law_put) := ⟨rfl, rfl, rfl, by decide +kernel, rfl, by decide +kernel, by decide +kernel⟩
theorem clr_law_put (B : Bl mg) (C : Cn K mg) (F : WorC K w) {f : Addr} {fd : FuncData} (D : FnP K "_law_put" s_law_put f fd) (hm : mg "_law_put" = some (.ref f)) (hb : Binds K fd ["_law_e", "_law_x", "_law_byte"] []) : ∀ n, Cl P w K mg base (0 + n) "_law_put" (spPu K w n)
  | 0 => ⟨f, fd, _, ⟨fun vs H Q E h => h.elim, fun A outer s H args us vs Q E hr he hb hv h => h.elim⟩, hm, D.kp, hb⟩
  | n + 1 =>
    have c_rec := clr_law_put B C F D hm hb n
    cl_of (k := 0 + n) D hm hb sc_law_put (fun vs H Q E h => len_law_put h) fun cdv A outer s H vs Q E hr h => ⟨t_law_put K w (spPu K w n), PSs.nox (pss_cons (ps_if (pt_cmpR (op_eqA hr.units) (pe_ix ix_seq (pv 0) pe_int (fun _ _ => rfl)) pe_str (nomark _))
      (pss_one (ps_ret (pe_ifExp (pt_cmpR (op_eqA hr.units) (pe_ix ix_seq (pv 0) pe_int (fun _ _ => rfl)) (pv 1) (nomark _)) (pe_tup (pa_cons pe_str (pa_cons (pv 2) pa_nil))) (pv 0))))
      pss_nil)
      (pss_cons (ps_if (pt_cmpR (op_eqA hr.units) (pe_ix ix_seq (pv 0) pe_int (fun _ _ => rfl)) pe_str (nomark _))
      (pss_one (ps_ret (pv 0)))
      pss_nil)
      (pss_one (ps_ret (pe_op op_addA (pe_slice sl_A (pv 0) po_none (po_some pe_int)) (pe_callTy call_tupA (by rfl) B.b_tuple (by decide +kernel) (pa_cons (pe_lc (own := [("_law_part", 3)]) (g := (gName 3)) rfl sc_law_put.nd (pi_seq (pe_slice sl_A (pv 0) (po_some pe_int) po_none)) (blkOk_by (by kernel_rfl)) (fun _ _ _ _ _ => (pg_name (i := 3) sc_law_put.nd rfl (.inl rfl))) (fun _ _ _ _ _ => pts_nil) (fun _ _ _ _ _ => (pe_cl c_rec hr (Nat.le_refl _) rfl (pa_cons (pv 3) (pa_cons (pv 1) (pa_cons (pv 2) pa_nil)))))) pa_nil))))))), pure_law_put F h⟩
theorem cl_law_put (B : Bl mg) (C : Cn K mg) (F : WorC K w) {f : Addr} {fd : FuncData} (D : FnP K "_law_put" s_law_put f fd) (hm : mg "_law_put" = some (.ref f)) (hb : Binds K fd ["_law_e", "_law_x", "_law_byte"] []) : Cl P w K mg base 8 "_law_put" (sp_law_put K w) :=
  clr_law_put B C F D hm hb 8

theorem sc_law_two_right : FnScope N_law_two_right ["_law_now_here", "_law_one", "_law_other"] (defScope s_law_two_right) := ⟨rfl, rfl, rfl, by decide +kernel, rfl, by decide +kernel, by decide +kernel⟩
theorem cl_law_two_right (B : Bl mg) (C : Cn K mg) (F : WorC K w) (c_on : ∀ (f : Addr) (F : NF) (sp : Addr → Addr → Sp), OnP K F sp → NOk P w K mg base CX0 50 f F ["_law_e"] ["_law_names", "_law_cells"] (spCap2 sp)) {f : Addr} {fd : FuncData} (D : FnP K "_law_two_right" s_law_two_right f fd) (hm : mg "_law_two_right" = some (.ref f)) (hb : Binds K fd ["_law_now_here", "_law_one", "_law_other"] []) : Cl P w K mg base 51 "_law_two_right" (sp_law_two_right K w) :=
  cl_of D hm hb sc_law_two_right (fun vs H Q E h => len_law_two_right h) fun cdv A outer s H vs Q E hr h => ⟨t_law_two_right K w, PSs.nox (pss_cons (ps_for PassesOwn.never rfl (pi_str pe_str) (pg_name (i := 3) sc_law_two_right.nd rfl (.inl rfl))
      (pss_one (ps_if (pt_cmpR (op_neA hr.units) (pe_callH2 c_on hr (by decide) rfl (.inl rfl) (pa_cons (pe_tup (pa_cons (pv 3) (pa_cons (pv 1) (pa_cons (pv 2) pa_nil)))) pa_nil)) (pe_callH2 c_on hr (by decide) rfl (.inl rfl) (pa_cons (pe_tup (pa_cons (pv 3) (pa_cons (pv 2) (pa_cons (pv 1) pa_nil)))) pa_nil)) (nomark _))
      (pss_one (ps_ret pe_bl))
      pss_nil)))
      (pss_cons (ps_if (PW.pt (pw_or (pt_cmpR (op_neA hr.units) (pe_callH2 c_on hr (by decide) rfl (.inl rfl) (pa_cons (pe_tup (pa_cons pe_str (pa_cons (pe_tup (pa_cons pe_str (pa_cons (pv 1) (pa_cons (pv 2) pa_nil)))) (pa_cons (pv 2) pa_nil)))) pa_nil)) (pe_callH2 c_on hr (by decide) rfl (.inl rfl) (pa_cons (pv 1) pa_nil)) (nomark _)) (pw_or1 (pt_cmpR (op_neA hr.units) (pe_callH2 c_on hr (by decide) rfl (.inl rfl) (pa_cons (pe_tup (pa_cons pe_str (pa_cons (pe_tup (pa_cons pe_str (pa_cons (pv 1) (pa_cons (pv 2) pa_nil)))) (pa_cons (pv 2) pa_nil)))) pa_nil)) (pe_callH2 c_on hr (by decide) rfl (.inl rfl) (pa_cons (pv 1) pa_nil)) (nomark _)))))
      (pss_one (ps_ret pe_bl))
      pss_nil)
      (pss_cons (ps_if (pt_cmpR (op_neA hr.units) (pe_callH2 c_on hr (by decide) rfl (.inl rfl) (pa_cons (pe_tup (pa_cons pe_str (pa_cons (pe_tup (pa_cons pe_str (pa_cons (pv 1) (pa_cons (pv 2) pa_nil)))) (pa_cons (pe_tup (pa_cons pe_str (pa_cons (pv 1) (pa_cons (pv 2) pa_nil)))) pa_nil)))) pa_nil)) (pe_callH2 c_on hr (by decide) rfl (.inl rfl) (pa_cons (pe_tup (pa_cons pe_str (pa_cons (pv 1) (pa_cons (pv 2) pa_nil)))) pa_nil)) (nomark _))
      (pss_one (ps_ret pe_bl))
      pss_nil)
      (pss_cons (ps_if (pt_cmpR (op_neA hr.units) (pe_callH2 c_on hr (by decide) rfl (.inl rfl) (pa_cons (pe_tup (pa_cons pe_str (pa_cons (pe_tup (pa_cons pe_str (pa_cons (pv 1) (pa_cons (pv 2) pa_nil)))) (pa_cons (pe_tup (pa_cons pe_str (pa_cons (pv 1) (pa_cons (pv 2) pa_nil)))) pa_nil)))) pa_nil)) (pe_callH2 c_on hr (by decide) rfl (.inl rfl) (pa_cons (pe_tup (pa_cons pe_str (pa_cons (pv 1) (pa_cons (pv 2) pa_nil)))) pa_nil)) (nomark _))
      (pss_one (ps_ret pe_bl))
      pss_nil)
      (pss_cons (ps_set (i := 4) sc_law_two_right.nd rfl (.inl rfl) (pe_op op_addA (pe_op op_addA (pe_callH2 c_on hr (by decide) rfl (.inl rfl) (pa_cons (pe_tup (pa_cons pe_str (pa_cons (pv 1) (pa_cons (pv 2) pa_nil)))) pa_nil)) (pe_callH2 c_on hr (by decide) rfl (.inl rfl) (pa_cons (pe_tup (pa_cons pe_str (pa_cons (pv 2) (pa_cons (pv 1) pa_nil)))) pa_nil))) (pe_callH2 c_on hr (by decide) rfl (.inl rfl) (pa_cons (pe_tup (pa_cons pe_str (pa_cons (pv 1) (pa_cons (pv 2) pa_nil)))) pa_nil))))
      (pss_one (ps_ret (L2.pe_and (pe_cmpR (op_eqA hr.units) (pv 4) pe_int (nomark _)) (L2.pe_and (pe_cmpR (op_eqA hr.units) (pe_callH2 c_on hr (by decide) rfl (.inl rfl) (pa_cons (pe_tup (pa_cons pe_str (pa_cons (pv 1) pa_nil))) pa_nil)) (pe_callH2 c_on hr (by decide) rfl (.inl rfl) (pa_cons (pe_tup (pa_cons pe_str (pa_cons (pv 1) (pa_cons (pe_tup (pa_cons pe_str (pa_cons pe_int pa_nil))) pa_nil)))) pa_nil)) (nomark _)) (pe_one (pe_cmpR (op_eqA hr.units) (pe_callH2 c_on hr (by decide) rfl (.inl rfl) (pa_cons (pe_tup (pa_cons pe_str (pa_cons (pv 1) (pa_cons (pv 1) pa_nil)))) pa_nil)) pe_int (nomark _)))))))))))), pure_law_two_right F h⟩

theorem sc_law_three_right : FnScope N_law_three_right ["_law_now_here", "_law_one", "_law_other", "_law_third"] (defScope s_law_three_right) := ⟨rfl, rfl, rfl, by decide +kernel, rfl, by decide +kernel, by decide +kernel⟩
theorem cl_law_three_right (B : Bl mg) (C : Cn K mg) (F : WorC K w) (c_on : ∀ (f : Addr) (F : NF) (sp : Addr → Addr → Sp), OnP K F sp → NOk P w K mg base CX0 50 f F ["_law_e"] ["_law_names", "_law_cells"] (spCap2 sp)) {f : Addr} {fd : FuncData} (D : FnP K "_law_three_right" s_law_three_right f fd) (hm : mg "_law_three_right" = some (.ref f)) (hb : Binds K fd ["_law_now_here", "_law_one", "_law_other", "_law_third"] []) : Cl P w K mg base 51 "_law_three_right" (sp_law_three_right K w) :=
  cl_of D hm hb sc_law_three_right (fun vs H Q E h => len_law_three_right h) fun cdv A outer s H vs Q E hr h => ⟨t_law_three_right K w, PSs.nox (pss_cons (ps_for PassesOwn.never rfl (pi_str pe_str) (pg_name (i := 4) sc_law_three_right.nd rfl (.inl rfl))
      (pss_one (ps_if (pt_cmpR (op_neA hr.units) (pe_callH2 c_on hr (by decide) rfl (.inl rfl) (pa_cons (pe_tup (pa_cons (pv 4) (pa_cons (pe_tup (pa_cons (pv 4) (pa_cons (pv 1) (pa_cons (pv 2) pa_nil)))) (pa_cons (pv 3) pa_nil)))) pa_nil)) (pe_callH2 c_on hr (by decide) rfl (.inl rfl) (pa_cons (pe_tup (pa_cons (pv 4) (pa_cons (pv 1) (pa_cons (pe_tup (pa_cons (pv 4) (pa_cons (pv 2) (pa_cons (pv 3) pa_nil)))) pa_nil)))) pa_nil)) (nomark _))
      (pss_one (ps_ret pe_bl))
      pss_nil)))
      (pss_one (ps_ret (pe_cmpR (op_eqA hr.units) (pe_callH2 c_on hr (by decide) rfl (.inl rfl) (pa_cons (pe_tup (pa_cons pe_str (pa_cons (pe_tup (pa_cons pe_str (pa_cons (pv 1) (pa_cons (pe_tup (pa_cons pe_str (pa_cons pe_int pa_nil))) pa_nil)))) pa_nil))) pa_nil)) (pe_callH2 c_on hr (by decide) rfl (.inl rfl) (pa_cons (pe_tup (pa_cons pe_str (pa_cons (pv 1) pa_nil))) pa_nil)) (nomark _))))), pure_law_three_right F h⟩

theorem sc_law : FnScope N_law ["_law_script"] (defScope s_law) := ⟨rfl, rfl, rfl, by decide +kernel, rfl, by decide +kernel, by decide +kernel⟩
theorem fnok_law (B : Bl mg) (C : Cn K mg) (F : WorC K w) (c_law_spring : Cl P w K mg base 1 "_law_spring" (sp_law_spring K w)) (c_law_worth : Cl P w K mg base 9 "_law_worth" (sp_law_worth K w)) (c_law_draw : Cl P w K mg base 1 "_law_draw" (sp_law_draw K w)) (c_law_two_right : Cl P w K mg base 51 "_law_two_right" (sp_law_two_right K w)) (c_law_three_right : Cl P w K mg base 51 "_law_three_right" (sp_law_three_right K w)) (c_law_put : Cl P w K mg base 8 "_law_put" (sp_law_put K w)) (n_now : ∀ (f : Addr) (cl : List (Str × Addr)) (c2 : Addr), NOk P w K mg base CX0 50 f (NF.of on_law "_law_now" on_q_law cl c2) ["_law_e"] ["_law_names", "_law_cells"] (spCap2 (sp_law__law_now K w))) (tb_law : TabB base mg (He.cT K ("law", none)).1 (nt_P_law K)) {fd : FuncData} (D : FnP K "law" s_law (He.fAd K ("law", none)) fd) : FnOk P w K mg base CX0 52 (He.fAd K ("law", none)) fd ["_law_script"] (sp_law K w) :=
  fn_ofC D sc_law (fun vs H Q E h => len_law h) fun A outer s H vs Q E hr h => ⟨t_law K w (s.heap.objs.size + 3) (s.heap.objs.size + 2), PSs.nox (pss_cons (ps_set (i := 1) sc_law.nd rfl (.inr rfl) (pe_cl c_law_spring hr (by decide) rfl (pa_cons (pv 0) pa_nil)))
      (pss_cons (ps_for PassesOwn.never rfl (pi_range1 rfl B.b_range (pa_cons (pe_op op_addA pe_int (pe_callB (call_min2A rfl) (by rfl) B.b_min (by decide +kernel) (pa_cons (pe_callB call_lenA (by rfl) B.b_len (by decide +kernel) (pa_cons (pv 0) pa_nil)) (pa_cons pe_int pa_nil)))) pa_nil)) (pg_name (i := 2) sc_law.nd rfl (.inl rfl))
      (pss_cons (ps_setLc (i := 3) (own := [("_law_k", 4)]) (g := (gName 4)) rfl sc_law.nd rfl rfl (sw_true rfl rfl rfl (by decide +kernel)) (pi_range1 rfl B.b_range (pa_cons pe_int pa_nil)) (blkOk_by (by kernel_rfl)) (fun _ _ _ _ _ => (pg_name (i := 4) sc_law.nd rfl (.inl rfl))) (fun _ _ _ _ _ => pts_nil) (fun _ _ _ _ _ => (pe_cl c_law_worth hr (by decide) rfl (pa_cons (pv 1) (pa_cons (pe_op op_addA pe_int (pe_cl c_law_draw hr (by decide) rfl (pa_cons (pv 1) (pa_cons pe_int pa_nil)))) pa_nil)))))
      (pss_cons (ps_set (i := 5) sc_law.nd rfl (.inr rfl) pe_dnewK)
      (pss_cons (ps_for PassesOwn.never rfl (pi_seq (pe_lst (pa_cons pe_str (pa_cons pe_str (pa_cons pe_str (pa_cons pe_str (pa_cons pe_str (pa_cons pe_str pa_nil)))))))) (pg_name (i := 6) sc_law.nd rfl (.inl rfl))
      (pss_one (ps_dput (hu_of hr) (pv 5) (pv 6) (pe_ix ix_seq (pe_lst (pa_cons (pe_cl c_law_draw hr (by decide) rfl (pa_cons (pv 1) (pa_cons pe_int pa_nil))) (pa_cons (pe_cl c_law_draw hr (by decide) rfl (pa_cons (pv 1) (pa_cons pe_int pa_nil))) pa_nil))) (pe_cl c_law_draw hr (by decide) rfl (pa_cons (pv 1) (pa_cons pe_int pa_nil))) (fun _ _ => rfl)) rfl)))
      (pss_cons (ps_set (i := 7) sc_law.nd rfl (.inr rfl) (pe_lc (own := [("_law_at", 8)]) (g := (gName 8)) rfl sc_law.nd (pi_range1 rfl B.b_range (pa_cons pe_int pa_nil)) (blkOk_by (by kernel_rfl)) (fun _ _ _ _ _ => (pg_name (i := 8) sc_law.nd rfl (.inl rfl))) (fun _ _ _ _ _ => pts_nil) (fun _ _ _ _ _ => (pe_cl c_law_draw hr (by decide) rfl (pa_cons (pv 1) (pa_cons pe_int pa_nil))))))
      (pss_cons (ps_ndefW (i := 9) (T := NT K) (q := on_q_law) (cl := on_cl (s.heap.objs.size + 3) (s.heap.objs.size + 2)) rfl (by kernel_rfl) rfl tb_law rfl (nt_mem_law K) rfl (nt_one K) (by kernel_rfl) rfl rfl rfl sc_law.nd rfl (.inl rfl) (.inl rfl))
      (pss_cons (ps_if (PW.pt (pw_or (pt_not (pt_val (pe_callC2 c_law_two_right hr (by decide) rfl (j1 := 5) (j2 := 7) rfl rfl rfl rfl rfl rfl (on_gt3 _) (on_gt2 _) (pa_cons (pv 9) (pa_cons (pe_ix ix_seq (pv 3) pe_int (fun _ _ => rfl)) (pa_cons (pe_ix ix_seq (pv 3) pe_int (fun _ _ => rfl)) pa_nil)))) (by intro _; rfl))) (pw_or1 (pt_not (pt_val (pe_callC2 c_law_three_right hr (by decide) rfl (j1 := 5) (j2 := 7) rfl rfl rfl rfl rfl rfl (on_gt3 _) (on_gt2 _) (pa_cons (pv 9) (pa_cons (pe_ix ix_seq (pv 3) pe_int (fun _ _ => rfl)) (pa_cons (pe_ix ix_seq (pv 3) pe_int (fun _ _ => rfl)) (pa_cons (pe_ix ix_seq (pv 3) pe_int (fun _ _ => rfl)) pa_nil))))) (by intro _; rfl))))))
      (pss_one (ps_ret pe_bl))
      pss_nil)
      (pss_cons (ps_if (pt_cmpR (op_neA hr.units) (pe_calln (fun f c2 => n_now f _ c2) (fun _ => rfl) (fun ok => on_caps ok (by kernel_rfl) (by kernel_rfl) (by rfl)) hr (by decide) (fun _ _ _ _ _ _ _ z => z.elim) rfl (.inl rfl) (pa_cons (pe_tup (pa_cons pe_str (pa_cons (pe_ix ix_seq (pv 3) pe_int (fun _ _ => rfl)) pa_nil))) pa_nil)) (pe_ix ix_seq (pv 7) (pe_op op_modA (pe_calln (fun f c2 => n_now f _ c2) (fun _ => rfl) (fun ok => on_caps ok (by kernel_rfl) (by kernel_rfl) (by rfl)) hr (by decide) (fun _ _ _ _ _ _ _ z => z.elim) rfl (.inl rfl) (pa_cons (pe_ix ix_seq (pv 3) pe_int (fun _ _ => rfl)) pa_nil)) pe_int) (fun _ _ => rfl)) (nomark _))
      (pss_one (ps_ret pe_bl))
      pss_nil)
      (pss_one (ps_lock (ps_for PassesOwn.never rfl (pi_keys (pv 5)) (pg_name (i := 6) sc_law.nd rfl (.inl rfl))
      (pss_one (ps_if (pt_cmpR (op_neA hr.units) (pe_calln (fun f c2 => n_now f _ c2) (fun _ => rfl) (fun ok => on_caps ok (by kernel_rfl) (by kernel_rfl) (by rfl)) hr (by decide) (fun _ _ _ _ _ _ _ z => z.elim) rfl (.inl rfl) (pa_cons (pe_cl c_law_put hr (by decide) rfl (pa_cons (pe_ix ix_seq (pv 3) pe_int (fun _ _ => rfl)) (pa_cons (pv 6) (pa_cons (pe_dget (hu_of hr) (pv 5) (pv 6) (fun _ _ => rfl)) pa_nil)))) pa_nil)) (pe_calln (fun f c2 => n_now f _ c2) (fun _ => rfl) (fun ok => on_caps ok (by kernel_rfl) (by kernel_rfl) (by rfl)) hr (by decide) (fun _ _ _ _ _ _ _ z => z.elim) rfl (.inl rfl) (pa_cons (pe_ix ix_seq (pv 3) pe_int (fun _ _ => rfl)) pa_nil)) (nomark _))
      (pss_one (ps_ret pe_bl))
      pss_nil)))))))))))))
      (pss_one (ps_ret pe_bl)))), pure_law F _ _ h⟩

end
end Rl
namespace Rl
open PySem PySem.Spec PyProof.Rows L2 NdefX LamX
/-! ## the head: facts by names, the run -/
def d_number_worth : He.DefD := ⟨("number_worth", none), "number_worth", "number_worth", defArgs s_number_worth, defBody s_number_worth, defScope s_number_worth, [], []⟩
def d_name_worth : He.DefD := ⟨("name_worth", none), "name_worth", "name_worth", defArgs s_name_worth, defBody s_name_worth, defScope s_name_worth, [], []⟩
def d_summed : He.DefD := ⟨("summed", none), "summed", "summed", defArgs s_summed, defBody s_summed, defScope s_summed, [], []⟩
def d_taken_off : He.DefD := ⟨("taken_off", none), "taken_off", "taken_off", defArgs s_taken_off, defBody s_taken_off, defScope s_taken_off, [], []⟩
def d_both_bits : He.DefD := ⟨("both_bits", none), "both_bits", "both_bits", defArgs s_both_bits, defBody s_both_bits, defScope s_both_bits, [], []⟩
def d_either_bits : He.DefD := ⟨("either_bits", none), "either_bits", "either_bits", defArgs s_either_bits, defBody s_either_bits, defScope s_either_bits, [], []⟩
def d_unlike_bits : He.DefD := ⟨("unlike_bits", none), "unlike_bits", "unlike_bits", defArgs s_unlike_bits, defBody s_unlike_bits, defScope s_unlike_bits, [], []⟩
def d_is_lesser : He.DefD := ⟨("is_lesser", none), "is_lesser", "is_lesser", defArgs s_is_lesser, defBody s_is_lesser, defScope s_is_lesser, [], []⟩
def d_are_same : He.DefD := ⟨("are_same", none), "are_same", "are_same", defArgs s_are_same, defBody s_are_same, defScope s_are_same, [], []⟩
def d_cell_worth : He.DefD := ⟨("cell_worth", none), "cell_worth", "cell_worth", defArgs s_cell_worth, defBody s_cell_worth, defScope s_cell_worth, [], []⟩
def d_not_worth : He.DefD := ⟨("not_worth", none), "not_worth", "not_worth", defArgs s_not_worth, defBody s_not_worth, defScope s_not_worth, [], []⟩
def d_worth_of : He.DefD := ⟨("worth_of", none), "worth_of", "worth_of", defArgs s_worth_of, defBody s_worth_of, defScope s_worth_of, [], []⟩
def d_law_spring : He.DefD := ⟨("_law_spring", none), "_law_spring", "_law_spring", defArgs s_law_spring, defBody s_law_spring, defScope s_law_spring, [], []⟩
def d_law_draw : He.DefD := ⟨("_law_draw", none), "_law_draw", "_law_draw", defArgs s_law_draw, defBody s_law_draw, defScope s_law_draw, [], []⟩
def d_law_worth : He.DefD := ⟨("_law_worth", none), "_law_worth", "_law_worth", defArgs s_law_worth, defBody s_law_worth, defScope s_law_worth, [], []⟩
def d_law_put : He.DefD := ⟨("_law_put", none), "_law_put", "_law_put", defArgs s_law_put, defBody s_law_put, defScope s_law_put, [], []⟩
def d_law_two_right : He.DefD := ⟨("_law_two_right", none), "_law_two_right", "_law_two_right", defArgs s_law_two_right, defBody s_law_two_right, defScope s_law_two_right, [], []⟩
def d_law_three_right : He.DefD := ⟨("_law_three_right", none), "_law_three_right", "_law_three_right", defArgs s_law_three_right, defBody s_law_three_right, defScope s_law_three_right, [], []⟩
def d_law : He.DefD := ⟨("law", none), "law", "law", defArgs s_law, defBody s_law, defScope s_law, [], []⟩
def fn : List He.DefD := [d_number_worth, d_name_worth, d_summed, d_taken_off, d_both_bits, d_either_bits, d_unlike_bits, d_is_lesser, d_are_same, d_cell_worth, d_not_worth, d_worth_of, d_law_spring, d_law_draw, d_law_worth, d_law_put, d_law_two_right, d_law_three_right, d_law]
def fa : List He.Fa := [.glo "number_worth", .glo "name_worth", .glo "summed", .glo "taken_off", .glo "both_bits", .glo "either_bits", .glo "unlike_bits", .glo "is_lesser", .glo "are_same", .glo "cell_worth", .glo "not_worth", .glo "worth_of", .glo "_law_spring", .glo "_law_draw", .glo "_law_worth", .glo "_law_put", .glo "_law_two_right", .glo "_law_three_right", .glo "law", .int "CELLS" (64), .glo "PLAIN", .int "ROUND" (256), .glo "SIGNS", .free "abs", .free "int", .free "len", .free "min", .free "range", .free "tuple"]
def tsT : List He.Tab := [((fun K => He.ga K "SIGNS"), ["+", "-", "&", "|", "^", "<", "="]), ((fun K => He.ga K "PLAIN"), ["number", "name", "cell", "not"])]
def ex (K : PySem.W.Frag) : Bool := kdS K (He.ga K "SIGNS") [("+", (.glo "summed")), ("-", (.glo "taken_off")), ("&", (.glo "both_bits")), ("|", (.glo "either_bits")), ("^", (.glo "unlike_bits")), ("<", (.glo "is_lesser")), ("=", (.glo "are_same"))] && (kdS K (He.ga K "PLAIN") [("number", (.glo "number_worth")), ("name", (.glo "name_worth")), ("cell", (.glo "cell_worth")), ("not", (.glo "not_worth"))])
abbrev Rw : PySem.W.OpenRow := PySem.W.OpenLaw.row PySem.Challenge.rw_rowlift_k31_whole_worths_go_together
abbrev hk : PySem.W.Hook := He.hookX 6 fa fn tsT [("law", none)] ex
def ob (s : PySem.W.SharedT) : He.AlX := He.obsX 6 fa fn tsT [("law", none)] ex (HandSHeadRun.getT s)
theorem ob_eq (s : PySem.W.SharedT) : ob s = hk.obs s.abs := He.obsX_eq (HandSHeadRun.getT_eq s)
theorem runF (w : World) : HandSHeadRun.RunEq Rw (PySem.W.view Rw.prog [24]) hk ob 2000 ("CELLS" :: "ROUND" :: "number_worth" :: "name_worth" :: "cell_worth" :: "not_worth" :: "summed" :: "taken_off" :: "both_bits" :: "either_bits" :: "unlike_bits" :: "is_lesser" :: "are_same" :: "PLAIN" :: "SIGNS" :: "worth_of" :: "_law_spring" :: "_law_draw" :: "_law_worth" :: "_law_put" :: "_law_two_right" :: "_law_three_right" :: []) (w.withFollow "special-get-raises" false) := by
  intro os
  kernel_rfl
theorem runT (w : World) : HandSHeadRun.RunEq Rw (PySem.W.view Rw.prog [24]) hk ob 2000 ("CELLS" :: "ROUND" :: "number_worth" :: "name_worth" :: "cell_worth" :: "not_worth" :: "summed" :: "taken_off" :: "both_bits" :: "either_bits" :: "unlike_bits" :: "is_lesser" :: "are_same" :: "PLAIN" :: "SIGNS" :: "worth_of" :: "_law_spring" :: "_law_draw" :: "_law_worth" :: "_law_put" :: "_law_two_right" :: "_law_three_right" :: []) (w.withFollow "special-get-raises" true) := by
  intro os
  kernel_rfl
theorem run (w : World) : HandSHeadRun.RunEq Rw (PySem.W.view Rw.prog [24]) hk ob 2000 ("CELLS" :: "ROUND" :: "number_worth" :: "name_worth" :: "cell_worth" :: "not_worth" :: "summed" :: "taken_off" :: "both_bits" :: "either_bits" :: "unlike_bits" :: "is_lesser" :: "are_same" :: "PLAIN" :: "SIGNS" :: "worth_of" :: "_law_spring" :: "_law_draw" :: "_law_worth" :: "_law_put" :: "_law_two_right" :: "_law_three_right" :: []) w := PySem.W.byRow2 "special-get-raises" (P := fun w => HandSHeadRun.RunEq Rw (PySem.W.view Rw.prog [24]) hk ob 2000 ("CELLS" :: "ROUND" :: "number_worth" :: "name_worth" :: "cell_worth" :: "not_worth" :: "summed" :: "taken_off" :: "both_bits" :: "either_bits" :: "unlike_bits" :: "is_lesser" :: "are_same" :: "PLAIN" :: "SIGNS" :: "worth_of" :: "_law_spring" :: "_law_draw" :: "_law_worth" :: "_law_put" :: "_law_two_right" :: "_law_three_right" :: []) w) runF runT w
theorem facts {P : Program} {w : World} {K : PySem.W.Frag} {h : Heap} {mg : Str → Option Value} {f : Addr} (X : K.In h) (G : h.Ns mainGlobals mg) (hfa : mg ("law" : Str) = some (.ref f)) (c : He.SaysX fa fn tsT [("law", none)] ex w h K) :
    ∃ fd : FuncData, (∀ (s : Shared) (v : Value), BindsTo s fd ⟨[v], []⟩ [("_law_script", v)]) ∧ ∀ base : Heap, K.In base → base.Ns mainGlobals mg → (∀ p ∈ [He.cT K ("law", none)], TabB base mg p.1 p.2) → FnOk P w K mg base CX0 52 f fd ["_law_script"] (sp_law K w) := by
  have more := c.more
  unfold ex at more
  obtain ⟨x0, r0⟩ := He.ba more
  have x1 := r0
  have F : WorC K w := ⟨kdS_ok x0 (c.t.tab 0 (t := ((fun K => He.ga K "SIGNS"), signsT.map Prod.fst)) rfl), kdS_ok x1 (c.t.tab 1 (t := ((fun K => He.ga K "PLAIN"), plainT.map Prod.fst)) rfl)⟩
  have B : Bl mg := ⟨He.free_ok X G (c.t.d.fact 23 (f := .free "abs") rfl), He.free_ok X G (c.t.d.fact 24 (f := .free "int") rfl), He.free_ok X G (c.t.d.fact 25 (f := .free "len") rfl), He.free_ok X G (c.t.d.fact 26 (f := .free "min") rfl), He.free_ok X G (c.t.d.fact 27 (f := .free "range") rfl), He.free_ok X G (c.t.d.fact 28 (f := .free "tuple") rfl)⟩
  have C : Cn K mg := ⟨He.int_ok X G (c.t.d.fact 19 (f := .int "CELLS" (64)) rfl), He.glo_ok X G (c.t.d.fact 20 (f := .glo "PLAIN") rfl), He.int_ok X G (c.t.d.fact 21 (f := .int "ROUND" (256)) rfl), He.glo_ok X G (c.t.d.fact 22 (f := .glo "SIGNS") rfl)⟩
  obtain ⟨fd_number_worth, D_number_worth⟩ := c.t.d.def_ 0 (d := d_number_worth) rfl
  have c_number_worth : ∀ (base : Heap) (tb : ∀ p ∈ [He.cT K ("law", none)], TabB base mg p.1 p.2), Cl P w K mg base 1 "number_worth" (sp_number_worth K w) := fun base tb => cl_number_worth B C F D_number_worth (He.glo_ok X G (c.t.d.fact 0 (f := .glo "number_worth") rfl)) (D_number_worth.bindsN fun _ _ _ _ _ _ us hl => match us, hl with | [_, _, _], _ => rfl)
  obtain ⟨fd_name_worth, D_name_worth⟩ := c.t.d.def_ 1 (d := d_name_worth) rfl
  have c_name_worth : ∀ (base : Heap) (tb : ∀ p ∈ [He.cT K ("law", none)], TabB base mg p.1 p.2), Cl P w K mg base 1 "name_worth" (sp_name_worth K w) := fun base tb => cl_name_worth B C F D_name_worth (He.glo_ok X G (c.t.d.fact 1 (f := .glo "name_worth") rfl)) (D_name_worth.bindsN fun _ _ _ _ _ _ us hl => match us, hl with | [_, _, _], _ => rfl)
  obtain ⟨fd_summed, D_summed⟩ := c.t.d.def_ 2 (d := d_summed) rfl
  have c_summed : ∀ (base : Heap) (tb : ∀ p ∈ [He.cT K ("law", none)], TabB base mg p.1 p.2), Cl P w K mg base 1 "summed" (sp_summed K w) := fun base tb => cl_summed B C F D_summed (He.glo_ok X G (c.t.d.fact 2 (f := .glo "summed") rfl)) (D_summed.bindsN fun _ _ _ _ _ _ us hl => match us, hl with | [_, _], _ => rfl)
  obtain ⟨fd_taken_off, D_taken_off⟩ := c.t.d.def_ 3 (d := d_taken_off) rfl
  have c_taken_off : ∀ (base : Heap) (tb : ∀ p ∈ [He.cT K ("law", none)], TabB base mg p.1 p.2), Cl P w K mg base 1 "taken_off" (sp_taken_off K w) := fun base tb => cl_taken_off B C F D_taken_off (He.glo_ok X G (c.t.d.fact 3 (f := .glo "taken_off") rfl)) (D_taken_off.bindsN fun _ _ _ _ _ _ us hl => match us, hl with | [_, _], _ => rfl)
  obtain ⟨fd_both_bits, D_both_bits⟩ := c.t.d.def_ 4 (d := d_both_bits) rfl
  have c_both_bits : ∀ (base : Heap) (tb : ∀ p ∈ [He.cT K ("law", none)], TabB base mg p.1 p.2), Cl P w K mg base 1 "both_bits" (sp_both_bits K w) := fun base tb => cl_both_bits B C F D_both_bits (He.glo_ok X G (c.t.d.fact 4 (f := .glo "both_bits") rfl)) (D_both_bits.bindsN fun _ _ _ _ _ _ us hl => match us, hl with | [_, _], _ => rfl)
  obtain ⟨fd_either_bits, D_either_bits⟩ := c.t.d.def_ 5 (d := d_either_bits) rfl
  have c_either_bits : ∀ (base : Heap) (tb : ∀ p ∈ [He.cT K ("law", none)], TabB base mg p.1 p.2), Cl P w K mg base 1 "either_bits" (sp_either_bits K w) := fun base tb => cl_either_bits B C F D_either_bits (He.glo_ok X G (c.t.d.fact 5 (f := .glo "either_bits") rfl)) (D_either_bits.bindsN fun _ _ _ _ _ _ us hl => match us, hl with | [_, _], _ => rfl)
  obtain ⟨fd_unlike_bits, D_unlike_bits⟩ := c.t.d.def_ 6 (d := d_unlike_bits) rfl
  have c_unlike_bits : ∀ (base : Heap) (tb : ∀ p ∈ [He.cT K ("law", none)], TabB base mg p.1 p.2), Cl P w K mg base 1 "unlike_bits" (sp_unlike_bits K w) := fun base tb => cl_unlike_bits B C F D_unlike_bits (He.glo_ok X G (c.t.d.fact 6 (f := .glo "unlike_bits") rfl)) (D_unlike_bits.bindsN fun _ _ _ _ _ _ us hl => match us, hl with | [_, _], _ => rfl)
  obtain ⟨fd_is_lesser, D_is_lesser⟩ := c.t.d.def_ 7 (d := d_is_lesser) rfl
  have c_is_lesser : ∀ (base : Heap) (tb : ∀ p ∈ [He.cT K ("law", none)], TabB base mg p.1 p.2), Cl P w K mg base 1 "is_lesser" (sp_is_lesser K w) := fun base tb => cl_is_lesser B C F D_is_lesser (He.glo_ok X G (c.t.d.fact 7 (f := .glo "is_lesser") rfl)) (D_is_lesser.bindsN fun _ _ _ _ _ _ us hl => match us, hl with | [_, _], _ => rfl)
  obtain ⟨fd_are_same, D_are_same⟩ := c.t.d.def_ 8 (d := d_are_same) rfl
  have c_are_same : ∀ (base : Heap) (tb : ∀ p ∈ [He.cT K ("law", none)], TabB base mg p.1 p.2), Cl P w K mg base 1 "are_same" (sp_are_same K w) := fun base tb => cl_are_same B C F D_are_same (He.glo_ok X G (c.t.d.fact 8 (f := .glo "are_same") rfl)) (D_are_same.bindsN fun _ _ _ _ _ _ us hl => match us, hl with | [_, _], _ => rfl)
  obtain ⟨fd_cell_worth, D_cell_worth⟩ := c.t.d.def_ 9 (d := d_cell_worth) rfl
  obtain ⟨fd_not_worth, D_not_worth⟩ := c.t.d.def_ 10 (d := d_not_worth) rfl
  obtain ⟨fd_worth_of, D_worth_of⟩ := c.t.d.def_ 11 (d := d_worth_of) rfl
  have c_worth_of : ∀ (base : Heap) (tb : ∀ p ∈ [He.cT K ("law", none)], TabB base mg p.1 p.2), Cl P w K mg base 49 "worth_of" (sp_worth_of K w) := fun base tb => cl_worth_of B C F (c_number_worth base tb) (c_name_worth base tb) (c_summed base tb) (c_taken_off base tb) (c_both_bits base tb) (c_either_bits base tb) (c_unlike_bits base tb) (c_is_lesser base tb) (c_are_same base tb) (He.glo_ok X G (c.t.d.fact 0 (f := .glo "number_worth") rfl)) (He.glo_ok X G (c.t.d.fact 1 (f := .glo "name_worth") rfl)) (He.glo_ok X G (c.t.d.fact 2 (f := .glo "summed") rfl)) (He.glo_ok X G (c.t.d.fact 3 (f := .glo "taken_off") rfl)) (He.glo_ok X G (c.t.d.fact 4 (f := .glo "both_bits") rfl)) (He.glo_ok X G (c.t.d.fact 5 (f := .glo "either_bits") rfl)) (He.glo_ok X G (c.t.d.fact 6 (f := .glo "unlike_bits") rfl)) (He.glo_ok X G (c.t.d.fact 7 (f := .glo "is_lesser") rfl)) (He.glo_ok X G (c.t.d.fact 8 (f := .glo "are_same") rfl)) (He.glo_ok X G (c.t.d.fact 9 (f := .glo "cell_worth") rfl)) (He.glo_ok X G (c.t.d.fact 10 (f := .glo "not_worth") rfl)) D_worth_of (He.glo_ok X G (c.t.d.fact 11 (f := .glo "worth_of") rfl)) (D_worth_of.bindsN fun _ _ _ _ _ _ us hl => match us, hl with | [_, _, _], _ => rfl) D_cell_worth (He.glo_ok X G (c.t.d.fact 9 (f := .glo "cell_worth") rfl)) (D_cell_worth.bindsN fun _ _ _ _ _ _ us hl => match us, hl with | [_, _, _], _ => rfl) D_not_worth (He.glo_ok X G (c.t.d.fact 10 (f := .glo "not_worth") rfl)) (D_not_worth.bindsN fun _ _ _ _ _ _ us hl => match us, hl with | [_, _, _], _ => rfl)
  obtain ⟨fd_law_spring, D_law_spring⟩ := c.t.d.def_ 12 (d := d_law_spring) rfl
  have c_law_spring : ∀ (base : Heap) (tb : ∀ p ∈ [He.cT K ("law", none)], TabB base mg p.1 p.2), Cl P w K mg base 1 "_law_spring" (sp_law_spring K w) := fun base tb => cl_law_spring B C F D_law_spring (He.glo_ok X G (c.t.d.fact 12 (f := .glo "_law_spring") rfl)) (D_law_spring.bindsN fun _ _ _ _ _ _ us hl => match us, hl with | [_], _ => rfl)
  obtain ⟨fd_law_draw, D_law_draw⟩ := c.t.d.def_ 13 (d := d_law_draw) rfl
  have c_law_draw : ∀ (base : Heap) (tb : ∀ p ∈ [He.cT K ("law", none)], TabB base mg p.1 p.2), Cl P w K mg base 1 "_law_draw" (sp_law_draw K w) := fun base tb => cl_law_draw B C F D_law_draw (He.glo_ok X G (c.t.d.fact 13 (f := .glo "_law_draw") rfl)) (D_law_draw.bindsN fun _ _ _ _ _ _ us hl => match us, hl with | [_, _], _ => rfl)
  obtain ⟨fd_law_worth, D_law_worth⟩ := c.t.d.def_ 14 (d := d_law_worth) rfl
  have c_law_worth : ∀ (base : Heap) (tb : ∀ p ∈ [He.cT K ("law", none)], TabB base mg p.1 p.2), Cl P w K mg base 9 "_law_worth" (sp_law_worth K w) := fun base tb => cl_law_worth B C F (c_law_draw base tb) D_law_worth (He.glo_ok X G (c.t.d.fact 14 (f := .glo "_law_worth") rfl)) (D_law_worth.bindsN fun _ _ _ _ _ _ us hl => match us, hl with | [_, _], _ => rfl)
  have n_law__law_now : ∀ (base : Heap) (tb : ∀ p ∈ [He.cT K ("law", none)], TabB base mg p.1 p.2) (f : Addr) (cl : List (Str × Addr)) (c2 : Addr), NOk P w K mg base CX0 50 f (NF.of on_law "_law_now" on_q_law cl c2) ["_law_e"] ["_law_names", "_law_cells"] (spCap2 (sp_law__law_now K w)) := fun base tb f cl c2 => nok_law__law_now B C F (c_worth_of base tb) f cl c2
  obtain ⟨fd_law_put, D_law_put⟩ := c.t.d.def_ 15 (d := d_law_put) rfl
  have c_law_put : ∀ (base : Heap) (tb : ∀ p ∈ [He.cT K ("law", none)], TabB base mg p.1 p.2), Cl P w K mg base 8 "_law_put" (sp_law_put K w) := fun base tb => cl_law_put B C F D_law_put (He.glo_ok X G (c.t.d.fact 15 (f := .glo "_law_put") rfl)) (D_law_put.bindsN fun _ _ _ _ _ _ us hl => match us, hl with | [_, _, _], _ => rfl)
  obtain ⟨fd_law_two_right, D_law_two_right⟩ := c.t.d.def_ 16 (d := d_law_two_right) rfl
  have c_on : ∀ (base : Heap) (tb : ∀ p ∈ [He.cT K ("law", none)], TabB base mg p.1 p.2) (f : Addr) (F2 : NF) (sp : Addr → Addr → Sp), OnP K F2 sp → NOk P w K mg base CX0 50 f F2 ["_law_e"] ["_law_names", "_law_cells"] (spCap2 sp) := fun base tb f F2 sp h => on_known K w (fun f cl c2 => n_law__law_now base tb f cl c2) h
  have c_law_two_right : ∀ (base : Heap) (tb : ∀ p ∈ [He.cT K ("law", none)], TabB base mg p.1 p.2), Cl P w K mg base 51 "_law_two_right" (sp_law_two_right K w) := fun base tb => cl_law_two_right B C F (c_on base tb) D_law_two_right (He.glo_ok X G (c.t.d.fact 16 (f := .glo "_law_two_right") rfl)) (D_law_two_right.bindsN fun _ _ _ _ _ _ us hl => match us, hl with | [_, _, _], _ => rfl)
  obtain ⟨fd_law_three_right, D_law_three_right⟩ := c.t.d.def_ 17 (d := d_law_three_right) rfl
  have c_law_three_right : ∀ (base : Heap) (tb : ∀ p ∈ [He.cT K ("law", none)], TabB base mg p.1 p.2), Cl P w K mg base 51 "_law_three_right" (sp_law_three_right K w) := fun base tb => cl_law_three_right B C F (c_on base tb) D_law_three_right (He.glo_ok X G (c.t.d.fact 17 (f := .glo "_law_three_right") rfl)) (D_law_three_right.bindsN fun _ _ _ _ _ _ us hl => match us, hl with | [_, _, _, _], _ => rfl)
  obtain ⟨fd_law, D_law⟩ := c.t.d.def_ 18 (d := d_law) rfl
  have e := hfa.symm.trans (He.glo_ok X G (c.t.d.fact 18 (f := .glo "law") rfl))
  cases e
  have b := FunD.bindsA (ps := ["_law_script"]) D_law fun _ _ _ _ _ _ us hl => match us, hl with | [_], _ => rfl
  exact ⟨fd_law, fun s v => b s [v] rfl, fun base _ _ tb => fnok_law B C F (c_law_spring base tb) (c_law_worth base tb) (c_law_draw base tb) (c_law_two_right base tb) (c_law_three_right base tb) (c_law_put base tb) (n_law__law_now base tb) (tb _ (by simp)) D_law⟩
end Rl
open PySem PySem.W PySem.Calls PyProof.Rows
theorem PySem.Challenge.cw_rowlift_k31_whole_worths_go_together_holds : PySem.Challenge.rw_rowlift_k31_whole_worths_go_together.Holds := by
  w_on; o_law
  refine HandSHeadRun.head_any (r := OpenLaw.row PySem.Challenge.rw_rowlift_k31_whole_worths_go_together) (q := view (OpenLaw.row PySem.Challenge.rw_rowlift_k31_whole_worths_go_together).prog [24]) (H := Rl.hk) (ob := Rl.ob) (M := 2000) (loose := ("CELLS" :: "ROUND" :: "number_worth" :: "name_worth" :: "cell_worth" :: "not_worth" :: "summed" :: "taken_off" :: "both_bits" :: "either_bits" :: "unlike_bits" :: "is_lesser" :: "are_same" :: "PLAIN" :: "SIGNS" :: "worth_of" :: "_law_spring" :: "_law_draw" :: "_law_worth" :: "_law_put" :: "_law_two_right" :: "_law_three_right" :: [])) (d := HandSHeadRun.topDef (OpenLaw.row PySem.Challenge.rw_rowlift_k31_whole_worths_go_together).prog 24) (kwd := []) Rl.ob_eq
    (by kernel_rfl) (fun s => by kernel_rfl) Rl.run (by kernel_rfl) (by kernel_rfl) (by kernel_rfl) (by rfl) (by first | assumption | decide +kernel) (by decide +kernel) ⟨rfl, rfl, rfl, rfl, rfl, by decide +kernel⟩ ?hw ?hc
  case hw => w_witness2
  case hc =>
    refine LamX.walk_ofTsE (l := PySem.Challenge.rw_rowlift_k31_whole_worths_go_together) (n := 63) (k := 52) (x := "_law_script") (CX := fun _ => L2.CX0) rfl (by decide) (by kernel_rfl) ⟨rfl, by decide, by decide⟩ ?F (fun _ _ _ _ _ z => z)
    intro w mg fa h Y G hmg0
    obtain ⟨K, KX, c⟩ := Y
    have hmg : mg ("law" : PySem.Str) = some (.ref fa) := by
      have e : (HandSHeadRun.topDef (OpenLaw.row PySem.Challenge.rw_rowlift_k31_whole_worths_go_together).prog 24).name = ("law" : PySem.Str) := by kernel_rfl
      rw [← e]
      exact hmg0
    obtain ⟨fd, hb, hF⟩ := Rl.facts (P := (PySem.Challenge.rw_rowlift_k31_whole_worths_go_together).prog) (w := w) KX G hmg c
    have cs : ∀ p ∈ [He.cT K ("law", none)], ∃ d, d ∈ ([("law", none)] : List He.Defn) ∧ p = He.cT K d := by simp
    refine ⟨K, KX, fd, [He.cT K ("law", none)], Rl.sp_law K w, fun p hp => ?_, fun p hp => ?_, fun p hp => ?_, hb, fun H a ns hl _ hT hS => Rl.law_in hl (Rl.nt_start K H hT) hS, hF⟩
    · obtain ⟨d, hd, rfl⟩ := cs p hp
      exact c.empty d hd
    · obtain ⟨d, hd, rfl⟩ := cs p hp
      exact c.out d hd
    · obtain ⟨d, hd, rfl⟩ := cs p hp
      exact PySem.W.codeHd_of_K KX (c.hd d hd)
