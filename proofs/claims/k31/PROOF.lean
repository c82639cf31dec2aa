import PyProof.Rows.All
import PySem.Challenge.RW_allwholes_k31_machines_that_read
import PyProof.Rows.All
import HandS.Zip
import KE.GoesMore
import HandS.ForMost
import HandS.IsInst
import HandS.Flow
import HandS.Exc
import HandS.TryMany
import HandS.TryOnly
import HandS.ExcOwn
import HandS.ExcInit
import HandS.Wide
import HandS.Deep
import HandS.RaiseMore
import HandS.Conv
import HandS.TupAny
import HandS.TupMul
import HandS.Style
import HandS.Dict
import HandS.WideBits
import HandS.Text
import HandS.Rev
import HandS.WordsExc
import HandS.ExcField
import HandS.Small
import HandS.EndBits
set_option Elab.async false
set_option linter.all false
set_option maxRecDepth 100000
set_option maxHeartbeats 4000000
/-! Mi: enumerate of a tuple. -/
namespace Mi
open PySem PySem.Spec PyProof.Rows L2 RZ
theorem meets_enum1 {v : Value} {o : Obj} {H : Heap → Prop} (B : Begins v o H) :
    Meets (Builtin.«enumerate.__new__» ⟨[.type "enumerate", v], []⟩) (fun _ R s => H s.heap ∧
      R (.ok (.ret (.ref (s.heap.push o).objs.size))) { s with heap := (s.heap.push o).push { cls := .type "enumerate", data := .fields #[.none, .bool false, .ref s.heap.objs.size, rawInt 0, .none, .none] } }) :=
  .of_wp fun prog w A R s h => by
    obtain ⟨hp, g, d, tk, os⟩ := s; obtain ⟨h1, h⟩ := h
    have hsub := sub_enumerate
    have q1 : ∀ {A' : Around} {E : Value → Shared → Prop} {Q : Value → Shared → Prop}, Q (.ref hp.objs.size) ⟨hp.push o, g, d, tk, os⟩ → wpAny (model prog w) A' (pyIter v) Q E ⟨hp, g, d, tk, os⟩ :=
      fun q => B.iter prog w _ _ ⟨hp, g, d, tk, os⟩ _ h1 q
    wp_walk using q1
    refine wpAny_stack_any fun st => wpAny_pure ?_
    split
    · rename_i c _ _ _ _ _
      cases (c == Value.type "enumerate")
      · wp_walk using q1
        exact ⟨_, rfl, h⟩
      · wp_walk using q1
        exact ⟨_, rfl, h⟩
    · wp_walk using q1
      exact ⟨_, rfl, h⟩
theorem enum1_begins {prog : Program} {w : World} {A : Around} {E : Value → Shared → Prop} {s : Shared} {v : Value} {o : Obj} {H : Heap → Prop} {Q : Value → Shared → Prop} (B : Begins v o H) (h1 : H s.heap)
    (h : ∀ h', IsEnum h' (s.heap.objs.size + 1) s.heap.objs.size 0 .none → h'.get? s.heap.objs.size = some o →
      (∀ b o, s.heap.get? b = some o → h'.get? b = some o) → Q (.ref (s.heap.objs.size + 1)) { s with heap := h' }) :
    wpAny (model prog w) A (call (.type "enumerate") [v]) Q E s := by
  refine callType_new F.called_enumerate (by decide) (F.typeCall_enumerate_1 _) (F.newCall_enumerate_1 _) (fun obj => F.args_object_init_2 obj _) F.entry_enumerate_new
    (meets_enum1 B) ⟨h1, ?_⟩
  have hz : (s.heap.push o).objs.size = s.heap.objs.size + 1 := Heap.size_push ..
  show _ ∧ _
  rw [hz]
  have he : IsEnum ((s.heap.push o).push { cls := .type "enumerate", data := .fields #[.none, .bool false, .ref s.heap.objs.size, rawInt 0, .none, .none] }) (s.heap.objs.size + 1) s.heap.objs.size 0 .none := by
    have := Heap.get?_push_size (s.heap.push o) (o := { cls := .type "enumerate", data := .fields #[.none, .bool false, .ref s.heap.objs.size, rawInt 0, .none, .none] }) rfl
    rw [hz] at this; exact this
  refine ⟨⟨_, he, rfl⟩, h _ he (Heap.get?_push_of_some _ (Heap.get?_push_size _ B.free)) fun b o x => Heap.get?_push_of_some _ (Heap.get?_push_of_some _ x)⟩
/-- the tuple at a, each item in a new pair -/
def IteT (K : PySem.W.Frag) (a : Addr) : It :=
  ⟨fun i H => ∃ (xs : List V) (x : V), SqT K H a xs ∧ xs[i]? = some x, fun i H v H' => ∃ T x, v = .ref T ∧ H T = none ∧ H' = upd H T (.tup [.int (i : Nat), x]) ∧ ∀ xs, SqT K H a xs → xs[i]? = some x, fun i H => ∃ xs : List V, SqT K H a xs ∧ xs.length ≤ i⟩
theorem turn_enumT {P : Program} {w : World} {K : PySem.W.Frag} {elts : List Expr} {kk : Nat} {tpos : Pos} (a e it : Addr) (hat : a ≠ it) (hae : a ≠ e) :
    Turn P w K (.Tuple elts kk tpos) (IteT K a) [e, it] e (fun i h => (∃ old, IsEnum h e it ((i : Nat) : Int) old) ∧ h.IsTupleIter it a i ∧ e ≠ it) where
  mem := by simp
  obj := fun i h st b hb => by
    obtain ⟨⟨old, he⟩, ⟨o, ho, hc, hd⟩, _⟩ := st
    have e' : b = e ∨ b = it := by simpa using hb
    rcases e' with z | z
    · rw [z]; exact ⟨_, he, fun v q => nomatch q⟩
    · rw [z]; exact ⟨o, ho, fun v q => by rw [hd] at q; cases q⟩
  keep := fun i h h' st k => let ⟨⟨old, he⟩, hi, hne⟩ := st; ⟨⟨old, k e (by simp) _ he⟩, hi.at fun o q => k it (by simp) o q, hne⟩
  item := by
    intro X hP hw hK hc i pins s σ H E I hf st hg
    subst hP hw hK
    obtain ⟨⟨old, he⟩, hit, hne⟩ := st
    obtain ⟨xs, x, hq, hx⟩ := hg
    obtain ⟨its, rv, p, hz⟩ := I.tuple hq
    obtain ⟨u, hu, ru⟩ := rv.get hx
    have hel : e < s.heap.objs.size := Heap.lt_size he
    have hil : it < s.heap.objs.size := by obtain ⟨_, q, _⟩ := hit; exact Heap.lt_size q
    have hlen : i < its.toArray.size := by
      have := (List.getElem?_eq_some_iff.mp hu).1
      simpa using this
    refine wpAny_pyNext_enum_itemD (fp := [it, a]) (Draws.tuple (A := X.A.in1) (I.ok.hd hc) it a hat its.toArray) he ⟨hit, p⟩ hlen hne (by simp [hne, Ne.symm hae]) fun u' h' tk hu' ho hit2 hT hsz hk => ?_
    obtain ⟨hit', hp'⟩ := hit2
    have eu : u' = u := by
      have h1 : its.toArray[i]? = some u' := hu'
      rw [show its.toArray[i]? = some u by simpa using hu] at h1
      exact (Option.some.inj h1).symm
    subst eu
    refine ⟨_, rfl, wpAny_letOwnedTupleGo_enum (s := { s with heap := h', toks := tk + 1 }) ho fun h'' he' sb => ?_⟩
    have hT2 : h''.get? s.heap.objs.size = some { cls := .type "tuple", data := .seq #[.int i tk, u'] } := (sb.2 _ (Nat.ne_of_gt hel)).trans hT
    have new : ObjOk X.prog X.w (upd H s.heap.objs.size (.tup [.int (i : Nat), x])) h'' s.heap.objs.size (.tup [.int (i : Nat), x]) :=
      ⟨by show 2 ≤ sizeLine; decide, [.int i tk, u'], .cons ⟨_, rfl⟩ (.cons ru .nil), ⟨_, hT2, rfl, _, rfl⟩⟩
    have I1 : Inv X pins σ (upd H s.heap.objs.size (.tup [.int (i : Nat), x])) { s with heap := h'', toks := tk + 1 } :=
      I.turnedNew (ch := [e, it]) (fun b ob hb q => (sb.2 b (fun z => hb (by simp [z]))).trans (hk b ob (fun z => hb (by simp [z])) (fun z => hb (by simp [z])) q)) hf (Nat.le_refl _) new
    refine ⟨.ref s.heap.objs.size, _, I1, rfl, ⟨_, x, rfl, I.hok.fresh (Nat.le_refl _), rfl, fun ys hy => by rw [I.tuple_inj hy hq]; exact hx⟩, ⟨⟨u', ?_⟩, hit'.at fun o q => (sb.2 it (Ne.symm hne)).trans q, hne⟩, fun b hb => ?_⟩
    · have e1 : ((i + 1 : Nat) : Int) = (i : Int) + 1 := by omega
      rw [e1]; exact he'
    · have hb' : b < s.heap.objs.size := by
        have e' : b = e ∨ b = it := by simpa using hb
        rcases e' with z | z
        · rw [z]; exact hel
        · rw [z]; exact hil
      rw [upd_ne (Nat.ne_of_lt hb')]
      exact (hf b hb).1
  done := by
    intro X hP hw hK hc i pins s σ H E I hf st hg
    subst hP hw hK
    obtain ⟨⟨old, he⟩, hit, hne⟩ := st
    obtain ⟨xs, hq, hx⟩ := hg
    obtain ⟨its, rv, p, hz⟩ := I.tuple hq
    have hl := rv.length
    have hT : s.TypeIs (.ref e) "enumerate" := ⟨_, he, rfl⟩
    unfold pyNext
    refine wpAny_bind (wpAny_attempt (wpAny_callSpecial?_slot (name := Str.ofString "__next__") hT F.slot_enumerate_next
      (wpAny_call_entry F.slot_enumerate_next hT F.entry_enumerate_next ?_ (F.args_enumerate_next_1 _))))
    show wpAny _ _ (field (.ref e) 2 >>= _) _ _ _
    refine wpAny_bind (wpAny_field he rfl (x := .ref it) rfl ?_)
    refine wpAny_bind (wpAny_nextOf_tuple_end (I.ok.hd hc) hit p (by simp; omega) fun h' x he' hx' => ?_)
    obtain ⟨o, ho, hcl⟩ := hx'
    refine wpAny_bind (wpAny_isInstance (T := "StopIteration") (b := true) ⟨o, ho, hcl⟩ isSubtype_stop ?_)
    obtain ⟨f0, f1, f2, f3, f4, f5⟩ := hf it (by simp)
    exact wpAny_pure ⟨rfl, I.turned (t' := s.toks) (fun b o hb q => he' b o hb q) f0 f1 f3 f4 f5⟩
  self := fun A i s Q E st h => let ⟨⟨_, he⟩, _⟩ := st; wpAny_pyIter_enum he h
def iEnumA (K : PySem.W.Frag) (ta : TA) : TI := fun σ H R => ta σ H fun vs H1 => ∃ a xs, vs = [.ref a] ∧ ((SqL K H1 a xs ∧ R (Ite K a) H1) ∨ (SqT K H1 a xs ∧ R (IteT K a) H1))
theorem pi_enumA {X : Cx} {e : Expr} {ta : TA} {p pos tpos : Pos} {elts : List Expr} {kk : Nat} (hg : Gl X "enumerate") (hm : X.mg "enumerate" = none) (ha : PA X [e] ta) (hs : starEach [e] X.env = [(false, eval e X.env)] := by rfl) :
    PI X (.Tuple elts kk tpos) (.Call (.Name "enumerate" p) [e] [] pos) (iEnumA X.K ta) := by
  refine ⟨fun pins s σ H R I h => ?_⟩
  refine Call_ (ld_blt I hg hm boot_enumerate (PyProof.Rows.callWith_type1 (thn (ha.run pos pins s σ H _ I h) fun us s1 ⟨vs, H1, I1, r1, q1⟩ => ?_) hs rfl))
  obtain ⟨a, xs, ex, hq⟩ := q1
  subst ex
  cases r1 with
  | cons r rr =>
    cases rr
    cases r
    have fr : ∀ b, b ∈ [s1.heap.objs.size + 1, s1.heap.objs.size] → FpOk X pins H1 b := fun b hb => by
      have e' : b = s1.heap.objs.size + 1 ∨ b = s1.heap.objs.size := by simpa using hb
      have hle : s1.heap.objs.size ≤ b := by
        rcases e' with z | z
        · rw [z]; exact Nat.le_add_right _ _
        · rw [z]; exact Nat.le_refl _
      exact I1.fpOk hle (I1.hok.fresh hle)
    rcases hq with ⟨hq, q⟩ | ⟨hq, q⟩
    · obtain ⟨its, rv, p', hz⟩ := I1.list hq
      refine call_enumerate_list p'.isList fun h' he hit hsz hk => wpAny_pyIter_enum he ?_
      have I2 : Inv X pins σ H1 { s1 with heap := h' } := I1.kept (t' := s1.toks) hk
      exact ⟨s1.heap.objs.size + 1, [s1.heap.objs.size + 1, s1.heap.objs.size], _, _, H1, rfl, I2, turn_enum a (s1.heap.objs.size + 1) s1.heap.objs.size, ⟨⟨.none, he⟩, hit, Nat.succ_ne_self _⟩, fr, q⟩
    · obtain ⟨its, rv, p', hz⟩ := I1.tuple hq
      have hlt : a < s1.heap.objs.size := by obtain ⟨o, ho, _⟩ := id p'; exact Heap.lt_size ho
      refine enum1_begins (begins_tuple a its.toArray) p' fun h' he hit hk => wpAny_pyIter_enum he ?_
      have I2 : Inv X pins σ H1 { s1 with heap := h' } := I1.kept (t' := s1.toks) hk
      exact ⟨s1.heap.objs.size + 1, [s1.heap.objs.size + 1, s1.heap.objs.size], _, _, H1, rfl, I2, turn_enumT a (s1.heap.objs.size + 1) s1.heap.objs.size (Nat.ne_of_lt hlt) (Nat.ne_of_lt (Nat.lt_succ_of_lt hlt)), ⟨⟨.none, he⟩, ⟨_, hit, rfl, rfl⟩, Nat.succ_ne_self _⟩, fr, q⟩
end Mi

set_option Elab.async false
set_option linter.all false
set_option maxRecDepth 100000
set_option maxHeartbeats 4000000
/-! Mi: a small language with values in place of a heap, and its evaluator. -/
namespace Mi
open PySem

/-! ### values -/
inductive D where
  | non | bl (b : Bool) | int (i : Int) | str (x : Str) | tup (ds : List D) | lst (ds : List D) | ref (i : Nat) | fz (ds : List D)
  /-- a dict: are its keys tuples, the keys, the values -/
  | dct (t : Bool) (ks vs : List D)
  deriving Inhabited

/-- what stands at a reference: a list that is changed, an instance of a class -/
inductive AO where
  | lst (ds : List D)
  | ins (c : Str) (fs : List (Str × D))
  deriving Inhabited
abbrev AH := List AO

inductive ER (α : Type) where
  | ok (a : α) (h : AH)
  | exc (c : Str) (fs : List (Str × D)) (h : AH)
/-- none: the evaluator has no answer -/
abbrev M (α : Type) := AH → Option (ER α)
@[reducible] def M.ret {α : Type} (a : α) : M α := fun h => some (.ok a h)
def M.bd {α β : Type} (r : Option (ER α)) (f : α → M β) : Option (ER β) := match r with
  | some (.ok a h) => f a h
  | some (.exc c fs h) => some (.exc c fs h)
  | none => none
def M.bind {α β : Type} (x : M α) (f : α → M β) : M β := fun h => M.bd (x h) f
def M.no {α : Type} : M α := fun _ => none
def M.lift {α : Type} (o : Option α) : M α := match o with
  | some a => M.ret a
  | none => M.no
@[simp] theorem M.bd_ok {α β : Type} (a : α) (h : AH) (f : α → M β) : M.bd (some (.ok a h)) f = f a h := rfl
@[simp] theorem M.bd_exc {α β : Type} (c fs) (h : AH) (f : α → M β) : M.bd (some (.exc c fs h)) f = some (.exc c fs h) := rfl
@[simp] theorem M.bd_none {α β : Type} (f : α → M β) : M.bd none f = none := rfl
@[simp] theorem M.bind_def {α β : Type} (x : M α) (f : α → M β) (h : AH) : M.bind x f h = M.bd (x h) f := rfl
@[simp] theorem M.ret_def {α : Type} (a : α) (h : AH) : (M.ret a : M α) h = some (.ok a h) := rfl
@[simp] theorem M.lift_some {α : Type} (a : α) (h : AH) : M.lift (some a) h = some (.ok a h) := rfl
@[simp] theorem M.lift_none {α : Type} (h : AH) : (M.lift none : M α) h = none := rfl

mutual
def D.eqv : D → D → Bool
  | .non, .non => true
  | .bl a, .bl b => a == b
  | .bl a, .int j => (if a = true then 1 else 0) == j
  | .int i, .bl b => i == (if b = true then 1 else 0)
  | .int i, .int j => i == j
  | .str x, .str y => x == y
  | .tup xs, .tup ys => D.eqvs xs ys
  | .lst xs, .lst ys => D.eqvs xs ys
  | _, _ => false
def D.eqvs : List D → List D → Bool
  | [], [] => true
  | x :: xs, y :: ys => D.eqv x y && D.eqvs xs ys
  | _, _ => false
end
mutual
/-- data that == may look at: no reference, depth at most n, its texts of code points -/
def D.shp : Nat → D → Bool
  | _, .non => true
  | _, .bl _ => true
  | _, .int _ => true
  | _, .str x => PyData.strOk x
  | 0, .tup _ => false
  | 0, .lst _ => false
  | n + 1, .tup ds => D.shps n ds
  | n + 1, .lst ds => D.shps n ds
  | _, .ref _ => false
  | _, .fz _ => false
  | _, .dct _ _ _ => false
def D.shps : Nat → List D → Bool
  | _, [] => true
  | n, d :: ds => D.shp n d && D.shps n ds
end
/-- a scalar pair: == needs no depth -/
def D.scal : D → D → Bool
  | .non, .non => true | .non, .bl _ => true | .non, .int _ => true | .non, .str _ => true
  | .bl _, .non => true | .int _, .non => true | .str _, .non => true
  | .bl _, .bl _ => true | .int _, .int _ => true | .str _, .str _ => true
  | .int _, .str _ => true | .str _, .int _ => true | .bl _, .str _ => true | .str _, .bl _ => true
  | _, _ => false
def D.eq? (a b : D) : Option Bool := if D.scal a b || (D.shp 64 a && D.shp 64 b) then some (D.eqv a b) else none

/-- what may be a key: a number, a text; a tuple of these -/
def D.key? : D → Option L2.Key
  | .int i => some (.inl i)
  | .str x => some (.inr x)
  | _ => none
def D.keys? : List D → Option (List L2.Key)
  | [] => some []
  | d :: ds => match D.key? d, D.keys? ds with
    | some k, some ks => some (k :: ks)
    | _, _ => none
def keyOk (t : Bool) (k : D) : Bool := !t && (D.key? k).isSome
def lookD (k : D) : List D → List D → Option D
  | x :: xs, y :: ys => if D.eqv x k = true then some y else lookD k xs ys
  | _, _ => none
def replD (k v : D) : List D → List D → List D
  | x :: xs, y :: ys => (if D.eqv x k = true then v else y) :: replD k v xs ys
  | _, _ => []
/-- a value is put under a key: in its place, or at the end -/
def putD (k v : D) (ks vs : List D) : List D × List D := if (ks.any fun x => D.eqv x k) = true then (ks, replD k v ks vs) else (ks ++ [k], vs ++ [v])
/-- pairs, one after the other, into a dict -/
def pairsD (t : Bool) : List D → List D → List D → Option (List D × List D)
  | [], ks, vs => some (ks, vs)
  | .tup [k, v] :: r, ks, vs => if keyOk t k = true then pairsD t r (putD k v ks vs).1 (putD k v ks vs).2 else none
  | _ :: _, _, _ => none
def D.flat : D → Bool
  | .non => true | .bl _ => true | .int _ => true | .str _ => true
  | _ => false

/-! ### operators -/
inductive BOp where
  | add | sub | mul | fdiv | mod | pow | band | bor | bxor | shl | shr
  deriving DecidableEq, Inhabited
def mulOk (i j : Int) : Bool := decide (i.natAbs < 2 ^ 64) || decide (j.natAbs < 2 ^ 64) || decide (i.natAbs.log2 + j.natAbs.log2 < 1000000)
def divOk (j : Int) : Bool := decide (j ≠ 0) && decide (j.natAbs.log2 < 9000)
def shOk (i j : Int) : Bool := decide (0 ≤ j) && decide (j ≤ 1000000) && decide (i.natAbs < 2 ^ 64)
def powOk (i j : Int) : Bool := decide (0 ≤ j) && decide ((Builtin.Int.intBits i : Int) * j ≤ 134217728)
def repD (k : Int) (ds : List D) : List D := (List.replicate k.toNat ds).flatten
def D.bop : BOp → D → D → Option D
  | .add, .int i, .int j => some (.int (i + j))
  | .add, .str x, .str y => if x.length + y.length ≤ sizeLine then some (.str (x ++ y)) else none
  | .add, .lst xs, .lst ys => if xs.length + ys.length ≤ sizeLine then some (.lst (xs ++ ys)) else none
  | .add, .tup xs, .tup ys => if xs.length + ys.length ≤ sizeLine then some (.tup (xs ++ ys)) else none
  | .sub, .int i, .int j => some (.int (i - j))
  | .mul, .int i, .int j => if mulOk i j then some (.int (i * j)) else none
  | .mul, .lst xs, .int k => if decide (-(2 ^ 63) ≤ k) && decide (k < 2 ^ 63) && decide (xs.length * k.toNat ≤ sizeLine) then some (.lst (repD k xs)) else none
  | .mul, .tup xs, .int k => if decide (-1000 ≤ k) && decide (k ≤ 1000000) && decide (xs.length * k.toNat ≤ 1000000) then some (.tup (repD k xs)) else none
  | .fdiv, .int i, .int j => if divOk j then some (.int (i.fdiv j)) else none
  | .mod, .int i, .int j => if decide (j ≠ 0) then some (.int (i.fmod j)) else none
  | .pow, .int i, .int j => if powOk i j then some (.int (i ^ j.toNat)) else none
  | .band, .int i, .int j => some (.int (Builtin.bitAnd i j))
  | .bor, .int i, .int j => some (.int (Builtin.bitOr i j))
  | .bxor, .int i, .int j => some (.int (Builtin.bitXor i j))
  | .shl, .int i, .int j => if shOk i j then some (.int (i * 2 ^ j.toNat)) else none
  | .shr, .int i, .int j => if decide (0 ≤ j) then some (.int (i / 2 ^ j.toNat)) else none
  | _, _, _ => none

inductive COp where
  | eq | ne | lt | le | gt | ge | is | isnt | isin | notin
  deriving DecidableEq, Inhabited
def strIn (x y : Str) : Bool := !(Builtin.Str.occurrences y x 0 y.length 1).isEmpty
def D.ints? : List D → Option (List Int)
  | [] => some []
  | .int i :: r => (D.ints? r).map (i :: ·)
  | _ :: _ => none
def D.isIn (x : D) (ys : List D) : Option Bool := if D.flat x && ys.all D.flat then some (ys.any fun y => D.eqv y x) else none
def D.isInL (x : D) (ys : List D) : Option Bool := if (D.flat x && ys.all D.flat) || (D.shp 64 x && D.shps 63 ys) then some (ys.any fun y => D.eqv y x) else none
def D.isNon : D → Bool
  | .non => true
  | _ => false
def D.cop : COp → D → D → Option Bool
  | .eq, a, b => D.eq? a b
  | .ne, a, b => (D.eq? a b).map (!·)
  | .lt, .int i, .int j => some (decide (i < j))
  | .le, .int i, .int j => some (decide (i ≤ j))
  | .gt, .int i, .int j => some (decide (j < i))
  | .ge, .int i, .int j => some (decide (j ≤ i))
  | .lt, .tup xs, .tup ys => match D.ints? xs, D.ints? ys with
    | some ns, some ms => some (HT.lexLt ns ms)
    | _, _ => none
  | .is, a, .non => some a.isNon
  | .isnt, a, .non => some (!a.isNon)
  | .is, .bl c, .bl b => some (c == b)
  | .isnt, .bl c, .bl b => some (!(c == b))
  | .isin, .str x, .str y => some (strIn x y)
  | .notin, .str x, .str y => some (!strIn x y)
  | .isin, x, .tup ys => D.isIn x ys
  | .notin, x, .tup ys => (D.isIn x ys).map (!·)
  | .isin, x, .dct t ks vs => if keyOk t x = true then some (lookD x ks vs).isSome else none
  | .notin, x, .dct t ks vs => if keyOk t x = true then some (!(lookD x ks vs).isSome) else none
  | .isin, x, .lst ys => D.isInL x ys
  | .notin, x, .lst ys => (D.isInL x ys).map (!·)
  | _, _, _ => none

def truthy : D → M Bool
  | .non => M.ret false
  | .bl b => M.ret b
  | .int i => M.ret (i != 0)
  | .str x => if x.length ≤ sizeLine then M.ret ((x.length : Int) != 0) else M.no
  | .tup ds => M.ret (!ds.isEmpty)
  | .lst ds => M.ret (!ds.isEmpty)
  | .fz ds => M.ret (!ds.isEmpty)
  | .dct _ _ _ => M.no
  | .ref i => fun h => match h[i]? with
    | some (.lst ds) => some (.ok (!ds.isEmpty) h)
    | _ => none

/-! ### syntax -/
inductive Ty where
  | int | bool | str | tuple | list
  deriving DecidableEq, Inhabited
def Ty.has : Ty → D → AH → Option Bool
  | .int, .int _, _ => some true
  | .int, .bl _, _ => some true
  | .bool, .bl _, _ => some true
  | .str, .str _, _ => some true
  | .tuple, .tup _, _ => some true
  | .list, .lst _, _ => some true
  | .list, .fz _, _ => some true
  | t, .ref i, h => match h[i]? with
    | some (.lst _) => some (decide (t = .list))
    | _ => none
  | _, .dct t _ _, _ => if t = true then none else some false
  | _, _, _ => some false

inductive Bi where
  | len | abs | max2 | min2 | max | min | sum | any | all | int | bool | str | tuple | list | sorted | repr | dictK | dictT
  deriving DecidableEq, Inhabited
inductive Tg where
  | name (i : Nat)
  | tup (is : List Nat)
  deriving DecidableEq, Inhabited

mutual
inductive ME where
  | var (i : Nat)
  | lit (d : D)
  | bin (o : BOp) (a b : ME)
  | neg (a : ME)
  | cmp (o : COp) (a b : ME)
  | chn (o p : COp) (a b c : ME)
  | and (a b : ME)
  | or (a b : ME)
  | not (a : ME)
  | ife (c a b : ME)
  | tup (es : MEs)
  | lst (es : MEs)
  | ix (a i : ME)
  | sl (a : ME) (lo hi : MEs)
  | bi (f : Bi) (es : MEs)
  | call (f : Nat) (es : MEs)
  | isi (a : ME) (ts : List Ty)
  | comp (elt : ME) (tg : Tg) (it : MI) (cs : MEs) (own : List Nat)
  | bits (a : ME)
  | thaw (a : ME)
  | dnew (t : Bool)
  | isl (a : ME)
inductive MEs where
  | nil
  | cons (e : ME) (es : MEs)
inductive MI where
  | rng1 (a : ME)
  | rng2 (a b : ME)
  | seq (e : ME)
  | zip (a b : ME)
  | enum (a : ME)
  | rev (a : ME)
  | keys (a : ME)
  | items (a : ME)
end
/-- what an except clause does: return a constant, a field of the exception, a tuple of fields; continue -/
inductive Hd where
  | con (d : D)
  | fld (i : Nat) (f : Str)
  | flds (i : Nat) (fs : List Str)
  | cnt
  deriving Inhabited
mutual
inductive MS where
  | asg (t : Tg) (e : ME)
  | par (i j : Nat) (a b : ME)
  | app (i : Nat) (e : ME)
  | setx (i : Nat) (ix e : ME)
  | aug (i : Nat) (o : BOp) (e : ME)
  | hset (o ix e : ME)
  | happ (o e : ME)
  | hpop (o ix : ME)
  | expr (e : ME)
  | ife (c : ME) (a b : MSs)
  | whl (c : ME) (b : MSs)
  | for (t : Tg) (it : MI) (b : MSs)
  | ret (e : ME)
  | retO (e : ME)
  | retN
  | brk
  | cnt
  | pas
  | raise (c : Str) (es : MEs)
  | tryH (b : MSs) (hs : List (Str × Hd))
inductive MSs where
  | nil
  | cons (s : MS) (ss : MSs)
end
instance : Inhabited ME := ⟨.var 0⟩
instance : Inhabited MEs := ⟨.nil⟩
instance : Inhabited MS := ⟨.pas⟩
instance : Inhabited MSs := ⟨.nil⟩

/-! ### the evaluator -/
abbrev Env := List (Option D)
def Env.get (ρ : Env) (i : Nat) : Option D := match ρ[i]? with
  | some (some d) => some d
  | _ => none
def items? : D → Option (List D)
  | .tup ds => some ds
  | .lst ds => some ds
  | .fz ds => some ds
  | _ => none
def setAll : List Nat → List D → Env → Option Env
  | [], [], ρ => some ρ
  | i :: is, d :: ds, ρ => setAll is ds (ρ.set i (some d))
  | _, _, _ => none
def Tg.set (t : Tg) (d : D) (ρ : Env) : Option Env := match t with
  | .name i => some (ρ.set i (some d))
  | .tup is => match d with
    | .tup ds => setAll is ds ρ
    | _ => none
def wipeE (ρ : Env) : List Nat → Env
  | [] => ρ
  | v :: vs => (wipeE ρ vs).set v none
def zipD : List D → List D → List D
  | x :: xs, y :: ys => .tup [x, y] :: zipD xs ys
  | _, _ => []
def enumD : Nat → List D → List D
  | _, [] => []
  | n, x :: xs => .tup [.int n, x] :: enumD (n + 1) xs
def pairD : List D → List D → List D
  | k :: ks, v :: vs => .tup [k, v] :: pairD ks vs
  | _, _ => []
def keysOf : D → Option (List D)
  | .dct _ ks _ => some ks
  | _ => none
def itemsOf : D → Option (List D)
  | .dct _ ks vs => some (pairD ks vs)
  | _ => none
def lst? : D → Option (List D)
  | .lst ds => some ds
  | .fz ds => some ds
  | _ => none
def zipOf : D → D → Option (List D)
  | .tup xs, .tup ys => some (zipD xs ys)
  | x, y => match lst? x, lst? y with
    | some xs, some ys => some (zipD xs ys)
    | _, _ => none
def rangeD (lo : Int) (n : Nat) : List D := (List.range n).map fun (i : Nat) => .int (lo + (i : Int))
def smallR (i : Int) : Bool := decide (-(2 ^ 62) ≤ i) && decide (i < 2 ^ 62)
def D.ix (a i : D) : Option D := match a, i with
  | .tup ds, .int k => L2.atI ds k
  | .lst ds, .int k => L2.atI ds k
  | .fz ds, .int k => L2.atI ds k
  | .dct t ks vs, k => if keyOk t k = true then lookD k ks vs else none
  | .str x, .int k => if x.length ≤ sizeLine then (L2.atI x.cps.toList k).map fun c => .str ⟨#[c]⟩ else none
  | _, _ => none
def cutD (ds : List D) (lo hi : Option Int) : List D := (ds.drop (HT.sIx ds.length 0 lo)).take (HT.sIx ds.length ds.length hi - HT.sIx ds.length 0 lo)
def part? : List D → Option (Option Int)
  | [] => some none
  | [.int i] => some (some i)
  | _ => none
def cutOf (x : D) (l u : Option Int) : Option D := match x with
  | .tup ds => some (.tup (cutD ds l u))
  | .lst ds => some (.lst (cutD ds l u))
  | .str z => if z.length ≤ sizeLine then some (.str (L2.cutS z l u)) else none
  | _ => none
def bools? : List D → Option (List Bool)
  | [] => some []
  | .bl b :: r => (bools? r).map (b :: ·)
  | _ :: _ => none
def truths? : List D → Option (List Bool)
  | [] => some []
  | .bl b :: r => (truths? r).map (b :: ·)
  | .int i :: r => (truths? r).map ((i != 0) :: ·)
  | .non :: r => (truths? r).map (false :: ·)
  | _ :: _ => none
def maxI : List Int → Option Int
  | [] => none
  | [x] => some x
  | x :: r => (maxI r).map fun m => if x < m then m else x
def minI : List Int → Option Int
  | [] => none
  | [x] => some x
  | x :: r => (minI r).map fun m => if m < x then m else x
def range1 : D → Option (List D)
  | .int n => if smallR n then some (rangeD 0 n.toNat) else none
  | _ => none
def range2 : D → D → Option (List D)
  | .int a, .int b => if smallR a && smallR b then some (rangeD a (b - a).toNat) else none
  | _, _ => none
/-- a sequence that is read: a list that is changed stands in the heap -/
def D.seq? (d : D) (h : AH) : Option (List D) := match d with
  | .tup ds => some ds
  | .lst ds => some ds
  | .fz ds => some ds
  | .ref i => match h[i]? with
    | some (.lst ds) => some ds
    | _ => none
  | _ => none
def biOf (f : Bi) (vs : List D) (h : AH) : Option (ER D) := match f, vs with
  | .len, [.dct false ks _] => some (.ok (.int ks.length) h)
  | .len, [.str x] => if x.length ≤ sizeLine then some (.ok (.int x.length) h) else none
  | .len, [d] => (d.seq? h).map fun ds => .ok (.int ds.length) h
  | .abs, [.int i] => some (.ok (.int (if i < 0 then -i else i)) h)
  | .max2, [.int i, .int j] => some (.ok (.int (if j > i then j else i)) h)
  | .min2, [.int i, .int j] => some (.ok (.int (if j < i then j else i)) h)
  | .max, [.lst ds] => match D.ints? ds with
    | some ns => (maxI ns).map fun m => .ok (.int m) h
    | none => none
  | .min, [.lst ds] => match D.ints? ds with
    | some ns => (minI ns).map fun m => .ok (.int m) h
    | none => none
  | .sum, [.lst ds] => (D.ints? ds).map fun ns => .ok (.int ns.sum) h
  | .any, [.lst ds] => (truths? ds).map fun bs => .ok (.bl (bs.any id)) h
  | .all, [.lst ds] => (truths? ds).map fun bs => .ok (.bl (bs.all id)) h
  | .int, [.int i] => some (.ok (.int i) h)
  | .int, [.bl b] => some (.ok (.int (if b then 1 else 0)) h)
  | .bool, [.int i] => some (.ok (.bl (i != 0)) h)
  | .bool, [.bl b] => some (.ok (.bl b) h)
  | .tuple, [.lst ds] => some (.ok (.tup ds) h)
  | .tuple, [.tup ds] => some (.ok (.tup ds) h)
  | .list, [.lst ds] => some (.ok (.lst ds) h)
  | .list, [.tup ds] => some (.ok (.lst ds) h)
  | .dictK, [.lst ds] => (pairsD false ds [] []).map fun p => .ok (.dct false p.1 p.2) h
  | .repr, [.bl b] => some (.ok (.str (if b then "True" else "False")) h)
  | _, _ => none

/-- no exception comes out -/
def M.nox {α : Type} (x : M α) : M α := fun h => match x h with
  | some (.ok a h') => some (.ok a h')
  | _ => none
def consO : Option D → List D → List D
  | some y, ys => y :: ys
  | none, ys => ys
/-- a comprehension's turns -/
def lcM (step : D → M (Option D)) : List D → M (List D)
  | [] => M.ret []
  | x :: xs => M.bind (step x) fun r => M.bind (lcM step xs) fun ys => M.ret (consO r ys)

/-- a list, no other thing -/
def islM (x : D) : M D := match x with
  | .lst ds => M.ret (.lst ds)
  | _ => M.no
section
variable (C : Nat → List D → M D)
mutual
def ev : ME → Env → M D
  | .var i, ρ => M.lift (Env.get ρ i)
  | .lit d, _ => M.ret d
  | .bin o a b, ρ => M.bind (ev a ρ) fun x => M.bind (ev b ρ) fun y => M.lift (D.bop o x y)
  | .neg a, ρ => M.bind (ev a ρ) fun x => match x with
    | .int i => M.ret (.int (-i))
    | _ => M.no
  | .cmp o a b, ρ => M.bind (ev a ρ) fun x => M.bind (ev b ρ) fun y => M.lift ((D.cop o x y).map D.bl)
  | .chn o p a b c, ρ => M.bind (ev a ρ) fun x => M.bind (ev b ρ) fun y => M.bind (M.lift (D.cop o x y)) fun k =>
      if k = true then M.bind (ev c ρ) fun z => M.lift ((D.cop p y z).map D.bl) else M.ret (.bl false)
  | .and a b, ρ => M.bind (ev a ρ) fun x => M.bind (truthy x) fun k => if k = true then ev b ρ else M.ret x
  | .or a b, ρ => M.bind (ev a ρ) fun x => M.bind (truthy x) fun k => if k = true then M.ret x else ev b ρ
  | .not a, ρ => M.bind (tst a ρ) fun k => M.ret (.bl (!k))
  | .ife c a b, ρ => M.bind (tst c ρ) fun k => if k = true then ev a ρ else ev b ρ
  | .tup es, ρ => M.bind (evs es ρ) fun vs => if vs.length ≤ sizeLine then M.ret (.tup vs) else M.no
  | .lst es, ρ => M.bind (evs es ρ) fun vs => if vs.length ≤ sizeLine then M.ret (.lst vs) else M.no
  | .ix a i, ρ => M.bind (ev a ρ) fun x => M.bind (ev i ρ) fun k => match x with
    | .ref r => fun h => match h[r]? with
      | some (.lst ds) => M.lift (D.ix (.lst ds) k) h
      | _ => none
    | _ => M.lift (D.ix x k)
  | .sl a lo hi, ρ => M.bind (ev a ρ) fun x => M.bind (M.bind (evs lo ρ) fun l => M.lift (part? l)) fun l => M.bind (M.bind (evs hi ρ) fun u => M.lift (part? u)) fun u => M.lift (cutOf x l u)
  | .bi f es, ρ => M.bind (evs es ρ) fun vs => biOf f vs
  | .call f es, ρ => M.bind (evs es ρ) fun vs => C f vs
  | .isi a ts, ρ => M.bind (ev a ρ) fun x => fun h => (ts.foldr (fun t r => (Ty.has t x h).bind fun b => if b then some true else r) (some false)).map fun b => .ok (.bl b) h
  | .comp elt tg it cs own, ρ => M.bind (evi it ρ) fun xs => if xs.length ≤ sizeLine then M.bind (lcM (fun x => M.bind (M.lift (tg.set x (wipeE ρ own))) fun ρ' => M.bind (M.nox (tsts cs ρ')) fun k => if k = true then M.bind (M.nox (ev elt ρ')) fun y => M.ret (some y) else M.ret none) xs) fun ys => M.ret (.lst ys) else M.no
  | .bits a, ρ => M.bind (ev a ρ) fun x => match x with
    | .int i => M.ret (.int (Builtin.Int.intBits i))
    | _ => M.no
  | .thaw a, ρ => M.bind (ev a ρ) fun x => match x with
    | .lst ds => fun h => some (.ok (.ref h.length) (h ++ [.lst ds]))
    | _ => M.no
  | .dnew t, _ => M.ret (.dct t [] [])
  | .isl a, ρ => M.bind (ev a ρ) islM
def tst : ME → Env → M Bool
  | .and a b, ρ => M.bind (tst a ρ) fun k => if k = true then tst b ρ else M.ret false
  | .or a b, ρ => M.bind (tst a ρ) fun k => if k = true then M.ret true else tst b ρ
  | .not a, ρ => M.bind (tst a ρ) fun k => M.ret (!k)
  | .cmp o a b, ρ => M.bind (ev a ρ) fun x => M.bind (ev b ρ) fun y => M.lift (D.cop o x y)
  | .chn o p a b c, ρ => M.bind (ev a ρ) fun x => M.bind (ev b ρ) fun y => M.bind (M.lift (D.cop o x y)) fun k =>
      if k = true then M.bind (ev c ρ) fun z => M.lift (D.cop p y z) else M.ret false
  | .var i, ρ => M.bind (M.lift (Env.get ρ i)) truthy
  | e, ρ => M.bind (ev e ρ) truthy
def evs : MEs → Env → M (List D)
  | .nil, _ => M.ret []
  | .cons e es, ρ => M.bind (ev e ρ) fun x => M.bind (evs es ρ) fun xs => M.ret (x :: xs)
def tsts : MEs → Env → M Bool
  | .nil, _ => M.ret true
  | .cons e es, ρ => M.bind (tst e ρ) fun k => if k = true then tsts es ρ else M.ret false
def evi : MI → Env → M (List D)
  | .rng1 a, ρ => M.bind (ev a ρ) fun x => M.lift (range1 x)
  | .rng2 a b, ρ => M.bind (ev a ρ) fun x => M.bind (ev b ρ) fun y => M.lift (range2 x y)
  | .seq e, ρ => M.bind (ev e ρ) fun x => M.lift (items? x)
  | .zip a b, ρ => M.bind (ev a ρ) fun x => M.bind (ev b ρ) fun y => M.lift (zipOf x y)
  | .enum a, ρ => M.bind (ev a ρ) fun x => M.lift ((items? x).map (enumD 0))
  | .rev a, ρ => M.bind (ev a ρ) fun x => M.lift ((items? x).map List.reverse)
  | .keys a, ρ => M.bind (ev a ρ) fun x => M.lift (keysOf x)
  | .items a, ρ => M.bind (ev a ρ) fun x => M.lift (itemsOf x)
end

/-! ### statements -/
inductive SR where
  | nx (ρ : Env) (h : AH)
  | rt (d : D) (h : AH)
  | bk (ρ : Env) (h : AH)
  | ct (ρ : Env) (h : AH)
  | ex (c : Str) (fs : List (Str × D)) (ρ : Env) (h : AH)
  deriving Inhabited
/-- an expression's answer, then a statement's -/
def SR.bd {α : Type} (ρ : Env) (r : Option (ER α)) (f : α → AH → Option SR) : Option SR := match r with
  | some (.ok a h) => f a h
  | some (.exc c fs h) => some (.ex c fs ρ h)
  | none => none
@[simp] theorem SR.bd_ok {α : Type} (ρ : Env) (a : α) (h : AH) (f : α → AH → Option SR) : SR.bd ρ (some (.ok a h)) f = f a h := rfl
@[simp] theorem SR.bd_exc {α : Type} (ρ : Env) (c fs) (h : AH) (f : α → AH → Option SR) : SR.bd ρ (some (.exc c fs h)) f = some (.ex c fs ρ h) := rfl
@[simp] theorem SR.bd_none {α : Type} (ρ : Env) (f : α → AH → Option SR) : SR.bd ρ none f = none := rfl
/-- one statement, then the rest -/
def SR.sq (r : Option SR) (f : Env → AH → Option SR) : Option SR := match r with
  | some (.nx ρ h) => f ρ h
  | r => r
@[simp] theorem SR.sq_nx (ρ : Env) (h : AH) (f : Env → AH → Option SR) : SR.sq (some (.nx ρ h)) f = f ρ h := rfl
@[simp] theorem SR.sq_rt (d : D) (h : AH) (f : Env → AH → Option SR) : SR.sq (some (.rt d h)) f = some (.rt d h) := rfl
@[simp] theorem SR.sq_bk (ρ : Env) (h : AH) (f : Env → AH → Option SR) : SR.sq (some (.bk ρ h)) f = some (.bk ρ h) := rfl
@[simp] theorem SR.sq_ct (ρ : Env) (h : AH) (f : Env → AH → Option SR) : SR.sq (some (.ct ρ h)) f = some (.ct ρ h) := rfl
@[simp] theorem SR.sq_ex (c fs ρ) (h : AH) (f : Env → AH → Option SR) : SR.sq (some (.ex c fs ρ h)) f = some (.ex c fs ρ h) := rfl
@[simp] theorem SR.sq_none (f : Env → AH → Option SR) : SR.sq none f = none := rfl
/-- a turn's end: on to the next turn, or out -/
def SR.tn (r : Option SR) (f : Env → AH → Option SR) : Option SR := match r with
  | some (.nx ρ h) => f ρ h
  | some (.ct ρ h) => f ρ h
  | some (.bk ρ h) => some (.nx ρ h)
  | r => r
@[simp] theorem SR.tn_nx (ρ : Env) (h : AH) (f : Env → AH → Option SR) : SR.tn (some (.nx ρ h)) f = f ρ h := rfl
@[simp] theorem SR.tn_rt (d : D) (h : AH) (f : Env → AH → Option SR) : SR.tn (some (.rt d h)) f = some (.rt d h) := rfl
@[simp] theorem SR.tn_bk (ρ : Env) (h : AH) (f : Env → AH → Option SR) : SR.tn (some (.bk ρ h)) f = some (.nx ρ h) := rfl
@[simp] theorem SR.tn_ct (ρ : Env) (h : AH) (f : Env → AH → Option SR) : SR.tn (some (.ct ρ h)) f = f ρ h := rfl
@[simp] theorem SR.tn_ex (c fs ρ) (h : AH) (f : Env → AH → Option SR) : SR.tn (some (.ex c fs ρ h)) f = some (.ex c fs ρ h) := rfl
@[simp] theorem SR.tn_none (f : Env → AH → Option SR) : SR.tn none f = none := rfl
/-- a loop over told items -/
def forL (body : D → Env → AH → Option SR) : List D → Env → AH → Option SR
  | [], ρ, h => some (.nx ρ h)
  | x :: xs, ρ, h => SR.tn (body x ρ h) fun ρ' h' => forL body xs ρ' h'
/-- a while -/
def whlL (c : Env → M Bool) (b : Env → AH → Option SR) (ρ : Env) (h : AH) : Option SR :=
  match c ρ h with
  | none => none
  | some (.exc c fs h) => some (.ex c fs ρ h)
  | some (.ok false h) => some (.nx ρ h)
  | some (.ok true h) => match b ρ h with
    | some (.nx ρ' h') => whlL c b ρ' h'
    | some (.ct ρ' h') => whlL c b ρ' h'
    | some (.bk ρ' h') => some (.nx ρ' h')
    | r => r partial_fixpoint
/-- an exception's class and those above it; its attributes by its __init__'s parameters -/
structure XC where
  name : Str
  up : List Str
  fs : List Str
  deriving Inhabited
/-- does a clause for the class c take an exception of the class x -/
def takes (G : List XC) (x c : Str) : Bool := x == c || (match G.find? (fun k => k.name == x) with
  | some k => k.up.contains c
  | none => false)
def madeX (G : List XC) (c : Str) (vs : List D) : Option (List (Str × D)) := match G.find? (fun k => k.name == c) with
  | some k => if k.fs.length = vs.length then some (k.fs.zip vs).reverse else none
  | none => none
def setIx (d : D) (ix v : D) : Option D := match d, ix with
  | .lst ds, .int k => (L2.ixN ds.length k).map fun j => .lst (ds.set j v)
  | _, _ => none
/-- in place: ints, texts -/
def augD (o : BOp) (x y : D) : Option D := match o, x, y with
  | .add, .int i, .int j => some (.int (i + j))
  | .add, .str a, .str b => if a.length + b.length ≤ sizeLine then some (.str (a ++ b)) else none
  | .sub, .int i, .int j => some (.int (i - j))
  | .mul, .int i, .int j => if mulOk i j then some (.int (i * j)) else none
  | .fdiv, .int i, .int j => if divOk j then some (.int (i.fdiv j)) else none
  | .mod, .int i, .int j => if decide (j ≠ 0) then some (.int (i.fmod j)) else none
  | _, _, _ => none
def appD (d v : D) : Option D := match d with
  | .lst ds => if ds.length < sizeLine then some (.lst (ds ++ [v])) else none
  | _ => none

def fldsOf (fs : List (Str × D)) : List Str → Option (List D)
  | [] => some []
  | f :: r => match fs.lookup f, fldsOf fs r with
    | some d, some ds => some (d :: ds)
    | _, _ => none
def hdl (b : Hd) (fs : List (Str × D)) (ρ : Env) (h : AH) : Option SR := match b with
  | .con d => some (.rt d h)
  | .fld i f => if i < ρ.length then (fs.lookup f).map fun d => .rt d h else none
  | .flds i gs => if i < ρ.length then (fldsOf fs gs).map fun ds => .rt (.tup ds) h else none
  | .cnt => some (.ct ρ h)

variable (G : List XC)
mutual
def exs : MSs → Env → AH → Option SR
  | .nil, ρ, h => some (.nx ρ h)
  | .cons s ss, ρ, h => SR.sq (exc s ρ h) fun ρ' h' => exs ss ρ' h'
def exc : MS → Env → AH → Option SR
  | .asg t e, ρ, h => SR.bd ρ (ev C e ρ h) fun d h' => (t.set d ρ).map fun ρ' => .nx ρ' h'
  | .par i j a b, ρ, h => SR.bd ρ (ev C a ρ h) fun x h1 => SR.bd ρ (ev C b ρ h1) fun y h2 => some (.nx ((ρ.set i (some x)).set j (some y)) h2)
  | .app i e, ρ, h => match Env.get ρ i with
    | some (.lst l) => SR.bd ρ (ev C e ρ h) fun d h' => (appD (.lst l) d).map fun l' => .nx (ρ.set i (some l')) h'
    | _ => none
  | .setx i ix e, ρ, h => match Env.get ρ i with
    | some l => SR.bd ρ (ev C e ρ h) fun d h1 => SR.bd ρ (ev C ix ρ h1) fun k h2 => (setIx l k d).map fun l' => .nx (ρ.set i (some l')) h2
    | none => none
  | .aug i o e, ρ, h => match Env.get ρ i with
    | some x => SR.bd ρ (ev C e ρ h) fun y h' => (augD o x y).map fun z => .nx (ρ.set i (some z)) h'
    | none => none
  | .hset o ix e, ρ, h => SR.bd ρ (ev C e ρ h) fun d h1 => SR.bd ρ (ev C o ρ h1) fun x h2 => SR.bd ρ (ev C ix ρ h2) fun k h3 => match x with
    | .ref r => (match h3[r]? with
      | some (.lst ds) => (match setIx (.lst ds) k d with
        | some (.lst ds') => some (.nx ρ (h3.set r (.lst ds')))
        | _ => none)
      | _ => none)
    | _ => none
  | .happ o e, ρ, h => SR.bd ρ (ev C o ρ h) fun x h1 => match x with
    | .ref r => SR.bd ρ (ev C e ρ h1) fun d h2 => (match h2[r]? with
      | some (.lst ds) => if ds.length < sizeLine then some (.nx ρ (h2.set r (.lst (ds ++ [d])))) else none
      | _ => none)
    | _ => none
  | .hpop o ix, ρ, h => SR.bd ρ (ev C o ρ h) fun x h1 => match x with
    | .ref r => SR.bd ρ (ev C ix ρ h1) fun k h2 => (match k, h2[r]? with
      | .int k, some (.lst ds) => (match L2.ixN ds.length k with
        | some j => if decide (-(2 ^ 63) ≤ k) && decide (k < 2 ^ 63) then some (.nx ρ (h2.set r (.lst (ds.eraseIdx j)))) else none
        | none => none)
      | _, _ => none)
    | _ => none
  | .expr e, ρ, h => SR.bd ρ (ev C e ρ h) fun _ h' => some (.nx ρ h')
  | .ife c a b, ρ, h => SR.bd ρ (tst C c ρ h) fun k h' => if k = true then exs a ρ h' else exs b ρ h'
  | .whl c b, ρ, h => whlL (tst C c) (exs b) ρ h
  | .for t it b, ρ, h => SR.bd ρ (evi C it ρ h) fun xs h' => forL (fun x ρ1 h1 => match t.set x ρ1 with
    | some ρ2 => exs b ρ2 h1
    | none => none) xs ρ h'
  | .ret e, ρ, h => SR.bd ρ (ev C e ρ h) fun d h' => some (.rt d h')
  | .retO e, ρ, h => SR.bd ρ (M.nox (ev C e ρ) h) fun d h' => some (.rt d h')
  | .retN, _, h => some (.rt .non h)
  | .brk, ρ, h => some (.bk ρ h)
  | .cnt, ρ, h => some (.ct ρ h)
  | .pas, ρ, h => some (.nx ρ h)
  | .raise c es, ρ, h => SR.bd ρ (evs C es ρ h) fun vs h' => (madeX G c vs).map fun fs => .ex c fs ρ h'
  | .tryH b hs, ρ, h => match exs b ρ h with
    | some (.ex k fs ρ' h') => (match hs.find? fun p => takes G k p.1 with
      | some p => hdl p.2 fs ρ' h'
      | none => some (.ex k fs ρ' h'))
    | r => r
end
end

/-! ### defs -/
structure Fn where
  name : Str
  N : List Str
  np : Nat
  body : MSs
  deriving Inhabited
structure Tb where
  fns : List Fn
  xcs : List XC
  deriving Inhabited
def startE (n : Nat) (vs : List D) : Env := vs.map some ++ List.replicate (n - vs.length) none
/-- a body's end as a call's -/
def SR.end (r : Option SR) : Option (ER D) := match r with
  | some (.rt d h) => some (.ok d h)
  | some (.nx _ h) => some (.ok .non h)
  | some (.ex c fs _ h) => some (.exc c fs h)
  | _ => none
@[simp] theorem SR.end_rt (d h) : SR.end (some (.rt d h)) = some (.ok d h) := rfl
@[simp] theorem SR.end_nx (ρ h) : SR.end (some (.nx ρ h)) = some (.ok .non h) := rfl
@[simp] theorem SR.end_ex (c fs ρ h) : SR.end (some (.ex c fs ρ h)) = some (.exc c fs h) := rfl
def cal (T : Tb) : Nat → Nat → List D → M D
  | 0, _, _ => M.no
  | k + 1, f, vs => match T.fns[f]? with
    | some F => if vs.length = F.np then fun h => SR.end (exs (cal T k) T.xcs F.body (startE F.N.length vs) h) else M.no
    | none => M.no
end Mi

set_option Elab.async false
set_option linter.all false
set_option maxRecDepth 100000
set_option maxHeartbeats 4000000
/-! Mi over the hand layer: how values and lists lie in the heap. -/
namespace Mi
open PySem PySem.Spec PyProof.Rows L2

/-- who may change an object: a slot of the frame (a list of its own), a reference -/
inductive Ow where
  | slot (i : Nat)
  | tmp (a : Addr)
  | obj (i : Nat)
  deriving DecidableEq
def Ow.isObj : Ow → Bool
  | .obj _ => true
  | _ => false
abbrev OM := Ow → Option Addr
def OM.Inj (O : OM) : Prop := ∀ w w' a, O w = some a → O w' = some a → w = w'
def Fz (O : OM) (a : Addr) : Prop := ∀ w, O w ≠ some a

/-- a step of the world: what is not owned stays; who owns goes on to own, but for P; the content of what is owned stays, but for P -/
def DctO (o : HO) : Prop := (∃ kvs, o = .dK kvs) ∨ ∃ kvs, o = .dT kvs
structure StP (P : Ow → Bool) (O : OM) (H : Hp) (O' : OM) (H' : Hp) : Prop where
  /-- a dict that is walked is locked from then on -/
  keep : ∀ a o, H a = some o → Fz O a → H' a = some o ∨ (DctO o ∧ ∃ ob, H' a = some (.frz ob o))
  loc : ∀ w a, P w = false → O w = some a → O' w = some a
  sk : ∀ w a o, P w = false → O w = some a → H a = some o → H' a = some o
  obj : ∀ i a, O (.obj i) = some a → O' (.obj i) = some a
  new : ∀ w a, O' w = some a → O w = some a ∨ H a = none
  live : ∀ a o, H a = some o → ∃ o', H' a = some o'
abbrev Step := StP Ow.isObj
theorem StP.keepN {P : Ow → Bool} {O O' : OM} {H H' : Hp} (s : StP P O H O' H') {a : Addr} {o : HO} (h : H a = some o) (f : Fz O a) (n : ¬ DctO o) : H' a = some o := (s.keep a o h f).elim id fun z => absurd z.1 n
theorem DctO.lst {vs : List V} : ¬ DctO (.lst vs) := fun h => h.elim (fun ⟨_, e⟩ => nomatch e) fun ⟨_, e⟩ => nomatch e
theorem DctO.frz {ob : Obj} {u : HO} : ¬ DctO (.frz ob u) := fun h => h.elim (fun ⟨_, e⟩ => nomatch e) fun ⟨_, e⟩ => nomatch e
theorem DctO.tup {vs : List V} : ¬ DctO (.tup vs) := fun h => h.elim (fun ⟨_, e⟩ => nomatch e) fun ⟨_, e⟩ => nomatch e
theorem DctO.xd {vs : List (Str × V)} : ¬ DctO (.xd vs) := fun h => h.elim (fun ⟨_, e⟩ => nomatch e) fun ⟨_, e⟩ => nomatch e
/-- a key as a value -/
def Kd : L2.Key → D
  | .inl i => .int i
  | .inr x => .str x
def KdT (k : List L2.Key) : D := .tup (k.map Kd)
theorem StP.refl (P : Ow → Bool) (O : OM) (H : Hp) : StP P O H O H := ⟨fun _ _ h _ => .inl h, fun _ _ _ h => h, fun _ _ _ _ _ h => h, fun _ _ h => h, fun _ _ h => .inl h, fun _ o h => ⟨o, h⟩⟩
theorem Step.refl (O : OM) (H : Hp) : Step O H O H := StP.refl _ O H
theorem StP.mono {P P' : Ow → Bool} {O O' : OM} {H H' : Hp} (s : StP P O H O' H') (h : ∀ w, P' w = false → P w = false) : StP P' O H O' H' := ⟨s.keep, fun w a e => s.loc w a (h w e), fun w a o e => s.sk w a o (h w e), s.obj, s.new, s.live⟩
theorem StP.fz {P : Ow → Bool} {O O' : OM} {H H' : Hp} (s : StP P O H O' H') {a : Addr} {o : HO} (h : H a = some o) (f : Fz O a) : Fz O' a := fun w e => by
  rcases s.new w a e with q | q
  · exact f w q
  · rw [h] at q; cases q

section
variable (K : PySem.W.Frag)
def KTup (a : Addr) (xs : List V) : Prop := ∃ (o : Obj) (its : Array Value) (n : Nat), K.lookup a = some o ∧ o.cls = .type "tuple" ∧ o.data = .seq its n ∧ its.size ≤ sizeLine ∧ Vals xs its.toList
def KLst (a : Addr) (xs : List V) : Prop := ∃ (o : Obj) (its : Array Value) (n : Nat), K.lookup a = some o ∧ o.cls = .type "list" ∧ o.dict = none ∧ o.data = .seq its n ∧ its.size ≤ sizeLine ∧ Vals xs its.toList
variable (H : Hp) (O : OM)
def TupAt (a : Addr) (vs : List V) : Prop := (Rd H a (.tup vs) ∧ Fz O a) ∨ KTup K a vs
def LstAt (a : Addr) (vs : List V) : Prop := H a = some (.lst vs) ∧ Fz O a
def FzlAt (a : Addr) (vs : List V) : Prop := (∃ o, H a = some (.frz o (.lst vs)) ∧ Fz O a) ∨ KLst K a vs
mutual
inductive Rp : V → D → Prop
  | non : Rp .non .non
  | bl (b : Bool) : Rp (.bl b) (.bl b)
  | int (i : Int) : Rp (.int i) (.int i)
  | str (x : Str) : Rp (.str x) (.str x)
  | tup {a : Addr} {vs : List V} {ds : List D} : TupAt K H O a vs → Rps vs ds → Rp (.ref a) (.tup ds)
  | lst {a : Addr} {vs : List V} {ds : List D} : LstAt H O a vs → Rps vs ds → Rp (.ref a) (.lst ds)
  | fz {a : Addr} {vs : List V} {ds : List D} : FzlAt K H O a vs → Rps vs ds → Rp (.ref a) (.fz ds)
  | ref {a : Addr} {i : Nat} : O (.obj i) = some a → Rp (.ref a) (.ref i)
  | dK {a : Addr} {kvs : List (L2.Key × V)} {ks vs : List D} : Rd H a (.dK kvs) → Fz O a → ks = kvs.map (fun p => Kd p.1) → Rps (kvs.map Prod.snd) vs → Rp (.ref a) (.dct false ks vs)
  | dT {a : Addr} {kvs : List (List L2.Key × V)} {ks vs : List D} : Rd H a (.dT kvs) → Fz O a → ks = kvs.map (fun p => KdT p.1) → Rps (kvs.map Prod.snd) vs → Rp (.ref a) (.dct true ks vs)
inductive Rps : List V → List D → Prop
  | nil : Rps [] []
  | cons {v : V} {vs : List V} {d : D} {ds : List D} : Rp v d → Rps vs ds → Rps (v :: vs) (d :: ds)
end
end
section
variable {K : PySem.W.Frag} {H H' : Hp} {O O' : OM} {P : Ow → Bool}
theorem TupAt.sq {a : Addr} {vs : List V} (t : TupAt K H O a vs) : SqT K H a vs := t.elim (fun h => .inl h.1) fun h => .inr h
theorem LstAt.sq {a : Addr} {vs : List V} (t : LstAt H O a vs) : SqL K H a vs := .inl (.inl t.1)
theorem FzlAt.sq {a : Addr} {vs : List V} (t : FzlAt K H O a vs) : SqL K H a vs := t.elim (fun ⟨o, h, _⟩ => .inl (.inr ⟨o, h⟩)) fun h => .inr h
theorem Rd.step {a : Addr} {u : HO} (s : StP P O H O' H') (h : Rd H a u) (f : Fz O a) : Rd H' a u ∧ Fz O' a := by
  rcases h with h | ⟨o, h⟩
  · exact ⟨(s.keep _ _ h f).elim .inl fun z => .inr z.2, s.fz h f⟩
  · exact ⟨.inr ⟨o, s.keepN h f DctO.frz⟩, s.fz h f⟩
theorem TupAt.step {a : Addr} {vs : List V} (s : StP P O H O' H') (t : TupAt K H O a vs) : TupAt K H' O' a vs := t.elim (fun h => .inl (Rd.step s h.1 h.2)) .inr
theorem LstAt.step {a : Addr} {vs : List V} (s : StP P O H O' H') (t : LstAt H O a vs) : LstAt H' O' a vs := ⟨s.keepN t.1 t.2 DctO.lst, s.fz t.1 t.2⟩
theorem FzlAt.step {a : Addr} {vs : List V} (s : StP P O H O' H') (t : FzlAt K H O a vs) : FzlAt K H' O' a vs := t.elim (fun ⟨o, h, f⟩ => .inl ⟨o, s.keepN h f DctO.frz, s.fz h f⟩) .inr
mutual
theorem Rp.step (s : StP P O H O' H') : ∀ {v : V} {d : D}, Rp K H O v d → Rp K H' O' v d
  | _, _, .non => .non
  | _, _, .bl b => .bl b
  | _, _, .int i => .int i
  | _, _, .str x => .str x
  | _, _, .tup t r => .tup (t.step s) (Rps.step s r)
  | _, _, .lst t r => .lst (t.step s) (Rps.step s r)
  | _, _, .fz t r => .fz (t.step s) (Rps.step s r)
  | _, _, .ref e => .ref (s.obj _ _ e)
  | _, _, .dK h f e r => .dK (Rd.step s h f).1 (Rd.step s h f).2 e (Rps.step s r)
  | _, _, .dT h f e r => .dT (Rd.step s h f).1 (Rd.step s h f).2 e (Rps.step s r)
theorem Rps.step (s : StP P O H O' H') : ∀ {vs : List V} {ds : List D}, Rps K H O vs ds → Rps K H' O' vs ds
  | _, _, .nil => .nil
  | _, _, .cons r t => .cons (Rp.step s r) (Rps.step s t)
end
theorem Rps.length : ∀ {vs : List V} {ds : List D}, Rps K H O vs ds → vs.length = ds.length
  | _, _, .nil => rfl
  | _, _, .cons _ t => by rw [List.length_cons, List.length_cons, t.length]
theorem Rps.get : ∀ {vs : List V} {ds : List D} {i : Nat} {d : D}, Rps K H O vs ds → ds[i]? = some d → ∃ v, vs[i]? = some v ∧ Rp K H O v d
  | _, _, _, _, .nil, e => by simp at e
  | _, _, 0, _, .cons r _, e => by simp at e; subst e; exact ⟨_, rfl, r⟩
  | _, _, i + 1, d, .cons _ t, e => by
    obtain ⟨v, h1, h2⟩ := Rps.get (i := i) (d := d) t (by simpa using e)
    exact ⟨v, by simpa using h1, h2⟩
theorem Rps.get2 : ∀ {vs : List V} {ds : List D} {i : Nat} {v : V}, Rps K H O vs ds → vs[i]? = some v → ∃ d, ds[i]? = some d ∧ Rp K H O v d
  | _, _, _, _, .nil, e => by simp at e
  | _, _, 0, _, .cons r _, e => by simp at e; subst e; exact ⟨_, rfl, r⟩
  | _, _, i + 1, v, .cons _ t, e => by
    obtain ⟨d, h1, h2⟩ := Rps.get2 (i := i) (v := v) t (by simpa using e)
    exact ⟨d, by simpa using h1, h2⟩
theorem Rps.append : ∀ {vs ws : List V} {ds es : List D}, Rps K H O vs ds → Rps K H O ws es → Rps K H O (vs ++ ws) (ds ++ es)
  | _, _, _, _, .nil, s => s
  | _, _, _, _, .cons r t, s => .cons r (Rps.append t s)
theorem Rps.take : ∀ (n : Nat) {vs : List V} {ds : List D}, Rps K H O vs ds → Rps K H O (vs.take n) (ds.take n)
  | 0, _, _, _ => by simp; exact .nil
  | _ + 1, _, _, .nil => by simp; exact .nil
  | n + 1, _, _, .cons r t => by simp only [List.take_succ_cons]; exact .cons r (Rps.take n t)
theorem Rps.drop : ∀ (n : Nat) {vs : List V} {ds : List D}, Rps K H O vs ds → Rps K H O (vs.drop n) (ds.drop n)
  | 0, _, _, h => by simpa using h
  | _ + 1, _, _, .nil => by simp; exact .nil
  | n + 1, _, _, .cons r t => by simp only [List.drop_succ_cons]; exact Rps.drop n t
theorem Rps.set {v : V} {d : D} (r : Rp K H O v d) : ∀ (j : Nat) {vs : List V} {ds : List D}, Rps K H O vs ds → Rps K H O (vs.set j v) (ds.set j d)
  | _, _, _, .nil => by simp; exact .nil
  | 0, _, _, .cons _ t => by simp only [List.set_cons_zero]; exact .cons r t
  | j + 1, _, _, .cons q t => by simp only [List.set_cons_succ]; exact .cons q (Rps.set r j t)
theorem Rps.eraseIdx : ∀ (j : Nat) {vs : List V} {ds : List D}, Rps K H O vs ds → Rps K H O (vs.eraseIdx j) (ds.eraseIdx j)
  | _, _, _, .nil => by simp; exact .nil
  | 0, _, _, .cons _ t => by simpa using t
  | j + 1, _, _, .cons q t => by simp only [List.eraseIdx_cons_succ]; exact .cons q (Rps.eraseIdx j t)
theorem Rps.reverse : ∀ {vs : List V} {ds : List D}, Rps K H O vs ds → Rps K H O vs.reverse ds.reverse
  | _, _, .nil => .nil
  | _, _, .cons r t => by
    rw [List.reverse_cons, List.reverse_cons]
    exact Rps.append (Rps.reverse t) (.cons r .nil)
theorem Rps.flat {vs : List V} {ds : List D} (h : Rps K H O vs ds) : ∀ n : Nat, Rps K H O (List.replicate n vs).flatten (List.replicate n ds).flatten
  | 0 => .nil
  | n + 1 => by
    rw [List.replicate_succ, List.replicate_succ, List.flatten_cons, List.flatten_cons]
    exact Rps.append h (Rps.flat h n)
theorem Rps.isEmpty {vs : List V} {ds : List D} (h : Rps K H O vs ds) : vs.isEmpty = ds.isEmpty := by
  cases h <;> rfl

/-- how a heap object lies -/
def RpO (K : PySem.W.Frag) (H : Hp) (O : OM) (a : Addr) : AO → Prop
  | .lst ds => ∃ vs, H a = some (.lst vs) ∧ Rps K H O vs ds
  | .ins _ _ => False
structure RepH (K : PySem.W.Frag) (H : Hp) (O : OM) (h : AH) : Prop where
  inj : O.Inj
  hp : ∀ i o, h[i]? = some o → ∃ a, O (.obj i) = some a ∧ RpO K H O a o
  lim : ∀ i a, O (.obj i) = some a → i < h.length
  dom : ∀ w a, O w = some a → ∃ o, H a = some o
  tmp : ∀ b a, O (.tmp b) = some a → a = b
/-- what a slot's own object is worth -/
inductive OwnAt (K : PySem.W.Frag) (H : Hp) (O : OM) : Addr → D → Prop
  | lst {a : Addr} {vs : List V} {ds : List D} : H a = some (.lst vs) → Rps K H O vs ds → OwnAt K H O a (.lst ds)
  | dK {a : Addr} {kvs : List (L2.Key × V)} {ks vs : List D} : H a = some (.dK kvs) → ks = kvs.map (fun p => Kd p.1) → Rps K H O (kvs.map Prod.snd) vs → OwnAt K H O a (.dct false ks vs)
  | dT {a : Addr} {kvs : List (List L2.Key × V)} {ks vs : List D} : H a = some (.dT kvs) → ks = kvs.map (fun p => KdT p.1) → Rps K H O (kvs.map Prod.snd) vs → OwnAt K H O a (.dct true ks vs)
theorem OwnAt.step {a : Addr} {d : D} (s : StP P O H O' H') (k : ∀ o, H a = some o → H' a = some o) : OwnAt K H O a d → OwnAt K H' O' a d
  | .lst h r => .lst (k _ h) (r.step s)
  | .dK h e r => .dK (k _ h) e (r.step s)
  | .dT h e r => .dT (k _ h) e (r.step s)
theorem OwnAt.there {a : Addr} {d : D} : OwnAt K H O a d → ∃ o, H a = some o
  | .lst h _ => ⟨_, h⟩
  | .dK h _ _ => ⟨_, h⟩
  | .dT h _ _ => ⟨_, h⟩
/-- given out: a value -/
theorem OwnAt.rp {a : Addr} {d : D} (f : Fz O a) : OwnAt K H O a d → Rp K H O (.ref a) d
  | .lst h r => .lst ⟨h, f⟩ r
  | .dK h e r => .dK (.inl h) f e r
  | .dT h e r => .dT (.inl h) f e r
structure RepE (K : PySem.W.Frag) (H : Hp) (O : OM) (own : Nat → Bool) (σ : L2.St) (ρ : Env) : Prop where
  len : σ.length = ρ.length
  val : ∀ i d, ρ[i]? = some (some d) → own i = false → ∃ v, σ[i]? = some (some v) ∧ Rp K H O v d
  lst : ∀ i d, ρ[i]? = some (some d) → own i = true → ∃ a, σ[i]? = some (some (V.ref a)) ∧ O (.slot i) = some a ∧ OwnAt K H O a d
theorem RepE.stepP {own : Nat → Bool} {σ : L2.St} {ρ : Env} (s : StP P O H O' H') (hP : ∀ i, own i = true → P (.slot i) = false) (r : RepE K H O own σ ρ) : RepE K H' O' own σ ρ := by
  refine ⟨r.len, fun i d e o => ?_, fun i d e o => ?_⟩
  · obtain ⟨v, h1, h2⟩ := r.val i d e o
    exact ⟨v, h1, h2.step s⟩
  · obtain ⟨a, h2, h3, h4⟩ := r.lst i d e o
    exact ⟨a, h2, s.loc _ _ (hP i o) h3, h4.step s fun o' q => s.sk _ a o' (hP i o) h3 q⟩
theorem RepE.step {own : Nat → Bool} {σ : L2.St} {ρ : Env} (s : Step O H O' H') (r : RepE K H O own σ ρ) : RepE K H' O' own σ ρ := r.stepP s fun _ _ => rfl
theorem StP.trans {O1 : OM} {H1 : Hp} (s : StP P O H O1 H1) (t : StP P O1 H1 O' H') : StP P O H O' H' := by
  refine ⟨fun a o h f => (s.keep a o h f).elim (fun e => t.keep a o e (s.fz h f)) fun ⟨d, ob, e⟩ => .inr ⟨d, ob, t.keepN e (s.fz h f) DctO.frz⟩, fun w a p e => t.loc w a p (s.loc w a p e), fun w a o p e h => t.sk w a o p (s.loc w a p e) (s.sk w a o p e h), fun i a e => t.obj i a (s.obj i a e), fun w a e => ?_, fun a o h => ?_⟩
  · rcases t.new w a e with q | q
    · exact s.new w a q
    · right
      cases hh : H a with
      | none => rfl
      | some o =>
        obtain ⟨o', e'⟩ := s.live a o hh
        rw [q] at e'; cases e'
  · obtain ⟨o', e'⟩ := s.live a o h
    exact t.live a o' e'
/-- an owner gives up -/
def OM.del (O : OM) (w : Ow) : OM := fun w' => if w' = w then none else O w'
theorem OM.del_of {w w' : Ow} {a : Addr} (h : O.del w w' = some a) : w' ≠ w ∧ O w' = some a := by
  unfold OM.del at h
  by_cases e : w' = w
  · rw [if_pos e] at h; cases h
  · rw [if_neg e] at h; exact ⟨e, h⟩
theorem OM.del_ne {w w' : Ow} (h : w' ≠ w) : O.del w w' = O w' := if_neg h
/-- fewer owners, the objects' the same -/
structure Less (O O' : OM) : Prop where
  le : ∀ w a, O' w = some a → O w = some a
  obj : ∀ i a, O (.obj i) = some a → O' (.obj i) = some a
theorem Less.fz (l : Less O O') {a : Addr} (f : Fz O a) : Fz O' a := fun w e => f w (l.le w a e)
mutual
theorem Rp.less (l : Less O O') : ∀ {v : V} {d : D}, Rp K H O v d → Rp K H O' v d
  | _, _, .non => .non
  | _, _, .bl b => .bl b
  | _, _, .int i => .int i
  | _, _, .str x => .str x
  | _, _, .tup t r => .tup (t.elim (fun h => .inl ⟨h.1, l.fz h.2⟩) .inr) (Rps.less l r)
  | _, _, .lst t r => .lst ⟨t.1, l.fz t.2⟩ (Rps.less l r)
  | _, _, .fz t r => .fz (t.elim (fun ⟨o, h, f⟩ => .inl ⟨o, h, l.fz f⟩) .inr) (Rps.less l r)
  | _, _, .ref e => .ref (l.obj _ _ e)
  | _, _, .dK h f e r => .dK h (l.fz f) e (Rps.less l r)
  | _, _, .dT h f e r => .dT h (l.fz f) e (Rps.less l r)
theorem Rps.less (l : Less O O') : ∀ {vs : List V} {ds : List D}, Rps K H O vs ds → Rps K H O' vs ds
  | _, _, .nil => .nil
  | _, _, .cons r t => .cons (Rp.less l r) (Rps.less l t)
end
theorem RepH.less (l : Less O O') {h : AH} (r : RepH K H O h) : RepH K H O' h := by
  refine ⟨fun w w' a e e' => r.inj w w' a (l.le _ _ e) (l.le _ _ e'), fun i o e => ?_, fun i a e => r.lim i a (l.le _ _ e), fun w a e => r.dom w a (l.le _ _ e), fun b a e => r.tmp b a (l.le _ _ e)⟩
  obtain ⟨a, e1, e2⟩ := r.hp i o e
  refine ⟨a, l.obj _ _ e1, ?_⟩
  cases o with
  | lst ds => obtain ⟨vs, q, t⟩ := e2; exact ⟨vs, q, t.less l⟩
  | ins c fs => exact e2
theorem Less.del {w : Ow} (h : w.isObj = false) : Less O (O.del w) := ⟨fun w' a e => (OM.del_of e).2, fun i a e => by rw [OM.del_ne (fun z => by rw [← z] at h; cases h)]; exact e⟩
/-- an owner more -/
def OM.put (O : OM) (w : Ow) (a : Addr) : OM := fun w' => if w' = w then some a else O w'
theorem OM.put_same {w : Ow} {a : Addr} : O.put w a w = some a := if_pos rfl
theorem OM.put_ne {w w' : Ow} {a : Addr} (h : w' ≠ w) : O.put w a w' = O w' := if_neg h
end
end Mi

set_option Elab.async false
set_option linter.all false
set_option maxRecDepth 100000
set_option maxHeartbeats 4000000
/-! Mi over the hand layer: expressions. -/
namespace Mi
open PySem PySem.Spec PyProof.Rows L2

/-- a value, or a list that a slot owns, read and not kept -/
inductive RpB (K : PySem.W.Frag) (H : Hp) (O : OM) : V → D → Prop
  | rp {v : V} {d : D} : Rp K H O v d → RpB K H O v d
  | own {a : Addr} {d : D} {i : Nat} : O (.slot i) = some a → OwnAt K H O a d → RpB K H O (.ref a) d
inductive RpF (K : PySem.W.Frag) (H : Hp) (O : OM) : List (Str × V) → List (Str × D) → Prop
  | nil : RpF K H O [] []
  | cons {f : Str} {v : V} {d : D} {vs ds} : Rp K H O v d → RpF K H O vs ds → RpF K H O ((f, v) :: vs) ((f, d) :: ds)
/-- an exception: its class, its fields -/
def XRp (K : PySem.W.Frag) (CM : Str → Option Addr) (H : Hp) (O : OM) (c : Str) (fs : List (Str × D)) (cls : Value) (dd : Option Addr) : Prop :=
  ∃ C, CM c = some C ∧ cls = .ref C ∧ ((fs = [] ∧ dd = none) ∨ ∃ d fvs, dd = some d ∧ H d = some (.xd fvs) ∧ Fz O d ∧ RpF K H O fvs fs)

section
variable {K : PySem.W.Frag} {H H' : Hp} {O O' : OM}
theorem RpB.step (s : Step O H O' H') {v : V} {d : D} : RpB K H O v d → RpB K H' O' v d
  | .rp r => .rp (r.step s)
  | .own e h => .own (s.loc _ _ rfl e) (h.step s fun _ q => s.sk _ _ _ rfl e q)
theorem RpF.step (s : Step O H O' H') : ∀ {vs ds}, RpF K H O vs ds → RpF K H' O' vs ds
  | _, _, .nil => .nil
  | _, _, .cons r t => .cons (r.step s) (RpF.step s t)
/-- a list that is read -/
theorem RpB.list {v : V} {ds : List D} : RpB K H O v (.lst ds) → ∃ a vs, v = .ref a ∧ H a = some (.lst vs) ∧ Rps K H O vs ds
  | .rp (.lst t r) => ⟨_, _, rfl, t.1, r⟩
  | .own _ (.lst h r) => ⟨_, _, rfl, h, r⟩
theorem RpB.tup {v : V} {ds : List D} : RpB K H O v (.tup ds) → ∃ a vs, v = .ref a ∧ TupAt K H O a vs ∧ Rps K H O vs ds
  | .rp (.tup t r) => ⟨_, _, rfl, t, r⟩
theorem RpB.fz {v : V} {ds : List D} : RpB K H O v (.fz ds) → ∃ a vs, v = .ref a ∧ FzlAt K H O a vs ∧ Rps K H O vs ds
  | .rp (.fz t r) => ⟨_, _, rfl, t, r⟩
theorem RpB.int {v : V} {i : Int} : RpB K H O v (.int i) → v = .int i
  | .rp (.int _) => rfl
theorem RpB.bl {v : V} {b : Bool} : RpB K H O v (.bl b) → v = .bl b
  | .rp (.bl _) => rfl
theorem RpB.str {v : V} {x : Str} : RpB K H O v (.str x) → v = .str x
  | .rp (.str _) => rfl
theorem RpB.non {v : V} : RpB K H O v .non → v = .non
  | .rp .non => rfl
theorem RpB.ref {v : V} {i : Nat} : RpB K H O v (.ref i) → ∃ a, v = .ref a ∧ O (.obj i) = some a
  | .rp (.ref e) => ⟨_, rfl, e⟩
theorem Rps.ints : ∀ {vs : List V} {ds : List D} {ns : List Int}, Rps K H O vs ds → D.ints? ds = some ns → vs = ns.map V.int ∧ ds = ns.map D.int
  | _, _, _, .nil, e => by cases e; exact ⟨rfl, rfl⟩
  | _, _, ns, .cons r t, e => by
    cases r with
    | int i =>
      simp only [D.ints?, Option.map_eq_some_iff] at e
      obtain ⟨ms, e1, rfl⟩ := e
      obtain ⟨h1, h2⟩ := Rps.ints t e1
      exact ⟨by rw [List.map_cons, h1], by rw [List.map_cons, h2]⟩
    | _ => simp [D.ints?] at e
theorem Rps.bools : ∀ {vs : List V} {ds : List D} {ns : List Bool}, Rps K H O vs ds → bools? ds = some ns → vs = ns.map V.bl ∧ ds = ns.map D.bl
  | _, _, _, .nil, e => by cases e; exact ⟨rfl, rfl⟩
  | _, _, ns, .cons r t, e => by
    cases r with
    | bl i =>
      simp only [bools?, Option.map_eq_some_iff] at e
      obtain ⟨ms, e1, rfl⟩ := e
      obtain ⟨h1, h2⟩ := Rps.bools t e1
      exact ⟨by rw [List.map_cons, h1], by rw [List.map_cons, h2]⟩
    | _ => simp [bools?] at e

/-! ### new objects -/
theorem Step.new_tup {p : Addr} {xs : List V} {h : AH} (rh : RepH K H O h) (hp : H p = none) (o : HO) : Step O H O (upd H p o) := by
  have ne : ∀ {a : Addr} {u : HO}, H a = some u → a ≠ p := fun e => ne_of_none e hp
  refine ⟨fun a u e _ => .inl (by rw [upd_ne (ne e)]; exact e), fun _ _ _ e => e, fun w a u _ _ e => by rw [upd_ne (ne e)]; exact e, fun _ _ e => e, fun _ _ e => .inl e, fun a u e => ⟨u, by rw [upd_ne (ne e)]; exact e⟩⟩
theorem RepH.fresh {p : Addr} {h : AH} (rh : RepH K H O h) (hp : H p = none) : Fz O p := fun w e => by
  obtain ⟨o, q⟩ := rh.dom w p e
  rw [hp] at q; cases q
theorem RpO.step {P : Ow → Bool} (s : StP P O H O' H') {a : Addr} {o : AO} (k : ∀ u, H a = some u → H' a = some u) (r : RpO K H O a o) : RpO K H' O' a o := by
  cases o with
  | lst ds => obtain ⟨vs, e, q⟩ := r; exact ⟨vs, k _ e, q.step s⟩
  | ins c fs => exact r
theorem RepH.upd_new {p : Addr} {h : AH} (rh : RepH K H O h) (hp : H p = none) (o : HO) : RepH K (upd H p o) O h := by
  have s : Step O H O (upd H p o) := Step.new_tup (xs := []) rh hp o
  refine ⟨rh.inj, fun i u e => ?_, rh.lim, fun w a e => ?_, rh.tmp⟩
  · obtain ⟨a, e1, r⟩ := rh.hp i u e
    refine ⟨a, e1, r.step s fun x q => ?_⟩
    rw [upd_ne (ne_of_none q hp)]; exact q
  · obtain ⟨u, q⟩ := rh.dom w a e
    exact ⟨u, by rw [upd_ne (ne_of_none q hp)]; exact q⟩
end

/-! ### what an answer of the evaluator is worth -/
section
variable (K : PySem.W.Frag) (CM : Str → Option Addr) (own : Nat → Bool) (W : WX)
def EvG {α β : Type} (rel : Hp → OM → β → α → Prop) (O : OM) (H : Hp) (σ : L2.St) (r : Option (ER α)) (Q : β → Hp → Prop) : Prop := match r with
  | some (.ok d h') => ∀ v H' O', Step O H O' H' → RepH K H' O' h' → rel H' O' v d → Q v H'
  | some (.exc c fs h') => ∀ cls dd H' O', Step O H O' H' → RepH K H' O' h' → XRp K CM H' O' c fs cls dd → W cls dd σ H'
  | none => False
/-- a reading by the evaluator -/
def tG {α β : Type} (rel : Hp → OM → β → α → Prop) (m : Env → M α) : L2.St → Hp → (β → Hp → Prop) → Prop := fun σ H Q =>
  ∃ (ρ : Env) (O : OM) (h : AH), RepE K H O own σ ρ ∧ RepH K H O h ∧ EvG K CM W rel O H σ (m ρ h) Q
end
section
variable {K : PySem.W.Frag} {CM : Str → Option Addr} {own : Nat → Bool} {W : WX} {H H1 : Hp} {O O1 : OM} {σ : L2.St}
theorem EvG.imp {α β : Type} {rel : Hp → OM → β → α → Prop} {r : Option (ER α)} {Q Q' : β → Hp → Prop} (h : EvG K CM W rel O H σ r Q) (i : ∀ v H, Q v H → Q' v H) : EvG K CM W rel O H σ r Q' := by
  cases r with
  | none => exact h
  | some x =>
    cases x with
    | ok d h' => exact fun v H' O' s rh rl => i _ _ (h v H' O' s rh rl)
    | exc c fs h' => exact h
theorem EvG.on {α β : Type} {rel : Hp → OM → β → α → Prop} {r : Option (ER α)} {Q : β → Hp → Prop} (h : EvG K CM W rel O H σ r Q) (s : Step O H O1 H1) : EvG K CM W rel O1 H1 σ r Q := by
  cases r with
  | none => exact h
  | some x =>
    cases x with
    | ok d h' => exact fun v H' O' s' rh rl => h v H' O' (s.trans s') rh rl
    | exc c fs h' => exact fun cls dd H' O' s' rh x => h cls dd H' O' (s.trans s') rh x
theorem EvG.bind {α β γ δ : Type} {rel : Hp → OM → β → α → Prop} {rel2 : Hp → OM → δ → γ → Prop} {r : Option (ER α)} {f : α → M γ} {Q : δ → Hp → Prop} (h : EvG K CM W rel2 O H σ (M.bd r f) Q) :
    EvG K CM W rel O H σ r fun v H1 => ∃ O1 h1 d, Step O H O1 H1 ∧ RepH K H1 O1 h1 ∧ rel H1 O1 v d ∧ EvG K CM W rel2 O1 H1 σ (f d h1) Q := by
  cases r with
  | none => exact h
  | some x =>
    cases x with
    | ok d h' =>
      intro v H' O' s rh rl
      exact ⟨O', h', d, s, rh, rl, EvG.on (show EvG K CM W rel2 O H σ (f d h') Q from h) s⟩
    | exc c fs h' => exact h
/-- the state at an answer: the end -/
theorem EvG.ok {α β : Type} {rel : Hp → OM → β → α → Prop} {d : α} {h : AH} {Q : β → Hp → Prop} (p : EvG K CM W rel O H σ (some (.ok d h)) Q) (rh : RepH K H O h) {v : β} (r : rel H O v d) : Q v H := p v H O (Step.refl _ _) rh r
theorem EvG.okn {α β : Type} {rel : Hp → OM → β → α → Prop} {d : α} {h : AH} {Q : β → Hp → Prop} (p : EvG K CM W rel O H σ (some (.ok d h)) Q) (rh : RepH K H O h) {v : β} {a : Addr} {o : HO} (ha : H a = none)
    (r : rel (upd H a o) O v d) : Q v (upd H a o) := p v _ O (Step.new_tup (xs := []) rh ha o) (rh.upd_new ha o) r
end

abbrev rV (K : PySem.W.Frag) : Hp → OM → V → D → Prop := fun H O v d => Rp K H O v d
abbrev rB (K : PySem.W.Frag) : Hp → OM → V → D → Prop := fun H O v d => RpB K H O v d
abbrev rT : Hp → OM → Bool → Bool → Prop := fun _ _ v d => v = d
abbrev rL (K : PySem.W.Frag) : Hp → OM → List V → List D → Prop := fun H O v d => Rps K H O v d
theorem TG.imp {X : Cx} {e : Expr} {t t' : TE} (h : PE X e t) (i : ∀ σ H Q, t' σ H Q → t σ H Q) : PE X e t' := ⟨fun pins s σ H Q I q => h.run pins s σ H Q I (i σ H Q q)⟩
theorem TT.imp {X : Cx} {e : Expr} {t t' : TT} (h : PT X e t) (i : ∀ σ H Q, t' σ H Q → t σ H Q) : PT X e t' := ⟨fun pins s σ H Q I q => h.run pins s σ H Q I (i σ H Q q)⟩
theorem TA.imp {X : Cx} {e : List Expr} {t t' : TA} (h : PA X e t) (i : ∀ σ H Q, t' σ H Q → t σ H Q) : PA X e t' := ⟨fun pos pins s σ H Q I q => h.run pos pins s σ H Q I (i σ H Q q)⟩

section
variable {X : Cx} {CM : Str → Option Addr} {own : Nat → Bool} {W : WX} {C : Nat → List D → M D}
/-- an expression's and a test's judgement: EJ a value that may be kept, EB one that is read alone -/
abbrev EJ (X : Cx) (CM : Str → Option Addr) (own : Nat → Bool) (W : WX) (C : Nat → List D → M D) (e : Expr) (m : ME) : Prop := PE X e (tG X.K CM own W (rV X.K) (ev C m))
abbrev EB (X : Cx) (CM : Str → Option Addr) (own : Nat → Bool) (W : WX) (C : Nat → List D → M D) (e : Expr) (m : ME) : Prop := PE X e (tG X.K CM own W (rB X.K) (ev C m))
abbrev EJs (X : Cx) (CM : Str → Option Addr) (own : Nat → Bool) (W : WX) (C : Nat → List D → M D) (es : List Expr) (m : MEs) : Prop := PA X es (tG X.K CM own W (rL X.K) (evs C m))
abbrev ET (X : Cx) (CM : Str → Option Addr) (own : Nat → Bool) (W : WX) (C : Nat → List D → M D) (e : Expr) (m : ME) : Prop := PT X e (tG X.K CM own W rT (tst C m))
theorem EJ.b {e : Expr} {m : ME} (h : EJ X CM own W C e m) : EB X CM own W C e m := TG.imp h fun σ H Q ⟨ρ, O, hp, re, rh, p⟩ => ⟨ρ, O, hp, re, rh, by
  cases q : ev C m ρ hp with
  | none => rw [q] at p; exact p
  | some x =>
    rw [q] at p
    cases x with
    | ok d h' => exact fun v H' O' s rh' rl => p v H' O' s rh' (.rp rl)
    | exc c fs h' => exact p⟩

/-! names and constants -/
theorem ej_var {i : Nat} {x : Str} {pos : Pos} (hN : X.N[i]? = some x) (hv : Vis X.env.scope x) (ho : own i = false) (hd : (x == ("__debug__" : Str)) = false) (hcd : (x == ("__classdict__" : Str)) = false) : EJ X CM own W C (.Name x pos) (.var i) :=
  TG.imp (pe_var hN hv hd hcd) fun σ H Q ⟨ρ, O, hp, re, rh, p⟩ => by
    simp only [ev, Env.get] at p
    cases q : ρ[i]? with
    | none => rw [q] at p; exact p.elim
    | some y =>
      rw [q] at p
      cases y with
      | none => exact p.elim
      | some d =>
        obtain ⟨v, h1, h2⟩ := re.val i d q ho
        exact ⟨v, h1, EvG.ok p rh h2⟩
theorem eb_var {i : Nat} {x : Str} {pos : Pos} (hN : X.N[i]? = some x) (hv : Vis X.env.scope x) (hd : (x == ("__debug__" : Str)) = false) (hcd : (x == ("__classdict__" : Str)) = false) : EB X CM own W C (.Name x pos) (.var i) := by
  by_cases ho : own i = false
  · exact (ej_var hN hv ho hd hcd).b
  · have ho : own i = true := by simpa using ho
    refine TG.imp (pe_var hN hv hd hcd) fun σ H Q ⟨ρ, O, hp, re, rh, p⟩ => ?_
    simp only [ev, Env.get] at p
    cases q : ρ[i]? with
    | none => rw [q] at p; exact p.elim
    | some y =>
      rw [q] at p
      cases y with
      | none => exact p.elim
      | some d =>
        obtain ⟨a, h1, h2, h3⟩ := re.lst i d q ho
        exact ⟨_, h1, EvG.ok p rh (.own h2 h3)⟩
theorem ej_lit {e : Expr} {v : V} {d : D} (h : PE X e (tC v)) (r : ∀ H O, Rp X.K H O v d) : EJ X CM own W C e (.lit d) := TG.imp h fun σ H Q ⟨ρ, O, hp, re, rh, p⟩ => by
  simp only [ev] at p
  exact EvG.ok p rh (r H O)

/-! operators by values -/
/-- a two-place operation on values, by a function that may fail -/
def OpD (X : Cx) (f : Value → Value → Sem Value) (g : D → D → Option D) : Prop := ∀ (CM : Str → Option Addr) (W : WX) (O : OM) (hp : AH) (σ : L2.St) (dx dy : D),
  OpR X f fun x y H Q => RepH X.K H O hp ∧ RpB X.K H O x dx ∧ RpB X.K H O y dy ∧ EvG X.K CM W (rV X.K) O H σ (M.lift (g dx dy) hp) Q
theorem ej_op2 {f : Value → Value → Sem Value} {g : D → D → Option D} (hf : OpD X f g) : OpR X f fun x y H Q => ∃ (CM : Str → Option Addr) (W : WX) (O : OM) (hp : AH) (σ : L2.St) (dx dy : D), RepH X.K H O hp ∧ RpB X.K H O x dx ∧ RpB X.K H O y dy ∧ EvG X.K CM W (rV X.K) O H σ (M.lift (g dx dy) hp) Q :=
  fun pins s σ H x y v u Q I rx ry ⟨CM, W, O, hp, σ', dx, dy, h⟩ => hf CM W O hp σ' dx dy pins s σ H x y v u Q I rx ry h
/-- two expressions, then an operation -/
theorem two {ma mb : ME} {m : Env → M D} {g : D → D → Option D} (hm : ∀ ρ, m ρ = M.bind (ev C ma ρ) fun x => M.bind (ev C mb ρ) fun y => M.lift (g x y)) {σ : L2.St} {H : Hp} {Q : VK} (h : tG X.K CM own W (rV X.K) m σ H Q) :
    tOp (fun x y H Q => ∃ (CM : Str → Option Addr) (W : WX) (O : OM) (hp : AH) (σ : L2.St) (dx dy : D), RepH X.K H O hp ∧ RpB X.K H O x dx ∧ RpB X.K H O y dy ∧ EvG X.K CM W (rV X.K) O H σ (M.lift (g dx dy) hp) Q)
      (tG X.K CM own W (rB X.K) (ev C ma)) (tG X.K CM own W (rB X.K) (ev C mb)) σ H Q := by
  obtain ⟨ρ, O, hp, re, rh, p⟩ := h
  rw [hm] at p
  refine ⟨ρ, O, hp, re, rh, (EvG.bind p).imp fun x H1 ⟨O1, h1, dx, s1, rh1, r1, p1⟩ => ⟨ρ, O1, h1, re.step s1, rh1, (EvG.bind p1).imp fun y H2 ⟨O2, h2, dy, s2, rh2, r2, p2⟩ => ⟨CM, W, O2, h2, σ, dx, dy, rh2, r1.step s2, r2, p2⟩⟩⟩
theorem ej_bin {a b : Expr} {ma mb : ME} {op : Operator} {o : BOp} {pos : Pos} (ho : OpD X (binaryOp op) (D.bop o)) (ha : EB X CM own W C a ma) (hb : EB X CM own W C b mb) : EJ X CM own W C (.BinOp a op b pos) (.bin o ma mb) :=
  TG.imp (pe_op (ej_op2 ho) ha hb) fun σ H Q h => two (fun ρ => by simp only [ev]) h
end
end Mi

set_option Elab.async false
set_option linter.all false
set_option maxRecDepth 100000
set_option maxHeartbeats 4000000
/-! Mi over the hand layer: the operators. -/
namespace Mi
open PySem PySem.Spec PyProof.Rows L2
section
variable {X : Cx}
/-- a way of the operator's function: the two kinds of values, what comes back -/
theorem od_add : OpD X (binaryOp .Add) (D.bop .add) := by
  intro CM W O hp σ' dx dy pins s σ H x y v u Q I rx ry ⟨rh, bx, by_, p⟩
  cases dx with
  | int i =>
    cases dy with
    | int j =>
      have ex := bx.int; have ey := by_.int
      subst ex; subst ey
      exact op_add pins s σ H _ _ v u Q I rx ry ⟨i, j, rfl, rfl, EvG.ok p rh (.int _)⟩
    | _ => exact p.elim
  | str a =>
    cases dy with
    | str b =>
      have ex := bx.str; have ey := by_.str
      subst ex; subst ey
      simp only [D.bop] at p
      split at p
      · rename_i hl
        exact op_add_str pins s σ H _ _ v u Q I rx ry ⟨a, b, rfl, rfl, hl, EvG.ok p rh (.str _)⟩
      · exact p.elim
    | _ => exact p.elim
  | lst xs =>
    cases dy with
    | lst ys =>
      obtain ⟨a, vs, rfl, ha, ra⟩ := bx.list
      obtain ⟨b, ws, rfl, hb, rb⟩ := by_.list
      simp only [D.bop] at p
      split at p
      · rename_i hl
        refine op_cat pins s σ H _ _ v u Q I rx ry ⟨a, b, vs, ws, rfl, rfl, ha, hb, by rw [ra.length, rb.length]; exact hl, fun q hq => ?_⟩
        have st : Step O H O (upd H q (.lst (vs ++ ws))) := Step.new_tup (xs := []) rh hq _
        exact EvG.okn p rh hq (.lst ⟨upd_same, rh.fresh hq⟩ ((ra.append rb).step st))
      · exact p.elim
    | _ => exact p.elim
  | tup xs =>
    cases dy with
    | tup ys =>
      obtain ⟨a, vs, rfl, ha, ra⟩ := bx.tup
      obtain ⟨b, ws, rfl, hb, rb⟩ := by_.tup
      simp only [D.bop] at p
      split at p
      · rename_i hl
        refine op_catA pins s σ H _ _ v u Q I rx ry ⟨a, b, vs, ws, rfl, rfl, ha.sq, hb.sq, by rw [ra.length, rb.length]; exact hl, fun e => ?_, fun _ e => ?_, fun _ _ q hq => ?_⟩
        · subst e
          cases ra
          exact EvG.ok p rh (.tup hb rb)
        · subst e
          cases rb
          rw [List.append_nil] at p
          exact EvG.ok p rh (.tup ha ra)
        · have st : Step O H O (upd H q (.tup (vs ++ ws))) := Step.new_tup (xs := []) rh hq _
          exact EvG.okn p rh hq (.tup (.inl ⟨.inl upd_same, rh.fresh hq⟩) ((ra.append rb).step st))
      · exact p.elim
    | _ => exact p.elim
  | _ => exact p.elim
/-- an operator of ints alone -/
theorem od_int {f : Value → Value → Sem Value} {g : D → D → Option D} {c : Int → Int → Bool} {k : Int → Int → Int} (hg : ∀ x y, g x y = match x, y with | .int i, .int j => if c i j = true then some (.int (k i j)) else none | _, _ => none)
    (hf : ∀ i j, c i j = true → OpR X f fun x y H Q => x = .int i ∧ y = .int j ∧ Q (.int (k i j)) H) : OpD X f g := by
  intro CM W O hp σ' dx dy pins s σ H x y v u Q I rx ry ⟨rh, bx, by_, p⟩
  rw [hg] at p
  cases dx with
  | int i =>
    cases dy with
    | int j =>
      have ex := bx.int; have ey := by_.int
      subst ex; subst ey
      simp only at p
      split at p
      · rename_i hc
        exact hf i j hc pins s σ H _ _ v u Q I rx ry ⟨rfl, rfl, EvG.ok p rh (.int _)⟩
      · exact p.elim
    | _ => exact p.elim
  | _ => exact p.elim
theorem OpR.at {f : Value → Value → Sem Value} {r r' : R2} (h : OpR X f r) (i : ∀ x y H Q, r' x y H Q → r x y H Q) : OpR X f r' := fun pins s σ H x y v u Q I rx ry q => h pins s σ H x y v u Q I rx ry (i _ _ _ _ q)
theorem od_sub : OpD X (binaryOp .Sub) (D.bop .sub) := od_int (c := fun _ _ => true) (k := fun i j => i - j) (fun x y => by cases x <;> cases y <;> rfl) fun i j _ => (OpR.at op_sub fun x y H Q ⟨h1, h2, q⟩ => ⟨i, j, h1, h2, q⟩)
theorem mulOk_int {i j : Int} (h : mulOk i j = true) : IntMulOk i j := by
  unfold mulOk at h
  simp only [Bool.or_eq_true, decide_eq_true_eq] at h
  rcases h with (h | h) | h
  · exact CMul.ok (.inl (by omega))
  · exact CMul.ok (.inr (by omega))
  · exact CMulW.ok h
theorem divOk_int {i j : Int} (h : divOk j = true) : j ≠ 0 ∧ Builtin.divisionGoesByPylong i j = false := by
  unfold divOk at h
  simp only [Bool.and_eq_true, decide_eq_true_eq] at h
  exact ⟨h.1, PyProof.noPylong_of_log2 h.2⟩
theorem od_fdiv : OpD X (binaryOp .FloorDiv) (D.bop .fdiv) := od_int (c := fun _ j => divOk j) (k := fun i j => i.fdiv j) (fun x y => by cases x <;> cases y <;> rfl) fun i j hc =>
  OpR.at (r := rI (fun i j => i = i ∧ divOk j = true) fun i j => .int (i.fdiv j)) (opI fun a b _ _ _ _ _ hc q => floordiv_int (divOk_int (i := a) hc.2).1 q (.inl (divOk_int hc.2).2)) fun x y H Q ⟨h1, h2, q⟩ => ⟨i, j, h1, h2, ⟨rfl, hc⟩, q⟩
theorem od_mod : OpD X (binaryOp .Mod) (D.bop .mod) := od_int (c := fun _ j => decide (j ≠ 0)) (k := fun i j => i.fmod j) (fun x y => by cases x <;> cases y <;> rfl) fun i j hc =>
  OpR.at op_modN fun x y H Q ⟨h1, h2, q⟩ => ⟨i, j, h1, h2, of_decide_eq_true hc, q⟩
theorem od_pow : OpD X (binaryOp .Pow) (D.bop .pow) := od_int (c := powOk) (k := fun i j => i ^ j.toNat) (fun x y => by cases x <;> cases y <;> rfl) fun i j hc =>
  OpR.at (r := rI (fun i j => powOk i j = true) fun i j => .int (i ^ j.toNat)) (opI fun i j _ _ _ _ _ hc q => by
    unfold powOk at hc
    simp only [Bool.and_eq_true, decide_eq_true_eq] at hc
    exact PyProof.Rows.pow_int hc.1 hc.2 q) fun x y H Q ⟨h1, h2, q⟩ => ⟨i, j, h1, h2, hc, q⟩
theorem od_shl : OpD X (binaryOp .LShift) (D.bop .shl) := od_int (c := shOk) (k := fun i j => i * 2 ^ j.toNat) (fun x y => by cases x <;> cases y <;> rfl) fun i j hc =>
  OpR.at op_shl fun x y H Q ⟨h1, h2, q⟩ => ⟨i, j, h1, h2, by unfold shOk at hc; simp only [Bool.and_eq_true, decide_eq_true_eq] at hc; exact ⟨hc.1.1, hc.1.2, hc.2⟩, q⟩
theorem od_shr : OpD X (binaryOp .RShift) (D.bop .shr) := od_int (c := fun _ j => decide (0 ≤ j)) (k := fun i j => i / 2 ^ j.toNat) (fun x y => by cases x <;> cases y <;> rfl) fun i j hc =>
  OpR.at op_shr fun x y H Q ⟨h1, h2, q⟩ => ⟨i, j, h1, h2, of_decide_eq_true hc, q⟩
theorem od_band : OpD X (binaryOp .BitAnd) (D.bop .band) := od_int (c := fun _ _ => true) (k := Builtin.bitAnd) (fun x y => by cases x <;> cases y <;> rfl) fun i j _ => OpR.at op_and fun x y H Q ⟨h1, h2, q⟩ => ⟨i, j, h1, h2, q⟩
theorem od_bor : OpD X (binaryOp .BitOr) (D.bop .bor) := od_int (c := fun _ _ => true) (k := Builtin.bitOr) (fun x y => by cases x <;> cases y <;> rfl) fun i j _ => OpR.at op_or fun x y H Q ⟨h1, h2, q⟩ => ⟨i, j, h1, h2, q⟩
theorem od_bxor : OpD X (binaryOp .BitXor) (D.bop .bxor) := od_int (c := fun _ _ => true) (k := Builtin.bitXor) (fun x y => by cases x <;> cases y <;> rfl) fun i j _ => OpR.at op_xor fun x y H Q ⟨h1, h2, q⟩ => ⟨i, j, h1, h2, q⟩
theorem op_mulA : OpR X (binaryOp .Mult) (rI (fun i j => mulOk i j = true) fun i j => .int (i * j)) := opI fun _ _ _ _ _ _ _ hc q => mul_int q (mulOk_int hc)
end
end Mi

set_option Elab.async false
set_option linter.all false
set_option maxRecDepth 100000
set_option maxHeartbeats 4000000
namespace Mi
open PySem PySem.Spec PyProof.Rows L2
theorem tup_mul_same (l : Addr) (items : Array Value) (n : Nat) (dd : Option Addr) (sl : Array (Option Value)) (x : Int) (u : Tok) (c0 : (decide (x < -(2 ^ 63)) || decide (x ≥ 2 ^ 63)) = false) (c1 : (items.isEmpty || x == 1) = true) :
    Meets (Builtin.«tuple.__mul__» ⟨[.ref l, .int x u], []⟩) (fun _ R s => s.heap.get? l = some { cls := .type "tuple", dict := dd, data := .seq items n, slots := sl } ∧ R (.ok (.ret (Value.ref l))) s) :=
  .of_wp fun prog w A R s h => by
    obtain ⟨hp, g, d, tk, os⟩ := s
    obtain ⟨hl, h⟩ := h
    have f1 := AutoSeq1.idx_int
    wp_walk using wpAny_loadPart' hl
    repeat (first
      | (refine wpAny_ite_false (decide_eq_false (by rw [c0]; exact Bool.false_ne_true)) ?_; wp_walk using wpAny_loadPart' hl)
      | (refine wpAny_ite_true (decide_eq_true (by rw [c1])) ?_; wp_walk using wpAny_loadPart' hl))
    exact ⟨_, rfl, h⟩
theorem tup_mul_none (l : Addr) (items : Array Value) (n : Nat) (dd : Option Addr) (sl : Array (Option Value)) (x : Int) (u : Tok) (c0 : (decide (x < -(2 ^ 63)) || decide (x ≥ 2 ^ 63)) = false) (c1 : (items.isEmpty || x == 1) = false) (c2 : (decide (x ≤ 0) || items.isEmpty) = true) :
    Meets (Builtin.«tuple.__mul__» ⟨[.ref l, .int x u], []⟩) (fun _ R s => s.heap.get? l = some { cls := .type "tuple", dict := dd, data := .seq items n, slots := sl } ∧
      R (.ok (.ret (Value.ref s.heap.objs.size))) { s with heap := s.heap.push { cls := Value.type "tuple", data := Data.seq #[] }, toks := s.toks }) :=
  .of_wp fun prog w A R s h => by
    obtain ⟨hp, g, d, tk, os⟩ := s
    obtain ⟨hl, h⟩ := h
    have f1 := AutoSeq1.idx_int
    wp_walk using wpAny_loadPart' hl
    repeat (first
      | (refine wpAny_ite_false (decide_eq_false (by rw [c0]; exact Bool.false_ne_true)) ?_; wp_walk using wpAny_loadPart' hl)
      | (refine wpAny_ite_false (decide_eq_false (by rw [c1]; exact Bool.false_ne_true)) ?_; wp_walk using wpAny_loadPart' hl)
      | (refine wpAny_ite_true (decide_eq_true (by rw [c2])) ?_; wp_walk using wpAny_loadPart' hl))
    exact ⟨_, rfl, h⟩
section
variable {X : Cx}
theorem op_tupSame : OpR X (binaryOp .Mult) (fun x y H Q => ∃ l k xs, x = .ref l ∧ y = .int k ∧ SqT X.K H l xs ∧ -1000 ≤ k ∧ k ≤ 1000000 ∧ (xs = [] ∨ k = 1) ∧ Q (.ref l) H) := by
  intro pins s σ H x y v u Q I rx ry h
  obtain ⟨l, k, xs, rfl, rfl, hT, h1, h2, hne, q⟩ := h
  cases rx
  obtain ⟨t, rfl⟩ := ry
  obtain ⟨its, r, ⟨⟨cls, dd, data, sl⟩, ho, hc, n, hd⟩, hs⟩ := I.tuple hT
  simp only at hc hd
  subst hc hd
  have hle : its.length = xs.length := r.length.symm
  have c0 : (decide (k < -(2 ^ 63)) || decide (k ≥ 2 ^ 63)) = false := by
    rw [decide_eq_false (by omega), decide_eq_false (by omega)] <;> rfl
  have c1 : (its.toArray.isEmpty || k == 1) = true := by
    rcases hne with e | e
    · subst e
      have : its = [] := List.eq_nil_of_length_eq_zero hle
      subst this
      rfl
    · subst e
      simp
  refine wpAny_binaryOp_repeat_ref (T := "tuple") (U := "int") (by decide) ⟨_, ho, rfl⟩ (fun s' => typeIs_int s' k t) noFill_tuple_mul F.fills_int_mul F.slot_int_rmul repeat_tuple F.slot_int_index.lookup
    (call_meets F.slot_int_rmul (typeIs_int s k t) F.entry_int_rmul (F.args_int_rmul_2 _ _) (int_rmul_tuple k t l its.toArray n dd sl)
      ⟨ho, rfl, ⟨_, ho, rfl⟩, call_meets F.slot_tuple_mul ⟨_, ho, rfl⟩ F.entry_tuple_mul (F.args_tuple_mul_2 _ _) (tup_mul_same l its.toArray n dd sl k t c0 c1) ⟨ho, ?_⟩⟩)
  exact ⟨.ref l, H, I, rfl, q⟩
theorem op_tupNone : OpR X (binaryOp .Mult) (fun x y H Q => ∃ l k xs, x = .ref l ∧ y = .int k ∧ SqT X.K H l xs ∧ -1000 ≤ k ∧ k ≤ 0 ∧ xs ≠ [] ∧ ∀ p, H p = none → Q (.ref p) (upd H p (.tup []))) := by
  intro pins s σ H x y v u Q I rx ry h
  obtain ⟨l, k, xs, rfl, rfl, hT, h1, h2, hne, q⟩ := h
  cases rx
  obtain ⟨t, rfl⟩ := ry
  obtain ⟨its, r, ⟨⟨cls, dd, data, sl⟩, ho, hc, n, hd⟩, hs⟩ := I.tuple hT
  simp only at hc hd
  subst hc hd
  have hle : its.length = xs.length := r.length.symm
  have hn : its ≠ [] := fun e => hne (by
    rw [e] at hle
    exact List.eq_nil_of_length_eq_zero hle.symm)
  have hi : its.toArray.isEmpty = false := by
    cases its with
    | nil => exact absurd rfl hn
    | cons a b => rfl
  have c0 : (decide (k < -(2 ^ 63)) || decide (k ≥ 2 ^ 63)) = false := by
    rw [decide_eq_false (by omega), decide_eq_false (by omega)] <;> rfl
  have c1 : (its.toArray.isEmpty || k == 1) = false := by
    rw [hi, Bool.false_or]
    exact beq_eq_false_iff_ne.mpr (by omega)
  have c2 : (decide (k ≤ 0) || its.toArray.isEmpty) = true := by
    rw [decide_eq_true h2]; rfl
  refine wpAny_binaryOp_repeat_ref (T := "tuple") (U := "int") (by decide) ⟨_, ho, rfl⟩ (fun s' => typeIs_int s' k t) noFill_tuple_mul F.fills_int_mul F.slot_int_rmul repeat_tuple F.slot_int_index.lookup
    (call_meets F.slot_int_rmul (typeIs_int s k t) F.entry_int_rmul (F.args_int_rmul_2 _ _) (int_rmul_tuple k t l its.toArray n dd sl)
      ⟨ho, rfl, ⟨_, ho, rfl⟩, call_meets F.slot_tuple_mul ⟨_, ho, rfl⟩ F.entry_tuple_mul (F.args_tuple_mul_2 _ _) (tup_mul_none l its.toArray n dd sl k t c0 c1 c2) ⟨ho, ?_⟩⟩)
  refine ⟨.ref s.heap.objs.size, _, I.laid (t' := s.toks) (o := .tup []) (fun b ob q => Heap.get?_push_of_some _ q) (Nat.le_refl _) ?_, rfl, q _ (I.hok.fresh (Nat.le_refl _))⟩
  exact ⟨Nat.zero_le _, [], .nil, IsTup.new _ _⟩
theorem op_repU : OpR X (binaryOp .Mult) (fun x y H Q => ∃ l k xs, x = .ref l ∧ y = .int k ∧ SqT X.K H l xs ∧ xs ≠ [] ∧ 2 ≤ k ∧ k ≤ 1000000 ∧ xs.length * k.toNat ≤ 1000000 ∧ ∀ p, H p = none → Q (.ref p) (upd H p (.tup (List.replicate k.toNat xs).flatten))) := by
  intro pins s σ H x y v u Q I rx ry h
  obtain ⟨l, k, xs, rfl, rfl, hT, hne, h1, h2, hz, q⟩ := h
  cases rx
  obtain ⟨t, rfl⟩ := ry
  obtain ⟨its, r, ⟨⟨cls, dd, data, sl⟩, ho, hc, n, hd⟩, hs⟩ := I.tuple hT
  simp only at hc hd
  subst hc hd
  have hle : its.length = xs.length := r.length.symm
  have hn : its ≠ [] := fun e => hne (List.eq_nil_of_length_eq_zero (by rw [← hle, e]; rfl))
  have hi : its.toArray.isEmpty = false := by
    cases its with
    | nil => exact absurd rfl hn
    | cons a b => rfl
  have hm : ((its.toArray.size : Nat) : Int) * k ≤ 1000000 := by
    rw [List.size_toArray, hle]
    have e : ((xs.length : Nat) : Int) * k = ((xs.length * k.toNat : Nat) : Int) := by
      rw [Int.natCast_mul]
      congr 1
      omega
    rw [e]; omega
  have fl : ∀ {α : Type} (zs : List α), zs.length = xs.length → (List.replicate k.toNat zs).flatten.length ≤ sizeLine := fun zs hz' => by
    rw [PyProof.Rows.lm_len_rep_flat, hz', sizeLine_eq, Nat.mul_comm]
    omega
  have c0 : (decide (k < -(2 ^ 63)) || decide (k ≥ 2 ^ 63)) = false := by
    rw [decide_eq_false (by omega), decide_eq_false (by omega)] <;> rfl
  have c1 : (its.toArray.isEmpty || k == 1) = false := by
    rw [hi, Bool.false_or]
    exact beq_eq_false_iff_ne.mpr (by omega)
  have c2 : (decide (k ≤ 0) || its.toArray.isEmpty) = false := by
    rw [hi, Bool.or_false]
    exact decide_eq_false (by omega)
  have c4 : Builtin.Tuple.tupleTooMany (((its.toArray.size : Nat) : Int) * k) = false := by
    unfold Builtin.Tuple.tupleTooMany
    rw [sizeLine_eq]
    exact decide_eq_false (by omega)
  refine wpAny_binaryOp_repeat_ref (T := "tuple") (U := "int") (by decide) ⟨_, ho, rfl⟩ (fun s' => typeIs_int s' k t) noFill_tuple_mul F.fills_int_mul F.slot_int_rmul repeat_tuple F.slot_int_index.lookup
    (call_meets F.slot_int_rmul (typeIs_int s k t) F.entry_int_rmul (F.args_int_rmul_2 _ _) (int_rmul_tuple k t l its.toArray n dd sl)
      ⟨ho, rfl, ⟨_, ho, rfl⟩, call_meets F.slot_tuple_mul ⟨_, ho, rfl⟩ F.entry_tuple_mul (F.args_tuple_mul_2 _ _) (tuple_mulW l its.toArray n dd sl k t c0 c1 c2 (by omega) c4 (by rw [size_rep, List.size_toArray]; exact fl its hle)) ⟨ho, ?_⟩⟩)
  rw [size_rep]
  refine ⟨.ref s.heap.objs.size, _, I.laid (t' := s.toks) (o := .tup (List.replicate k.toNat xs).flatten) (fun b ob q => Heap.get?_push_of_some _ q) (Nat.le_refl _) ?_, rfl, q _ (I.hok.fresh (Nat.le_refl _))⟩
  exact ⟨fl xs rfl, _, r.rep k.toNat, IsTup.new _ _⟩
theorem flat_rep_one {α : Type} (xs : List α) : (List.replicate 1 xs).flatten = xs := by simp
theorem flat_rep_nil {α : Type} (n : Nat) : (List.replicate n ([] : List α)).flatten = [] := by
  induction n with
  | zero => rfl
  | succ n ih => rw [List.replicate_succ, List.flatten_cons, ih]; rfl
theorem od_mul : OpD X (binaryOp .Mult) (D.bop .mul) := by
  intro CM W O hp σ' dx dy pins s σ H x y v u Q I rx ry ⟨rh, bx, by_, p⟩
  cases dx with
  | int i =>
    cases dy with
    | int j =>
      have ex := bx.int; have ey := by_.int
      subst ex; subst ey
      simp only [D.bop] at p
      split at p
      · rename_i hc
        exact op_mulA pins s σ H _ _ v u Q I rx ry ⟨i, j, rfl, rfl, hc, EvG.ok p rh (.int _)⟩
      · exact p.elim
    | _ => exact p.elim
  | lst xs =>
    cases dy with
    | int k =>
      obtain ⟨a, vs, rfl, ha, ra⟩ := bx.list
      have ey := by_.int
      subst ey
      simp only [D.bop] at p
      split at p
      · rename_i hl
        simp only [Bool.and_eq_true, decide_eq_true_eq] at hl
        refine op_rep pins s σ H _ _ v u Q I rx ry ⟨a, k, vs, rfl, rfl, ha, hl.1.1, hl.1.2, by rw [ra.length]; exact hl.2, fun q hq => ?_⟩
        have st : Step O H O (upd H q (.lst (List.replicate k.toNat vs).flatten)) := Step.new_tup (xs := []) rh hq _
        exact EvG.okn p rh hq (.lst ⟨upd_same, rh.fresh hq⟩ ((ra.flat k.toNat).step st))
      · exact p.elim
    | _ => exact p.elim
  | tup xs =>
    cases dy with
    | int k =>
      obtain ⟨a, vs, rfl, ha, ra⟩ := bx.tup
      have ey := by_.int
      subst ey
      simp only [D.bop] at p
      split at p
      · rename_i hl
        simp only [Bool.and_eq_true, decide_eq_true_eq] at hl
        by_cases e0 : vs = []
        · refine op_tupSame pins s σ H _ _ v u Q I rx ry ⟨a, k, vs, rfl, rfl, ha.sq, hl.1.1, hl.1.2, .inl e0, ?_⟩
          subst e0
          cases ra
          unfold repD at p
          rw [flat_rep_nil] at p
          exact EvG.ok p rh (.tup ha .nil)
        · by_cases e1 : k = 1
          · refine op_tupSame pins s σ H _ _ v u Q I rx ry ⟨a, k, vs, rfl, rfl, ha.sq, hl.1.1, hl.1.2, .inr e1, ?_⟩
            subst e1
            unfold repD at p
            rw [show (1 : Int).toNat = 1 from rfl, flat_rep_one] at p
            exact EvG.ok p rh (.tup ha ra)
          · by_cases e2 : k ≤ 0
            · refine op_tupNone pins s σ H _ _ v u Q I rx ry ⟨a, k, vs, rfl, rfl, ha.sq, hl.1.1, e2, e0, fun q hq => ?_⟩
              unfold repD at p
              rw [show k.toNat = 0 by omega, List.replicate_zero] at p
              exact EvG.okn p rh hq (.tup (.inl ⟨.inl upd_same, rh.fresh hq⟩) .nil)
            · refine op_repU pins s σ H _ _ v u Q I rx ry ⟨a, k, vs, rfl, rfl, ha.sq, e0, by omega, hl.1.2, by rw [ra.length]; exact hl.2, fun q hq => ?_⟩
              have st : Step O H O (upd H q (.tup (List.replicate k.toNat vs).flatten)) := Step.new_tup (xs := []) rh hq _
              exact EvG.okn p rh hq (.tup (.inl ⟨.inl upd_same, rh.fresh hq⟩) ((ra.flat k.toNat).step st))
      · exact p.elim
    | _ => exact p.elim
  | _ => exact p.elim
end
end Mi

set_option Elab.async false
set_option linter.all false
set_option maxRecDepth 100000
set_option maxHeartbeats 4000000
/-! Mi over the hand layer: dicts. -/
namespace Mi
open PySem PySem.Spec PyProof.Rows L2
theorem Kd_eqv (a b : L2.Key) : D.eqv (Kd a) (Kd b) = decide (a = b) := by
  cases a with
  | inl i =>
    cases b with
    | inl j => simp only [Kd, D.eqv, Sum.inl.injEq]; rw [Bool.eq_iff_iff]; simp
    | inr y => simp [Kd, D.eqv]
  | inr x =>
    cases b with
    | inl j => simp [Kd, D.eqv]
    | inr y => simp only [Kd, D.eqv, Sum.inr.injEq]; rw [Bool.eq_iff_iff]; simp
section
variable {K : PySem.W.Frag} {H : Hp} {O : OM}
theorem key_val {v : V} {d : D} {k : L2.Key} (r : RpB K H O v d) (e : D.key? d = some k) : v = kV k ∧ d = Kd k := by
  cases d with
  | int i => cases e; exact ⟨r.int, rfl⟩
  | str x => cases e; exact ⟨r.str, rfl⟩
  | _ => cases e
theorem look_K (k : L2.Key) : ∀ (kvs : List (L2.Key × V)) (vs : List D), Rps K H O (kvs.map Prod.snd) vs →
    (∀ d, lookD (Kd k) (kvs.map fun p => Kd p.1) vs = some d → ∃ v, valV kvs k = some v ∧ Rp K H O v d) ∧ (lookD (Kd k) (kvs.map fun p => Kd p.1) vs = none → valV kvs k = none)
  | [], _, r => by
    refine ⟨fun d e => ?_, fun _ => rfl⟩
    simp [lookD] at e
  | p :: kvs, _, r => by
    rw [List.map_cons] at r
    cases r with
    | cons r t =>
      have ih := look_K k kvs _ t
      simp only [List.map_cons, lookD, Kd_eqv, decide_eq_true_eq]
      by_cases c : p.1 = k
      · rw [if_pos c, valV_pos c]
        exact ⟨fun d e => by cases e; exact ⟨_, rfl, r⟩, fun e => by cases e⟩
      · rw [if_neg c, valV_neg c]
        exact ih
theorem repl_K (k : L2.Key) (v : V) (d : D) (rv : Rp K H O v d) : ∀ (kvs : List (L2.Key × V)) (vs : List D), Rps K H O (kvs.map Prod.snd) vs →
    Rps K H O ((kvs.map fun kv => if kv.1 = k then (kv.1, v) else kv).map Prod.snd) (replD (Kd k) d (kvs.map fun p => Kd p.1) vs)
  | [], _, r => by
    have e : replD (Kd k) d [] ‹List D› = [] := by cases ‹List D› <;> rfl
    exact .nil
  | p :: kvs, _, r => by
    rw [List.map_cons] at r
    cases r with
    | cons r t =>
      have ih := repl_K k v d rv kvs _ t
      simp only [List.map_cons, replD, Kd_eqv, decide_eq_true_eq]
      by_cases c : p.1 = k
      · rw [if_pos c, if_pos c]; exact .cons rv ih
      · rw [if_neg c, if_neg c]; exact .cons r ih
theorem put_K (k : L2.Key) (v : V) (d : D) (rv : Rp K H O v d) (kvs : List (L2.Key × V)) (vs : List D) (r : Rps K H O (kvs.map Prod.snd) vs) :
    (putD (Kd k) d (kvs.map fun p => Kd p.1) vs).1 = (putK kvs k v).map (fun p => Kd p.1) ∧ Rps K H O ((putK kvs k v).map Prod.snd) (putD (Kd k) d (kvs.map fun p => Kd p.1) vs).2 := by
  have e : ((kvs.map fun p => Kd p.1).any fun x => D.eqv x (Kd k)) = kvs.any fun kv => decide (kv.1 = k) := by
    rw [List.any_map]
    congr 1
    funext p
    exact Kd_eqv p.1 k
  unfold putD putK
  rw [e]
  by_cases c : (kvs.any fun kv => decide (kv.1 = k)) = true
  · rw [if_pos c, if_pos c]
    refine ⟨?_, repl_K k v d rv kvs vs r⟩
    rw [List.map_map]
    refine List.map_congr_left fun q _ => ?_
    show Kd q.1 = Kd (if q.1 = k then (q.1, v) else q).1
    split <;> rfl
  · rw [if_neg c, if_neg c]
    rw [List.map_append, List.map_append]
    exact ⟨rfl, r.append (.cons rv .nil)⟩
/-- a dict that is read -/
theorem RpB.dct {v : V} {ks vs : List D} : RpB K H O v (.dct false ks vs) → ∃ a kvs, v = .ref a ∧ Rd H a (.dK kvs) ∧ ks = kvs.map (fun p => Kd p.1) ∧ Rps K H O (kvs.map Prod.snd) vs
  | .rp (.dK h _ e r) => ⟨_, _, rfl, h, e, r⟩
  | .own _ (.dK h e r) => ⟨_, _, rfl, .inl h, e, r⟩
theorem keyOk_K {t : Bool} {d : D} (h : keyOk t d = true) : t = false ∧ ∃ k, D.key? d = some k := by
  unfold keyOk at h
  rw [Bool.and_eq_true] at h
  exact ⟨by simpa using h.1, Option.isSome_iff_exists.mp h.2⟩
/-- what a dict holds under a key -/
theorem RpB.dget {x y : V} {t : Bool} {ks vs : List D} {dy : D} (bx : RpB K H O x (.dct t ks vs)) (by_ : RpB K H O y dy) (ok : keyOk t dy = true) :
    ∃ a o, x = .ref a ∧ DGet H a y o ∧ o.isSome = (lookD dy ks vs).isSome ∧ ∀ d, lookD dy ks vs = some d → ∃ v, o = some v ∧ Rp K H O v d := by
  obtain ⟨rfl, k, ek⟩ := keyOk_K ok
  obtain ⟨rfl, rfl⟩ := key_val by_ ek
  obtain ⟨a, kvs, rfl, h, rfl, r⟩ := bx.dct
  have l := look_K k kvs vs r
  refine ⟨a, valV kvs k, rfl, .inl ⟨kvs, k, h, rfl, rfl⟩, ?_, fun d e => l.1 d e⟩
  cases q : lookD (Kd k) (kvs.map fun p => Kd p.1) vs with
  | none => rw [l.2 q]; rfl
  | some d =>
    obtain ⟨v, e, _⟩ := l.1 d q
    rw [e]; rfl
end
section
variable {X : Cx} {pins : List (Addr × Obj)} {σ : L2.St} {H : Hp} {s : Shared} {a : Addr} {A : Around} {E : Value → Shared → Prop}
theorem d_getK {kvs : List (L2.Key × V)} {k : L2.Key} {v : V} {u : Value} {Q : Value → Shared → Prop} (I : L2.Inv X pins σ H s) (e : Rd H a (.dK kvs)) (l : valV kvs k = some v) (ry : L2.RelV (kV k) u) (h : ∀ w' s', L2.Inv X pins σ H s' → L2.RelV v w' → Q w' s') :
    s.TypeIs (.ref a) "dict" ∧ wpAny (model X.prog X.w) A (getItem (.ref a) u) Q E s := by
  obtain ⟨z, hd, vs, rel, dd⟩ := dk_rd I.hok e
  obtain ⟨w', hw, rw'⟩ := RelO.some_of (v := v) (o := valueAt vs k) (by rw [← l]; exact rel.val k)
  exact ⟨dd.typeIs, wpAny_getItem_of (kV_is ry) dd.mapOf hw (h w' _ (I.tok _) rw')⟩
theorem call_lenK {X : Cx} : CallR X (.builtin "len") (fun xs H Q => ∃ (a : Addr) (kvs : List (L2.Key × V)), xs = [.ref a] ∧ Rd H a (.dK kvs) ∧ Q (.int ((kvs.length : Nat) : Int)) H) := by
  intro pins s σ H xs us Q I r h
  obtain ⟨a, kvs, rfl, hr, q⟩ := h
  obtain ⟨u, rfl, rx⟩ := vals1 r
  obtain rfl : u = .ref a := rx
  obtain ⟨z, hd, vs, rel, dd⟩ := dk_rd I.hok hr
  have hl : kvs.length = vs.length := Paired.length rel
  refine call_len_dict hd dd (by rw [← hl]; rw [sizeLine_eq] at z; omega) ?_
  rw [← hl]
  exact ⟨.int ((kvs.length : Nat) : Int), H, I.tok _, ⟨_, rfl⟩, q⟩
end
end Mi

set_option Elab.async false
set_option linter.all false
set_option maxRecDepth 100000
set_option maxHeartbeats 4000000
/-! Mi over the hand layer: comparisons, truth. -/
namespace Mi
open PySem PySem.Spec PyProof.Rows L2
mutual
def toPy : D → PyData
  | .non => .none
  | .bl b => .bool b
  | .int i => .int i
  | .str x => .str x
  | .tup ds => .tuple (toPys ds)
  | .lst ds => .list (toPys ds)
  | .ref _ => .none
  | .fz _ => .none
  | .dct _ _ _ => .none
def toPys : List D → List PyData
  | [] => []
  | d :: ds => toPy d :: toPys ds
end
mutual
theorem shp_depth : ∀ (d : D) (n : Nat), D.shp n d = true → (toPy d).depth ≤ n ∧ (toPy d).canLay0 = true
  | .non, n, _ => by simp [toPy, PyData.depth, PyData.canLay0]
  | .bl _, n, _ => by simp [toPy, PyData.depth, PyData.canLay0]
  | .int _, n, _ => by simp [toPy, PyData.depth, PyData.canLay0]
  | .str x, n, h => by
    have h' : PyData.strOk x = true := by cases n <;> simpa [D.shp] using h
    simp [toPy, PyData.depth, PyData.canLay0, h']
  | .tup ds, 0, h => by simp [D.shp] at h
  | .tup ds, n + 1, h => by
    obtain ⟨h1, h2⟩ := shps_depth ds n (by simpa [D.shp] using h)
    simp only [toPy, PyData.depth, PyData.canLay0]
    exact ⟨by omega, h2⟩
  | .lst ds, 0, h => by simp [D.shp] at h
  | .lst ds, n + 1, h => by
    obtain ⟨h1, h2⟩ := shps_depth ds n (by simpa [D.shp] using h)
    simp only [toPy, PyData.depth, PyData.canLay0]
    exact ⟨by omega, h2⟩
  | .ref _, n, h => by cases n <;> simp [D.shp] at h
  | .fz _, n, h => by cases n <;> simp [D.shp] at h
theorem shps_depth : ∀ (ds : List D) (n : Nat), D.shps n ds = true → PyData.depthAll (toPys ds) ≤ n ∧ PyData.canLayAll0 (toPys ds) = true
  | [], n, _ => by simp [toPys, PyData.depthAll, PyData.canLayAll0]
  | d :: ds, n, h => by
    have h' : D.shp n d = true ∧ D.shps n ds = true := by simpa [D.shps] using h
    obtain ⟨a1, a2⟩ := shp_depth d n h'.1
    obtain ⟨b1, b2⟩ := shps_depth ds n h'.2
    simp only [toPys, PyData.depthAll, PyData.canLayAll0]
    exact ⟨by omega, by rw [a2, b2]; rfl⟩
end
theorem shp_shaped {d : D} (h : D.shp 64 d = true) : SeqAt.shaped (toPy d) = true := by
  obtain ⟨h1, h2⟩ := shp_depth d 64 h
  unfold SeqAt.shaped
  rw [h2, decide_eq_true h1]; rfl
mutual
theorem toPy_eqv : ∀ (a b : D) (n m : Nat), D.shp n a = true → D.shp m b = true → PyData.eqv (toPy a) (toPy b) = D.eqv a b
  | .tup xs, .tup ys, 0, m, h, _ => by simp [D.shp] at h
  | .tup xs, .tup ys, n + 1, 0, _, h => by simp [D.shp] at h
  | .tup xs, .tup ys, n + 1, m + 1, h1, h2 => by
    simp only [toPy, PyData.eqv, D.eqv]
    exact toPys_eqv xs ys n m (by simpa [D.shp] using h1) (by simpa [D.shp] using h2)
  | .lst xs, .lst ys, 0, m, h, _ => by simp [D.shp] at h
  | .lst xs, .lst ys, n + 1, 0, _, h => by simp [D.shp] at h
  | .lst xs, .lst ys, n + 1, m + 1, h1, h2 => by
    simp only [toPy, PyData.eqv, D.eqv]
    exact toPys_eqv xs ys n m (by simpa [D.shp] using h1) (by simpa [D.shp] using h2)
  | .ref _, _, n, _, h, _ => by cases n <;> simp [D.shp] at h
  | .fz _, _, n, _, h, _ => by cases n <;> simp [D.shp] at h
  | .non, b, n, m, _, h => by cases b <;> first | (simp only [toPy, PyData.eqv, D.eqv]; done) | (cases m <;> simp [D.shp] at h)
  | .bl _, b, n, m, _, h => by cases b <;> first | (simp only [toPy, PyData.eqv, D.eqv]; done) | (cases m <;> simp [D.shp] at h)
  | .int _, b, n, m, _, h => by cases b <;> first | (simp only [toPy, PyData.eqv, D.eqv]; done) | (cases m <;> simp [D.shp] at h)
  | .str _, b, n, m, _, h => by cases b <;> first | (simp only [toPy, PyData.eqv, D.eqv]; done) | (cases m <;> simp [D.shp] at h)
  | .tup _, .non, n, m, _, h => by simp only [toPy, PyData.eqv, D.eqv]
  | .tup _, .bl _, n, m, _, h => by simp only [toPy, PyData.eqv, D.eqv]
  | .tup _, .int _, n, m, _, h => by simp only [toPy, PyData.eqv, D.eqv]
  | .tup _, .str _, n, m, _, h => by simp only [toPy, PyData.eqv, D.eqv]
  | .tup _, .lst _, n, m, _, h => by simp only [toPy, PyData.eqv, D.eqv]
  | .tup _, .ref _, n, m, _, h => by cases m <;> simp [D.shp] at h
  | .tup _, .fz _, n, m, _, h => by cases m <;> simp [D.shp] at h
  | .lst _, .non, n, m, _, h => by simp only [toPy, PyData.eqv, D.eqv]
  | .lst _, .bl _, n, m, _, h => by simp only [toPy, PyData.eqv, D.eqv]
  | .lst _, .int _, n, m, _, h => by simp only [toPy, PyData.eqv, D.eqv]
  | .lst _, .str _, n, m, _, h => by simp only [toPy, PyData.eqv, D.eqv]
  | .lst _, .tup _, n, m, _, h => by simp only [toPy, PyData.eqv, D.eqv]
  | .lst _, .ref _, n, m, _, h => by cases m <;> simp [D.shp] at h
  | .lst _, .fz _, n, m, _, h => by cases m <;> simp [D.shp] at h
theorem toPys_eqv : ∀ (xs ys : List D) (n m : Nat), D.shps n xs = true → D.shps m ys = true → PyData.eqvAll (toPys xs) (toPys ys) = D.eqvs xs ys
  | [], [], _, _, _, _ => by simp only [toPys, PyData.eqvAll, D.eqvs]
  | [], _ :: _, _, _, _, _ => by simp only [toPys, PyData.eqvAll, D.eqvs]
  | _ :: _, [], _, _, _, _ => by simp only [toPys, PyData.eqvAll, D.eqvs]
  | x :: xs, y :: ys, n, m, h1, h2 => by
    have h1' : D.shp n x = true ∧ D.shps n xs = true := by simpa [D.shps] using h1
    have h2' : D.shp m y = true ∧ D.shps m ys = true := by simpa [D.shps] using h2
    simp only [toPys, PyData.eqvAll, D.eqvs]
    rw [toPy_eqv x y n m h1'.1 h2'.1, toPys_eqv xs ys n m h1'.2 h2'.2]
end
section
variable {K : PySem.W.Frag} {H : Hp} {O : OM}
mutual
theorem Rp.dp : ∀ (d : D) (n : Nat) (v : V), D.shp n d = true → Rp K H O v d → Dp K H v (toPy d)
  | .non, _, _, _, .non => .non
  | .bl _, _, _, _, .bl b => .bl b
  | .int _, _, _, _, .int i => .int i
  | .str _, _, _, _, .str x => .str x
  | .tup ds, 0, _, h, _ => by simp [D.shp] at h
  | .tup ds, n + 1, _, h, .tup t r => .tup t.sq (Rps.dp ds n _ (by simpa [D.shp] using h) r)
  | .lst ds, 0, _, h, _ => by simp [D.shp] at h
  | .lst ds, n + 1, _, h, .lst t r => .lst t.sq (Rps.dp ds n _ (by simpa [D.shp] using h) r)
  | .ref _, n, _, h, _ => by cases n <;> simp [D.shp] at h
  | .fz _, n, _, h, _ => by cases n <;> simp [D.shp] at h
theorem Rps.dp : ∀ (ds : List D) (n : Nat) (vs : List V), D.shps n ds = true → Rps K H O vs ds → DpAll K H vs (toPys ds)
  | [], _, _, _, .nil => .nil
  | d :: ds, n, _, h, .cons r t => by
    have h' : D.shp n d = true ∧ D.shps n ds = true := by simpa [D.shps] using h
    exact .cons (Rp.dp d n _ h'.1 r) (Rps.dp ds n _ h'.2 t)
end
theorem RpB.dp {d : D} {v : V} (h : D.shp 64 d = true) : RpB K H O v d → Dp K H v (toPy d)
  | .rp r => r.dp d 64 v h
  | .own _ (.lst hl r) => .lst (.inl (.inl hl)) (Rps.dp _ 63 _ (by simpa [D.shp] using h) r)
  | .own _ (.dK _ _ _) => by simp [D.shp] at h
  | .own _ (.dT _ _ _) => by simp [D.shp] at h
theorem RpB.flat {d : D} {v : V} (f : D.flat d = true) (r : RpB K H O v d) : flatV v = true := by
  cases d with
  | non => rw [r.non]; rfl
  | bl b => rw [r.bl]; rfl
  | int i => rw [r.int]; rfl
  | str x => rw [r.str]; rfl
  | _ => cases f
theorem RpB.eqv {d e : D} {v w : V} (f : D.flat d = true) (g : D.flat e = true) (r : RpB K H O v d) (q : RpB K H O w e) : eqV v w = D.eqv d e := by
  cases d with
  | non =>
    have e1 := r.non; subst e1
    cases e with
    | non => rw [q.non]; rfl
    | bl b => rw [q.bl]; rfl
    | int i => rw [q.int]; rfl
    | str x => rw [q.str]; rfl
    | _ => cases g
  | bl b =>
    have e1 := r.bl; subst e1
    cases e with
    | non => rw [q.non]; rfl
    | bl b => rw [q.bl]; rfl
    | int i => rw [q.int]; rfl
    | str x => rw [q.str]; rfl
    | _ => cases g
  | int i =>
    have e1 := r.int; subst e1
    cases e with
    | non => rw [q.non]; rfl
    | bl b => rw [q.bl]; rfl
    | int i => rw [q.int]; rfl
    | str x => rw [q.str]; rfl
    | _ => cases g
  | str x =>
    have e1 := r.str; subst e1
    cases e with
    | non => rw [q.non]; rfl
    | bl b => rw [q.bl]; rfl
    | int i => rw [q.int]; rfl
    | str x => rw [q.str]; rfl
    | _ => cases g
  | _ => cases f
theorem Rps.allFlat : ∀ {vs : List V} {ds : List D}, Rps K H O vs ds → ds.all D.flat = true → vs.all flatV = true
  | _, _, .nil, _ => rfl
  | _, _, .cons r t, f => by
    rw [List.all_cons, Bool.and_eq_true] at f
    rw [List.all_cons, Rps.allFlat t f.2, RpB.flat f.1 (.rp r)]; rfl
theorem Rps.anyEq {d : D} {v : V} (g : D.flat d = true) (q : RpB K H O v d) : ∀ {vs : List V} {ds : List D}, Rps K H O vs ds → ds.all D.flat = true → inV v vs = ds.any fun y => D.eqv y d
  | _, _, .nil, _ => rfl
  | _, _, .cons r t, f => by
    rw [List.all_cons, Bool.and_eq_true] at f
    have := Rps.anyEq g q t f.2
    unfold inV at this ⊢
    rw [List.any_cons, List.any_cons, this, RpB.eqv f.1 g (.rp r) q]
theorem anyPy {d : D} (hd : D.shp 64 d = true) : ∀ (ds : List D), D.shps 63 ds = true → ((toPys ds).any fun z => PyData.eqv z (toPy d)) = ds.any fun y => D.eqv y d
  | [], _ => rfl
  | y :: ys, h => by
    have h' : D.shp 63 y = true ∧ D.shps 63 ys = true := by simpa [D.shps] using h
    simp only [toPys, List.any_cons]
    rw [toPy_eqv y d 63 64 h'.1 hd, anyPy hd ys h'.2]
/-- the scalars' answer -/
theorem RpB.scal {d e : D} {v w : V} (s : D.scal d e = true) (r : RpB K H O v d) (q : RpB K H O w e) : L2.scal v w = true ∧ decide (v = w) = D.eqv d e := by
  cases d with
  | non =>
    have e1 := r.non; subst e1
    cases e with
    | non => rw [q.non]; exact ⟨rfl, rfl⟩
    | bl b => rw [q.bl]; exact ⟨rfl, rfl⟩
    | int i => rw [q.int]; exact ⟨rfl, rfl⟩
    | str x => rw [q.str]; exact ⟨rfl, rfl⟩
    | _ => cases s
  | bl b =>
    have e1 := r.bl; subst e1
    cases e with
    | non => rw [q.non]; exact ⟨rfl, rfl⟩
    | bl b => rw [q.bl]; exact ⟨rfl, dec_bl⟩
    | str x => rw [q.str]; exact ⟨rfl, rfl⟩
    | _ => cases s
  | int i =>
    have e1 := r.int; subst e1
    cases e with
    | non => rw [q.non]; exact ⟨rfl, rfl⟩
    | int i => rw [q.int]; exact ⟨rfl, dec_int⟩
    | str x => rw [q.str]; exact ⟨rfl, rfl⟩
    | _ => cases s
  | str x =>
    have e1 := r.str; subst e1
    cases e with
    | non => rw [q.non]; exact ⟨rfl, rfl⟩
    | bl b => rw [q.bl]; exact ⟨rfl, rfl⟩
    | int i => rw [q.int]; exact ⟨rfl, rfl⟩
    | str x => rw [q.str]; exact ⟨rfl, dec_str⟩
    | _ => cases s
  | _ => cases s
end
/-- a comparison, by a function that may fail -/
def CpD (X : Cx) (f : Value → Value → Sem Value) (g : D → D → Option Bool) : Prop := ∀ (O : OM) (hp : AH) (dx dy : D) (b : Bool), g dx dy = some b → OpR X f fun x y H Q => RepH X.K H O hp ∧ RpB X.K H O x dx ∧ RpB X.K H O y dy ∧ Q (.bl b) H
section
variable {X : Cx}
theorem CpD.od {f : Value → Value → Sem Value} {g : D → D → Option Bool} (h : CpD X f g) : OpD X f fun x y => (g x y).map D.bl := by
  intro CM W O hp σ' dx dy pins s σ H x y v u Q I rx ry ⟨rh, bx, by_, p⟩
  dsimp only at p
  cases e : g dx dy with
  | none => rw [e] at p; exact p.elim
  | some b =>
    rw [e] at p
    exact h O hp dx dy b e pins s σ H x y v u Q I rx ry ⟨rh, bx, by_, EvG.ok p rh (.bl _)⟩
theorem cd_eq (hu : X.A.units + 64 < cLine) : CpD X (compareOp .Eq) (D.cop .eq) := by
  intro O hp dx dy b e pins s σ H x y v u Q I rx ry ⟨rh, bx, by_, q⟩
  simp only [D.cop, D.eq?] at e
  split at e
  · rename_i hc
    cases e
    by_cases hs : D.scal dx dy = true
    · obtain ⟨h1, h2⟩ := RpB.scal hs bx by_
      exact op_eq pins s σ H x y v u Q I rx ry ⟨h1, by rw [h2]; exact q⟩
    · rw [Bool.or_eq_true, Bool.and_eq_true] at hc
      obtain ⟨h1, h2⟩ := hc.resolve_left hs
      refine op_eqD hu pins s σ H x y v u Q I rx ry ⟨_, _, bx.dp h1, by_.dp h2, shp_shaped h1, shp_shaped h2, ?_⟩
      rw [toPy_eqv dx dy 64 64 h1 h2]
      exact q
  · cases e
theorem cd_ne (hu : X.A.units + 64 < cLine) : CpD X (compareOp .NotEq) (D.cop .ne) := by
  intro O hp dx dy b e pins s σ H x y v u Q I rx ry ⟨rh, bx, by_, q⟩
  simp only [D.cop, D.eq?] at e
  split at e
  · rename_i hc
    cases e
    by_cases hs : D.scal dx dy = true
    · obtain ⟨h1, h2⟩ := RpB.scal hs bx by_
      exact op_ne pins s σ H x y v u Q I rx ry ⟨h1, by rw [h2]; exact q⟩
    · rw [Bool.or_eq_true, Bool.and_eq_true] at hc
      obtain ⟨h1, h2⟩ := hc.resolve_left hs
      refine op_neD hu pins s σ H x y v u Q I rx ry ⟨_, _, bx.dp h1, by_.dp h2, shp_shaped h1, shp_shaped h2, ?_⟩
      rw [toPy_eqv dx dy 64 64 h1 h2]
      exact q
  · cases e
theorem cd_ints {f : Value → Value → Sem Value} {g : D → D → Option Bool} {k : Int → Int → Bool} (hg : ∀ x y, g x y = match x, y with | .int i, .int j => some (k i j) | _, _ => none) (hf : OpR X f (rI0 fun i j => .bl (k i j))) : CpD X f g := by
  intro O hp dx dy b e pins s σ H x y v u Q I rx ry ⟨rh, bx, by_, q⟩
  rw [hg] at e
  cases dx with
  | int i =>
    cases dy with
    | int j =>
      cases e
      exact hf pins s σ H x y v u Q I rx ry ⟨i, j, bx.int, by_.int, q⟩
    | _ => cases e
  | _ => cases e
theorem cd_le : CpD X (compareOp .LtE) (D.cop .le) := cd_ints (fun x y => by cases x <;> cases y <;> rfl) op_le
theorem cd_gt : CpD X (compareOp .Gt) (D.cop .gt) := cd_ints (fun x y => by cases x <;> cases y <;> rfl) op_gt
theorem cd_ge : CpD X (compareOp .GtE) (D.cop .ge) := cd_ints (fun x y => by cases x <;> cases y <;> rfl) op_ge
theorem cd_lt (hu : X.A.units < cLine) : CpD X (compareOp .Lt) (D.cop .lt) := by
  intro O hp dx dy b e pins s σ H x y v u Q I rx ry ⟨rh, bx, by_, q⟩
  cases dx with
  | int i =>
    cases dy with
    | int j =>
      cases e
      exact op_lt pins s σ H x y v u Q I rx ry ⟨i, j, bx.int, by_.int, q⟩
    | _ => cases e
  | tup xs =>
    cases dy with
    | tup ys =>
      simp only [D.cop] at e
      cases e1 : D.ints? xs with
      | none => rw [e1] at e; cases e
      | some ns =>
        cases e2 : D.ints? ys with
        | none => rw [e1, e2] at e; cases e
        | some ms =>
          rw [e1, e2] at e; cases e
          obtain ⟨a, vs, rfl, ha, ra⟩ := bx.tup
          obtain ⟨c, ws, rfl, hb, rb⟩ := by_.tup
          obtain ⟨h1, -⟩ := ra.ints e1
          obtain ⟨h2, -⟩ := rb.ints e2
          subst h1; subst h2
          exact op_ltT hu pins s σ H _ _ v u Q I rx ry ⟨a, c, ns, ms, rfl, rfl, ha.sq, hb.sq, q⟩
    | _ => cases e
  | _ => cases e
theorem RpB.isNon {K : PySem.W.Frag} {H : Hp} {O : OM} {v : V} {d : D} (r : RpB K H O v d) : decide (v = V.non) = d.isNon := by
  cases d with
  | non => rw [r.non]; rfl
  | bl b => rw [r.bl]; rfl
  | int i => rw [r.int]; rfl
  | str x => rw [r.str]; rfl
  | tup ds => obtain ⟨a, vs, rfl, _⟩ := r.tup; rfl
  | lst ds => obtain ⟨a, vs, rfl, _⟩ := r.list; rfl
  | fz ds => obtain ⟨a, vs, rfl, _⟩ := r.fz; rfl
  | ref i => obtain ⟨a, rfl, _⟩ := r.ref; rfl
  | dct t ks vs => cases r with
    | rp r => cases r <;> rfl
    | own _ r => rfl
theorem cd_is : CpD X (compareOp .Is) (D.cop .is) := by
  intro O hp dx dy b e pins s σ H x y v u Q I rx ry ⟨rh, bx, by_, q⟩
  cases dy with
  | non =>
    refine op_isN pins s σ H x y v u Q I rx ry ⟨by_.non, ?_⟩
    rw [bx.isNon]
    have e' : dx.isNon = b := by cases dx <;> (injection e)
    rw [e']; exact q
  | bl c =>
    cases dx with
    | bl a =>
      cases e
      refine op_isBl pins s σ H x y v u Q I rx ry ⟨a, c, bx.bl, by_.bl, ?_⟩
      rw [show decide (a = c) = (a == c) by cases a <;> cases c <;> rfl]
      exact q
    | _ => cases e
  | _ => cases dx <;> cases e
theorem cd_isnt : CpD X (compareOp .IsNot) (D.cop .isnt) := by
  intro O hp dx dy b e pins s σ H x y v u Q I rx ry ⟨rh, bx, by_, q⟩
  cases dy with
  | non =>
    refine op_notN pins s σ H x y v u Q I rx ry ⟨by_.non, ?_⟩
    rw [bx.isNon]
    have e' : (!dx.isNon) = b := by cases dx <;> (injection e)
    rw [e']; exact q
  | bl c =>
    cases dx with
    | bl a =>
      cases e
      refine op_notBl pins s σ H x y v u Q I rx ry ⟨a, c, bx.bl, by_.bl, ?_⟩
      rw [show (!decide (a = c)) = (!(a == c)) by cases a <;> cases c <;> rfl]
      exact q
    | _ => cases e
  | _ => cases dx <;> cases e
theorem isin_tup {neg : Bool} {f : Value → Value → Sem Value} (hf : OpR X f (rIn X.K neg)) {O : OM} {hp : AH} {dx : D} {ys : List D} {b : Bool} (e : D.isIn dx ys = some b) {pins s σ H x y v u} {Q : VK} (I : Inv X pins σ H s) (rx : RelV x v) (ry : RelV y u)
    (bx : RpB X.K H O x dx) (by_ : RpB X.K H O y (.tup ys)) (q : Q (.bl (if neg then !b else b)) H) : wpAny (model X.prog X.w) X.A (f v u) (EP X pins σ Q) X.xe s := by
  unfold D.isIn at e
  split at e
  · rename_i hc
    rw [Bool.and_eq_true] at hc
    cases e
    obtain ⟨a, vs, rfl, ha, ra⟩ := by_.tup
    refine hf pins s σ H _ _ v u Q I rx ry ⟨a, vs, rfl, .inr ha.sq, bx.flat hc.1, ra.allFlat hc.2, ?_⟩
    rw [Rps.anyEq hc.1 bx ra hc.2]
    exact q
  · cases e
theorem isin_lst {neg : Bool} {f : Value → Value → Sem Value} (hf : OpR X f (rIn X.K neg)) (hd : ∀ {H x y} {Q : VK}, (∃ d ds, Dp X.K H x d ∧ Dp X.K H y (.list ds) ∧ SeqAt.shaped d = true ∧ SeqAt.shaped (.list ds) = true ∧ Q (.bl (if neg then !(ds.any fun z => PyData.eqv z d) else ds.any fun z => PyData.eqv z d)) H) →
      ∀ {pins s σ v u}, Inv X pins σ H s → RelV x v → RelV y u → wpAny (model X.prog X.w) X.A (f v u) (EP X pins σ Q) X.xe s)
    {O : OM} {hp : AH} {dx : D} {ys : List D} {b : Bool} (e : D.isInL dx ys = some b) {pins s σ H x y v u} {Q : VK} (I : Inv X pins σ H s) (rx : RelV x v) (ry : RelV y u)
    (bx : RpB X.K H O x dx) (by_ : RpB X.K H O y (.lst ys)) (q : Q (.bl (if neg then !b else b)) H) : wpAny (model X.prog X.w) X.A (f v u) (EP X pins σ Q) X.xe s := by
  unfold D.isInL at e
  split at e
  · rename_i hc
    cases e
    by_cases hf' : (D.flat dx && ys.all D.flat) = true
    · rw [Bool.and_eq_true] at hf'
      obtain ⟨a, vs, rfl, ha, ra⟩ := by_.list
      refine hf pins s σ H _ _ v u Q I rx ry ⟨a, vs, rfl, .inl (.inl (.inl ha)), bx.flat hf'.1, ra.allFlat hf'.2, ?_⟩
      rw [Rps.anyEq hf'.1 bx ra hf'.2]
      exact q
    · rw [Bool.or_eq_true] at hc
      have hc := hc.resolve_left hf'
      rw [Bool.and_eq_true] at hc
      have hl : D.shp 64 (.lst ys) = true := by simpa [D.shp] using hc.2
      have d2 := by_.dp hl
      refine hd ⟨_, toPys ys, bx.dp hc.1, by simpa [toPy] using d2, shp_shaped hc.1, by have := shp_shaped hl; simpa [toPy] using this, ?_⟩ I rx ry
      rw [anyPy hc.1 ys hc.2]
      exact q
  · cases e
theorem cd_isin (hu : X.A.units + 65 < cLine) : CpD X (compareOp .In) (D.cop .isin) := by
  intro O hp dx dy b e pins s σ H x y v u Q I rx ry ⟨rh, bx, by_, q⟩
  cases dy with
  | str z =>
    cases dx with
    | str a =>
      cases e
      exact op_in_str pins s σ H x y v u Q I rx ry ⟨a, z, bx.str, by_.str, q⟩
    | _ => cases e
  | tup ys =>
    have e' : D.isIn dx ys = some b := by cases dx <;> exact e
    exact isin_tup (neg := false) (hp := hp) op_in_seq e' I rx ry bx by_ q
  | lst ys =>
    have e' : D.isInL dx ys = some b := by cases dx <;> exact e
    exact isin_lst (neg := false) (hp := hp) op_in_seq (fun {H x y Q} h {pins s σ v u} I rx ry => op_inD hu pins s σ H x y v u Q I rx ry h) e' I rx ry bx by_ q
  | dct t ks vs =>
    have e' : (if keyOk t dx = true then some (lookD dx ks vs).isSome else none) = some b := by cases dx <;> exact e
    split at e'
    · rename_i ok
      cases e'
      obtain ⟨a, o, rfl, g, eo, _⟩ := by_.dget bx ok
      obtain rfl : u = Value.ref a := ry
      refine d_in (by omega) I g rx fun s3 I3 => ⟨.bl o.isSome, H, I3, rfl, ?_⟩
      rw [eo]; exact q
    · cases e'
  | _ => cases dx <;> cases e
theorem cd_notin (hu : X.A.units + 65 < cLine) : CpD X (compareOp .NotIn) (D.cop .notin) := by
  intro O hp dx dy b e pins s σ H x y v u Q I rx ry ⟨rh, bx, by_, q⟩
  cases dy with
  | str z =>
    cases dx with
    | str a =>
      cases e
      exact op_notin_str pins s σ H x y v u Q I rx ry ⟨a, z, bx.str, by_.str, q⟩
    | _ => cases e
  | tup ys =>
    have e' : ∃ c, D.isIn dx ys = some c ∧ b = !c := by
      have : (D.isIn dx ys).map (!·) = some b := by cases dx <;> exact e
      obtain ⟨c, h1, h2⟩ := Option.map_eq_some_iff.mp this
      exact ⟨c, h1, h2.symm⟩
    obtain ⟨c, e1, rfl⟩ := e'
    exact isin_tup (neg := true) (hp := hp) op_notIn_seq e1 I rx ry bx by_ q
  | lst ys =>
    have e' : ∃ c, D.isInL dx ys = some c ∧ b = !c := by
      have : (D.isInL dx ys).map (!·) = some b := by cases dx <;> exact e
      obtain ⟨c, h1, h2⟩ := Option.map_eq_some_iff.mp this
      exact ⟨c, h1, h2.symm⟩
    obtain ⟨c, e1, rfl⟩ := e'
    exact isin_lst (neg := true) (hp := hp) op_notIn_seq (fun {H x y Q} h {pins s σ v u} I rx ry => op_notInD hu pins s σ H x y v u Q I rx ry h) e1 I rx ry bx by_ q
  | dct t ks vs =>
    have e' : (if keyOk t dx = true then some (!(lookD dx ks vs).isSome) else none) = some b := by cases dx <;> exact e
    split at e'
    · rename_i ok
      cases e'
      obtain ⟨a, o, rfl, g, eo, _⟩ := by_.dget bx ok
      obtain rfl : u = Value.ref a := ry
      refine d_notIn (by omega) I g rx fun s3 I3 => ⟨.bl (!o.isSome), H, I3, rfl, ?_⟩
      rw [eo]; exact q
    · cases e'
  | _ => cases dx <;> cases e

/-! truth -/
theorem tru_of {K : PySem.W.Frag} {H : Hp} {O : OM} {hp : AH} {v : V} {d : D} {r : Option (ER Bool)} (rh : RepH K H O hp) (e : truthy d hp = r) (b : RpB K H O v d) : r = none ∨ ∃ k, r = some (.ok k hp) ∧ TruV K v H k := by
  subst e
  cases d with
  | non => rw [b.non]; exact .inr ⟨false, rfl, rfl⟩
  | bl k => rw [b.bl]; exact .inr ⟨k, rfl, rfl⟩
  | int i => rw [b.int]; exact .inr ⟨_, rfl, rfl⟩
  | str x =>
    rw [b.str]
    simp only [truthy]
    split
    · rename_i hl; exact .inr ⟨_, rfl, hl, rfl⟩
    · exact .inl rfl
  | tup ds => obtain ⟨a, vs, rfl, t, r⟩ := b.tup; exact .inr ⟨_, rfl, .inr (.inl ⟨vs, t.sq, by rw [r.isEmpty]⟩)⟩
  | lst ds => obtain ⟨a, vs, rfl, t, r⟩ := b.list; exact .inr ⟨_, rfl, .inl ⟨vs, .inl (.inl t), by rw [r.isEmpty]⟩⟩
  | fz ds => obtain ⟨a, vs, rfl, t, r⟩ := b.fz; exact .inr ⟨_, rfl, .inl ⟨vs, t.sq, by rw [r.isEmpty]⟩⟩
  | ref i =>
    obtain ⟨a, rfl, ea⟩ := b.ref
    simp only [truthy]
    cases q : hp[i]? with
    | none => exact .inl rfl
    | some o =>
      cases o with
      | lst ds =>
        obtain ⟨a', e', vs, h1, h2⟩ := rh.hp i _ q
        rw [ea] at e'; cases e'
        exact .inr ⟨_, rfl, .inl ⟨vs, .inl (.inl h1), by rw [h2.isEmpty]⟩⟩
      | ins c fs => exact .inl rfl
  | dct t ks vs => exact .inl rfl
end
end Mi

set_option Elab.async false
set_option linter.all false
set_option maxRecDepth 100000
set_option maxHeartbeats 4000000
/-! Mi over the hand layer: expressions, second part. -/
namespace Mi
open PySem PySem.Spec PyProof.Rows L2
section
variable {X : Cx} {CM : Str → Option Addr} {own : Nat → Bool} {W : WX} {C : Nat → List D → M D}
theorem EvG.lift {α β : Type} {K : PySem.W.Frag} {rel : Hp → OM → β → α → Prop} {O : OM} {H : Hp} {σ : L2.St} {o : Option α} {h : AH} {Q : β → Hp → Prop} (p : EvG K CM W rel O H σ (M.lift o h) Q) : ∃ a, o = some a ∧ EvG K CM W rel O H σ (some (.ok a h)) Q := by
  cases o with
  | none => exact p.elim
  | some a => exact ⟨a, rfl, p⟩
theorem ej_cmp {a b : Expr} {ma mb : ME} {op : CmpOp} {o : COp} {pos : Pos} (ho : CpD X (compareOp op) (D.cop o)) (ha : EB X CM own W C a ma) (hb : EB X CM own W C b mb) (hm : behindInMarks op b = false) : EJ X CM own W C (.Compare a [op] [b] pos) (.cmp o ma mb) :=
  TG.imp (pe_cmpR (ej_op2 ho.od) ha hb hm) fun σ H Q h => two (fun ρ => by simp only [ev]) h
/-- a comparison's answer -/
theorem cp_or {f : Value → Value → Sem Value} {g : D → D → Option Bool} (h : CpD X f g) : OpR X f fun x y H Q => ∃ (O : OM) (hp : AH) (dx dy : D) (b : Bool), g dx dy = some b ∧ RepH X.K H O hp ∧ RpB X.K H O x dx ∧ RpB X.K H O y dy ∧ Q (.bl b) H :=
  fun pins s σ H x y v u Q I rx ry ⟨O, hp, dx, dy, b, e, q⟩ => h O hp dx dy b e pins s σ H x y v u Q I rx ry q
theorem et_cmp {a b : Expr} {ma mb : ME} {op : CmpOp} {o : COp} {pos : Pos} (ho : CpD X (compareOp op) (D.cop o)) (ha : EB X CM own W C a ma) (hb : EB X CM own W C b mb) (hm : behindInMarks op b = false) : ET X CM own W C (.Compare a [op] [b] pos) (.cmp o ma mb) :=
  TT.imp (pt_cmpR (cp_or ho) ha hb hm) fun σ H Q ⟨ρ, O, hp, re, rh, p⟩ => by
    simp only [tst] at p
    refine ⟨ρ, O, hp, re, rh, (EvG.bind p).imp fun x H1 ⟨O1, h1, dx, s1, rh1, r1, p1⟩ => ⟨ρ, O1, h1, re.step s1, rh1, (EvG.bind p1).imp fun y H2 ⟨O2, h2, dy, s2, rh2, r2, p2⟩ => ?_⟩⟩
    obtain ⟨b, e, p3⟩ := EvG.lift p2
    exact ⟨O2, h2, dx, dy, b, e, rh2, r1.step s2, r2, b, rfl, EvG.ok p3 rh2 rfl⟩
theorem chn_read {ma mb mc : ME} {o p : COp} {σ : L2.St} {H : Hp} {Q : VK} {rel : Hp → OM → Bool → D → Prop}
    (h : tG X.K CM own W (rV X.K) (ev C (.chn o p ma mb mc)) σ H Q) :
    tChain (fun x y H Q => ∃ (O : OM) (hp : AH) (dx dy : D) (b : Bool), D.cop o dx dy = some b ∧ RepH X.K H O hp ∧ RpB X.K H O x dx ∧ RpB X.K H O y dy ∧ Q (.bl b) H)
      (fun x y H Q => ∃ (O : OM) (hp : AH) (dx dy : D) (b : Bool), D.cop p dx dy = some b ∧ RepH X.K H O hp ∧ RpB X.K H O x dx ∧ RpB X.K H O y dy ∧ Q (.bl b) H)
      (tG X.K CM own W (rB X.K) (ev C ma)) (tG X.K CM own W (rB X.K) (ev C mb)) (tG X.K CM own W (rB X.K) (ev C mc)) σ H Q := by
  obtain ⟨ρ, O, hp, re, rh, pp⟩ := h
  simp only [ev] at pp
  refine ⟨ρ, O, hp, re, rh, (EvG.bind pp).imp fun x H1 ⟨O1, h1, dx, s1, rh1, r1, p1⟩ => ⟨ρ, O1, h1, re.step s1, rh1, (EvG.bind p1).imp fun y H2 ⟨O2, h2, dy, s2, rh2, r2, p2⟩ => ?_⟩⟩
  cases e : D.cop o dx dy with
  | none => rw [e] at p2; exact p2.elim
  | some k =>
    rw [e] at p2
    simp only [M.bind_def, M.lift_some, M.bd_ok] at p2
    refine ⟨O2, h2, dx, dy, k, e, rh2, r1.step s2, r2, k, rfl, ?_⟩
    cases k with
    | false =>
      rw [if_neg Bool.false_ne_true] at p2 ⊢
      exact EvG.ok p2 rh2 (.bl _)
    | true =>
      rw [if_pos rfl] at p2 ⊢
      refine ⟨ρ, O2, h2, (re.step s1).step s2, rh2, (EvG.bind p2).imp fun z H3 ⟨O3, h3, dz, s3, rh3, r3, p3⟩ => ?_⟩
      obtain ⟨b, e2, p4⟩ := EvG.lift p3
      obtain ⟨c, e3, rfl⟩ := Option.map_eq_some_iff.mp e2
      exact ⟨O3, h3, dy, dz, c, e3, rh3, r2.step s3, r3, EvG.ok p4 rh3 (.bl _)⟩
theorem ej_chn {a b c : Expr} {ma mb mc : ME} {op op' : CmpOp} {o p : COp} {pos : Pos} (ho : CpD X (compareOp op) (D.cop o)) (hp : CpD X (compareOp op') (D.cop p)) (ha : EB X CM own W C a ma) (hb : EB X CM own W C b mb) (hc : EB X CM own W C c mc)
    (hm : lastMarks [op, op'] [b, c] = false) : EJ X CM own W C (.Compare a [op, op'] [b, c] pos) (.chn o p ma mb mc) :=
  TG.imp (pe_chain (cp_or ho) (cp_or hp) ha hb hc hm) fun σ H Q h => chn_read (rel := fun _ _ _ _ => True) h
theorem et_chn {a b c : Expr} {ma mb mc : ME} {op op' : CmpOp} {o p : COp} {pos : Pos} (ho : CpD X (compareOp op) (D.cop o)) (hp : CpD X (compareOp op') (D.cop p)) (ha : EB X CM own W C a ma) (hb : EB X CM own W C b mb) (hc : EB X CM own W C c mc)
    (hm : lastMarks [op, op'] [b, c] = false) : ET X CM own W C (.Compare a [op, op'] [b, c] pos) (.chn o p ma mb mc) :=
  TT.imp (pt_chain (cp_or ho) (cp_or hp) ha hb hc hm) fun σ H Q ⟨ρ, O, hp, re, rh, pp⟩ => by
    simp only [tst] at pp
    refine ⟨ρ, O, hp, re, rh, (EvG.bind pp).imp fun x H1 ⟨O1, h1, dx, s1, rh1, r1, p1⟩ => ⟨ρ, O1, h1, re.step s1, rh1, (EvG.bind p1).imp fun y H2 ⟨O2, h2, dy, s2, rh2, r2, p2⟩ => ?_⟩⟩
    cases e : D.cop o dx dy with
    | none => rw [e] at p2; exact p2.elim
    | some k =>
      rw [e] at p2
      simp only [M.bind_def, M.lift_some, M.bd_ok] at p2
      refine ⟨O2, h2, dx, dy, k, e, rh2, r1.step s2, r2, k, rfl, ?_⟩
      cases k with
      | false =>
        rw [if_neg Bool.false_ne_true] at p2 ⊢
        exact ⟨false, rfl, EvG.ok p2 rh2 rfl⟩
      | true =>
        rw [if_pos rfl] at p2 ⊢
        refine ⟨ρ, O2, h2, (re.step s1).step s2, rh2, (EvG.bind p2).imp fun z H3 ⟨O3, h3, dz, s3, rh3, r3, p3⟩ => ?_⟩
        obtain ⟨b, e2, p4⟩ := EvG.lift p3
        exact ⟨O3, h3, dy, dz, b, e2, rh3, r2.step s3, r3, b, rfl, EvG.ok p4 rh3 rfl⟩

/-! truth -/
theorem et_val {e : Expr} {m : ME} (h : EB X CM own W C e m) (he : ∀ whole, isTrue e X.env whole = (do let v ← whole; standAt e.pos; holding [v] (PySem.truthy v))) (hm : ∀ ρ, tst C m ρ = M.bind (ev C m ρ) truthy) : ET X CM own W C e m :=
  TT.imp (pt_truth h he) fun σ H Q ⟨ρ, O, hp, re, rh, p⟩ => by
    rw [hm] at p
    refine ⟨ρ, O, hp, re, rh, (EvG.bind p).imp fun x H1 ⟨O1, h1, dx, s1, rh1, r1, p1⟩ => ?_⟩
    rcases tru_of rh1 rfl r1 with e1 | ⟨k, e1, t⟩
    · rw [e1] at p1; exact p1.elim
    · rw [e1] at p1
      exact ⟨k, t, EvG.ok p1 rh1 rfl⟩
theorem et_not {a : Expr} {ma : ME} {pos : Pos} (ha : ET X CM own W C a ma) : ET X CM own W C (.UnaryOp .Not a pos) (.not ma) :=
  TT.imp (pt_not ha) fun σ H Q ⟨ρ, O, hp, re, rh, p⟩ => by
    simp only [tst] at p
    exact ⟨ρ, O, hp, re, rh, (EvG.bind p).imp fun k H1 ⟨O1, h1, k', s1, rh1, r1, p1⟩ => by subst r1; exact EvG.ok p1 rh1 rfl⟩
/-- a BoolOp's test, whatever its whole is -/
abbrev EW (X : Cx) (CM : Str → Option Addr) (own : Nat → Bool) (W : WX) (C : Nat → List D → M D) (e : Expr) (m : ME) : Prop := PW X e (tG X.K CM own W rT (tst C m))
theorem TW.imp {e : Expr} {t t' : TT} (h : PW X e t) (i : ∀ σ H Q, t' σ H Q → t σ H Q) : PW X e t' := ⟨fun wh pins s σ H Q I q => h.run wh pins s σ H Q I (i σ H Q q)⟩
theorem ew_and1 {a : Expr} {ma : ME} {pos : Pos} (ha : ET X CM own W C a ma) : EW X CM own W C (.BoolOp .And [a] pos) ma := pw_and1 ha
theorem ew_or1 {a : Expr} {ma : ME} {pos : Pos} (ha : ET X CM own W C a ma) : EW X CM own W C (.BoolOp .Or [a] pos) ma := pw_or1 ha
theorem ew_and {a b : Expr} {r : List Expr} {ma mb : ME} {pos : Pos} (ha : ET X CM own W C a ma) (hb : EW X CM own W C (.BoolOp .And (b :: r) pos) mb) : EW X CM own W C (.BoolOp .And (a :: b :: r) pos) (.and ma mb) :=
  TW.imp (pw_and ha hb) fun σ H Q ⟨ρ, O, hp, re, rh, p⟩ => by
    simp only [tst] at p
    refine ⟨ρ, O, hp, re, rh, (EvG.bind p).imp fun k H1 ⟨O1, h1, k', s1, rh1, r1, p1⟩ => ?_⟩
    subst r1
    cases k with
    | false => rw [if_neg Bool.false_ne_true] at p1 ⊢; exact EvG.ok p1 rh1 rfl
    | true => rw [if_pos rfl] at p1 ⊢; exact ⟨ρ, O1, h1, re.step s1, rh1, p1⟩
theorem ew_or {a b : Expr} {r : List Expr} {ma mb : ME} {pos : Pos} (ha : ET X CM own W C a ma) (hb : EW X CM own W C (.BoolOp .Or (b :: r) pos) mb) : EW X CM own W C (.BoolOp .Or (a :: b :: r) pos) (.or ma mb) :=
  TW.imp (pw_or ha hb) fun σ H Q ⟨ρ, O, hp, re, rh, p⟩ => by
    simp only [tst] at p
    refine ⟨ρ, O, hp, re, rh, (EvG.bind p).imp fun k H1 ⟨O1, h1, k', s1, rh1, r1, p1⟩ => ?_⟩
    subst r1
    cases k with
    | true => rw [if_pos rfl] at p1 ⊢; exact EvG.ok p1 rh1 rfl
    | false => rw [if_neg Bool.false_ne_true] at p1 ⊢; exact ⟨ρ, O1, h1, re.step s1, rh1, p1⟩
/-! and, or, not, if as values -/
theorem ej_one {a : Expr} {ma : ME} {op : BoolOp} {pos : Pos} (ha : EJ X CM own W C a ma) : EJ X CM own W C (.BoolOp op [a] pos) ma := pe_one ha
theorem ej_and {a b : Expr} {r : List Expr} {ma mb : ME} {pos : Pos} (ha : EJ X CM own W C a ma) (hb : EJ X CM own W C (.BoolOp .And (b :: r) pos) mb) : EJ X CM own W C (.BoolOp .And (a :: b :: r) pos) (.and ma mb) :=
  TG.imp (pe_andT ha hb) fun σ H Q ⟨ρ, O, hp, re, rh, p⟩ => by
    simp only [ev] at p
    refine ⟨ρ, O, hp, re, rh, (EvG.bind p).imp fun x H1 ⟨O1, h1, dx, s1, rh1, r1, p1⟩ => ?_⟩
    rcases tru_of rh1 rfl (.rp r1) with e1 | ⟨k, e1, t⟩
    · rw [M.bind_def, e1] at p1; exact p1.elim
    · rw [M.bind_def, e1, M.bd_ok] at p1
      refine ⟨k, t, ?_⟩
      cases k with
      | false => rw [if_neg Bool.false_ne_true] at p1 ⊢; exact EvG.ok p1 rh1 r1
      | true => rw [if_pos rfl] at p1 ⊢; exact ⟨ρ, O1, h1, re.step s1, rh1, p1⟩
theorem ej_or {a b : Expr} {r : List Expr} {ma mb : ME} {pos : Pos} (ha : EJ X CM own W C a ma) (hb : EJ X CM own W C (.BoolOp .Or (b :: r) pos) mb) : EJ X CM own W C (.BoolOp .Or (a :: b :: r) pos) (.or ma mb) :=
  TG.imp (pe_orT ha hb) fun σ H Q ⟨ρ, O, hp, re, rh, p⟩ => by
    simp only [ev] at p
    refine ⟨ρ, O, hp, re, rh, (EvG.bind p).imp fun x H1 ⟨O1, h1, dx, s1, rh1, r1, p1⟩ => ?_⟩
    rcases tru_of rh1 rfl (.rp r1) with e1 | ⟨k, e1, t⟩
    · rw [M.bind_def, e1] at p1; exact p1.elim
    · rw [M.bind_def, e1, M.bd_ok] at p1
      refine ⟨k, t, ?_⟩
      cases k with
      | true => rw [if_pos rfl] at p1 ⊢; exact EvG.ok p1 rh1 r1
      | false => rw [if_neg Bool.false_ne_true] at p1 ⊢; exact ⟨ρ, O1, h1, re.step s1, rh1, p1⟩
theorem ej_not {a : Expr} {ma : ME} {pos : Pos} (ha : EB X CM own W C a ma) (hm : ∀ ρ, tst C ma ρ = M.bind (ev C ma ρ) truthy) : EJ X CM own W C (.UnaryOp .Not a pos) (.not ma) :=
  TG.imp (pe_notT ha) fun σ H Q ⟨ρ, O, hp, re, rh, p⟩ => by
    simp only [ev] at p
    rw [hm] at p
    refine ⟨ρ, O, hp, re, rh, ?_⟩
    have p' : EvG X.K CM W (rV X.K) O H σ (M.bd (ev C ma ρ hp) fun x => M.bind (truthy x) fun k => M.ret (.bl (!k))) Q := by
      cases q : ev C ma ρ hp with
      | none => simp only [M.bind_def, q] at p; exact p
      | some y =>
        cases y with
        | ok d h' => simp only [M.bind_def, q, M.bd_ok] at p ⊢; exact p
        | exc c fs h' => simp only [M.bind_def, q, M.bd_exc] at p ⊢; exact p
    refine (EvG.bind p').imp fun x H1 ⟨O1, h1, dx, s1, rh1, r1, p1⟩ => ?_
    rcases tru_of rh1 rfl r1 with e1 | ⟨k, e1, t⟩
    · rw [M.bind_def, e1] at p1; exact p1.elim
    · rw [M.bind_def, e1, M.bd_ok] at p1
      exact ⟨k, t, EvG.ok p1 rh1 (.bl _)⟩
theorem ej_ife {c a b : Expr} {mc ma mb : ME} {pos : Pos} (hc : ET X CM own W C c mc) (ha : EJ X CM own W C a ma) (hb : EJ X CM own W C b mb) : EJ X CM own W C (.IfExp c a b pos) (.ife mc ma mb) :=
  TG.imp (pe_ifExp hc ha hb) fun σ H Q ⟨ρ, O, hp, re, rh, p⟩ => by
    simp only [ev] at p
    refine ⟨ρ, O, hp, re, rh, (EvG.bind p).imp fun k H1 ⟨O1, h1, k', s1, rh1, r1, p1⟩ => ?_⟩
    subst r1
    cases k with
    | false => rw [if_neg Bool.false_ne_true] at p1 ⊢; exact ⟨ρ, O1, h1, re.step s1, rh1, p1⟩
    | true => rw [if_pos rfl] at p1 ⊢; exact ⟨ρ, O1, h1, re.step s1, rh1, p1⟩
theorem ej_neg {a : Expr} {ma : ME} {pos : Pos} (ha : EJ X CM own W C a ma) : EJ X CM own W C (.UnaryOp .USub a pos) (.neg ma) :=
  TG.imp (pe_un un_neg ha) fun σ H Q ⟨ρ, O, hp, re, rh, p⟩ => by
    simp only [ev] at p
    refine ⟨ρ, O, hp, re, rh, (EvG.bind p).imp fun x H1 ⟨O1, h1, dx, s1, rh1, r1, p1⟩ => ?_⟩
    cases dx with
    | int i =>
      have e := (RpB.rp r1).int
      subst e
      exact ⟨i, rfl, EvG.ok p1 rh1 (.int _)⟩
    | _ => exact p1.elim
/-! lists of expressions, displays -/
theorem ejs_nil : EJs X CM own W C [] .nil := TA.imp pa_nil fun σ H Q ⟨ρ, O, hp, re, rh, p⟩ => by
  simp only [evs] at p
  exact EvG.ok p rh .nil
theorem ejs_cons {e : Expr} {es : List Expr} {m : ME} {ms : MEs} (he : EJ X CM own W C e m) (hs : EJs X CM own W C es ms) (h1 : starEach (e :: es) X.env = (false, eval e X.env) :: starEach es X.env) : EJs X CM own W C (e :: es) (.cons m ms) :=
  TA.imp (pa_cons he hs h1) fun σ H Q ⟨ρ, O, hp, re, rh, p⟩ => by
    simp only [evs] at p
    refine ⟨ρ, O, hp, re, rh, (EvG.bind p).imp fun x H1 ⟨O1, h1, dx, s1, rh1, r1, p1⟩ => ⟨ρ, O1, h1, re.step s1, rh1, (EvG.bind p1).imp fun xs H2 ⟨O2, h2, ds, s2, rh2, r2, p2⟩ => ?_⟩⟩
    exact EvG.ok p2 rh2 (.cons (r1.step s2) r2)
theorem ej_tup {es : List Expr} {ms : MEs} {k : Nat} {pos : Pos} (h : EJs X CM own W C es ms) : EJ X CM own W C (.Tuple es k pos) (.tup ms) :=
  TG.imp (pe_tup h) fun σ H Q ⟨ρ, O, hp, re, rh, p⟩ => by
    simp only [ev] at p
    refine ⟨ρ, O, hp, re, rh, (EvG.bind p).imp fun xs H1 ⟨O1, h1, ds, s1, rh1, r1, p1⟩ => ?_⟩
    split at p1
    · rename_i hl
      refine ⟨by rw [r1.length]; exact hl, fun q hq => ?_⟩
      have st : Step O1 H1 O1 (upd H1 q (.tup xs)) := Step.new_tup (xs := []) rh1 hq _
      exact EvG.okn p1 rh1 hq (.tup (.inl ⟨.inl upd_same, rh1.fresh hq⟩) (r1.step st))
    · exact p1.elim
theorem ej_lst {es : List Expr} {ms : MEs} {pos : Pos} (h : EJs X CM own W C es ms) : EJ X CM own W C (.List es pos) (.lst ms) :=
  TG.imp (pe_lst h) fun σ H Q ⟨ρ, O, hp, re, rh, p⟩ => by
    simp only [ev] at p
    refine ⟨ρ, O, hp, re, rh, (EvG.bind p).imp fun xs H1 ⟨O1, h1, ds, s1, rh1, r1, p1⟩ => ?_⟩
    split at p1
    · rename_i hl
      refine ⟨by rw [r1.length]; exact hl, fun q hq => ?_⟩
      have st : Step O1 H1 O1 (upd H1 q (.lst xs)) := Step.new_tup (xs := []) rh1 hq _
      exact EvG.okn p1 rh1 hq (.lst ⟨upd_same, rh1.fresh hq⟩ (r1.step st))
    · exact p1.elim
end
end Mi

set_option Elab.async false
set_option linter.all false
set_option maxRecDepth 100000
set_option maxHeartbeats 4000000
/-! Mi over the hand layer: subscripts, slices, built-ins. -/
namespace Mi
open PySem PySem.Spec PyProof.Rows L2
inductive RpBs (K : PySem.W.Frag) (H : Hp) (O : OM) : List V → List D → Prop
  | nil : RpBs K H O [] []
  | cons {v : V} {vs : List V} {d : D} {ds : List D} : RpB K H O v d → RpBs K H O vs ds → RpBs K H O (v :: vs) (d :: ds)
abbrev rBs (K : PySem.W.Frag) : Hp → OM → List V → List D → Prop := fun H O v d => RpBs K H O v d
theorem RpBs.one {K : PySem.W.Frag} {H : Hp} {O : OM} {vs : List V} {d : D} (r : RpBs K H O vs [d]) : ∃ v, vs = [v] ∧ RpB K H O v d := by
  cases r with | cons a b => cases b; exact ⟨_, rfl, a⟩
theorem RpBs.two {K : PySem.W.Frag} {H : Hp} {O : OM} {vs : List V} {d e : D} (r : RpBs K H O vs [d, e]) : ∃ v w, vs = [v, w] ∧ RpB K H O v d ∧ RpB K H O w e := by
  cases r with | cons a b => cases b with | cons c d => cases d; exact ⟨_, _, rfl, a, c⟩
theorem atI_rp {K : PySem.W.Frag} {H : Hp} {O : OM} {vs : List V} {ds : List D} {i : Int} {d : D} (r : Rps K H O vs ds) (e : atI ds i = some d) : ∃ v, atI vs i = some v ∧ Rp K H O v d := by
  unfold atI at e ⊢
  rw [r.length]
  cases q : ixN ds.length i with
  | none => rw [q] at e; cases e
  | some j => rw [q] at e; exact r.get (i := j) e
section
variable {X : Cx} {CM : Str → Option Addr} {own : Nat → Bool} {W : WX} {C : Nat → List D → M D}
abbrev EBs (X : Cx) (CM : Str → Option Addr) (own : Nat → Bool) (W : WX) (C : Nat → List D → M D) (es : List Expr) (m : MEs) : Prop := PA X es (tG X.K CM own W (rBs X.K) (evs C m))
theorem ebs_nil : EBs X CM own W C [] .nil := TA.imp pa_nil fun σ H Q ⟨ρ, O, hp, re, rh, p⟩ => by
  simp only [evs] at p
  exact EvG.ok p rh .nil
theorem ebs_cons {e : Expr} {es : List Expr} {m : ME} {ms : MEs} (he : EB X CM own W C e m) (hs : EBs X CM own W C es ms) (h1 : starEach (e :: es) X.env = (false, eval e X.env) :: starEach es X.env) : EBs X CM own W C (e :: es) (.cons m ms) :=
  TA.imp (pa_cons he hs h1) fun σ H Q ⟨ρ, O, hp, re, rh, p⟩ => by
    simp only [evs] at p
    refine ⟨ρ, O, hp, re, rh, (EvG.bind p).imp fun x H1 ⟨O1, h1, dx, s1, rh1, r1, p1⟩ => ⟨ρ, O1, h1, re.step s1, rh1, (EvG.bind p1).imp fun xs H2 ⟨O2, h2, ds, s2, rh2, r2, p2⟩ => ?_⟩⟩
    exact EvG.ok p2 rh2 (.cons (r1.step s2) r2)
/-! subscripts -/
/-- the evaluator's own subscript of a value -/
def ixM (x k : D) : M D := match x with
  | .ref r => fun h => match h[r]? with
    | some (.lst ds) => M.lift (D.ix (.lst ds) k) h
    | _ => none
  | _ => M.lift (D.ix x k)
theorem ix_r : IxR X fun x y H Q => ∃ (CM : Str → Option Addr) (W : WX) (O : OM) (hp : AH) (σ : L2.St) (dx dy : D), RepH X.K H O hp ∧ RpB X.K H O x dx ∧ RpB X.K H O y dy ∧ EvG X.K CM W (rV X.K) O H σ (ixM dx dy hp) Q := by
  intro vE sE pins s σ H x y v u Q I rx ry ⟨CM, W, O, hp, σ', dx, dy, rh, bx, by_, p⟩ hsub
  have dc : ∀ t ks vs, dx = .dct t ks vs → wpAny (model X.prog X.w) X.A (subscriptTail vE sE v u) (EP X pins σ Q) X.xe s := fun t ks vs ed => by
    subst ed
    obtain ⟨d, e, p'⟩ := EvG.lift p
    simp only [D.ix] at e
    split at e
    · rename_i ok
      obtain ⟨rfl, k, ek⟩ := keyOk_K ok
      obtain ⟨rfl, rfl⟩ := key_val by_ ek
      obtain ⟨a, kvs, rfl, h, rfl, r⟩ := bx.dct
      obtain ⟨v', l, rv⟩ := (look_K k kvs vs r).1 d e
      obtain rfl : v = Value.ref a := rx
      have g := d_getK (A := X.A) (E := X.xe) (Q := EP X pins σ Q) I h l ry fun w' s' I' rw' => ⟨v', H, I', rw', EvG.ok p' rh rv⟩
      exact tail_any g.1 PySem.F.slot_dict_getitem.lookup g.2 hsub
    · cases e
  cases dy with
  | int k =>
    have ey := by_.int
    subst ey
    cases dx with
    | tup ds =>
      obtain ⟨a, vs, rfl, t, r⟩ := bx.tup
      obtain ⟨d, e, p'⟩ := EvG.lift p
      obtain ⟨w, e', rw'⟩ := atI_rp r e
      exact ix_tup vE sE pins s σ H _ _ v u Q I rx ry ⟨a, vs, k, w, rfl, rfl, t.sq, e', EvG.ok p' rh rw'⟩ hsub
    | lst ds =>
      obtain ⟨a, vs, rfl, t, r⟩ := bx.list
      obtain ⟨d, e, p'⟩ := EvG.lift p
      obtain ⟨w, e', rw'⟩ := atI_rp r e
      exact ix_list vE sE pins s σ H _ _ v u Q I rx ry ⟨a, vs, k, w, rfl, rfl, .inl (.inl t), e', EvG.ok p' rh rw'⟩ hsub
    | fz ds =>
      obtain ⟨a, vs, rfl, t, r⟩ := bx.fz
      obtain ⟨d, e, p'⟩ := EvG.lift p
      obtain ⟨w, e', rw'⟩ := atI_rp r e
      exact ix_list vE sE pins s σ H _ _ v u Q I rx ry ⟨a, vs, k, w, rfl, rfl, t.sq, e', EvG.ok p' rh rw'⟩ hsub
    | str z =>
      have ex := bx.str
      subst ex
      obtain ⟨d, e, p'⟩ := EvG.lift p
      simp only [D.ix] at e
      split at e
      · rename_i hl
        obtain ⟨c, e1, rfl⟩ := Option.map_eq_some_iff.mp e
        exact ix_str vE sE pins s σ H _ _ v u Q I rx ry ⟨z, k, c, rfl, rfl, hl, e1, EvG.ok p' rh (.str _)⟩ hsub
      · cases e
    | ref r =>
      obtain ⟨a, rfl, ea⟩ := bx.ref
      simp only [ixM] at p
      cases q : hp[r]? with
      | none => rw [q] at p; exact p.elim
      | some o =>
        rw [q] at p
        cases o with
        | ins c fs => exact p.elim
        | lst ds =>
          obtain ⟨a', e', vs, h1, h2⟩ := rh.hp r _ q
          rw [ea] at e'; cases e'
          obtain ⟨d, e, p'⟩ := EvG.lift p
          obtain ⟨w, e', rw'⟩ := atI_rp h2 e
          exact ix_list vE sE pins s σ H _ _ v u Q I rx ry ⟨a, vs, k, w, rfl, rfl, .inl (.inl h1), e', EvG.ok p' rh rw'⟩ hsub
    | dct t ks vs => exact dc t ks vs rfl
    | _ => exact p.elim
  | _ =>
    cases dx with
    | ref r =>
      exfalso
      simp only [ixM] at p
      cases q : hp[r]? with
      | none => rw [q] at p; exact p
      | some o =>
        rw [q] at p
        cases o <;> exact p
    | dct t ks vs => exact dc t ks vs rfl
    | _ => exact p.elim
theorem ej_ix {a i : Expr} {ma mi : ME} {pos : Pos} (ha : EB X CM own W C a ma) (hi : EB X CM own W C i mi) (hs : PlainIx i) : EJ X CM own W C (.Subscript a i pos) (.ix ma mi) :=
  TG.imp (pe_ix ix_r ha hi hs) fun σ H Q ⟨ρ, O, hp, re, rh, p⟩ => by
    have e : ev C (.ix ma mi) ρ = M.bind (ev C ma ρ) fun x => M.bind (ev C mi ρ) fun k => ixM x k := by
      simp only [ev]; rfl
    rw [e] at p
    exact ⟨ρ, O, hp, re, rh, (EvG.bind p).imp fun x H1 ⟨O1, h1, dx, s1, rh1, r1, p1⟩ => ⟨ρ, O1, h1, re.step s1, rh1, (EvG.bind p1).imp fun y H2 ⟨O2, h2, dy, s2, rh2, r2, p2⟩ => ⟨CM, W, O2, h2, σ, dx, dy, rh2, r1.step s2, r2, p2⟩⟩⟩
/-! slices -/
theorem cutD_len {vs : List V} {ds : List D} {K : PySem.W.Frag} {H : Hp} {O : OM} (r : Rps K H O vs ds) (l u : Option Int) : Rps K H O (cutV vs l u) (cutD ds l u) := by
  unfold cutV cutD
  rw [r.length]
  exact (r.drop _).take _
theorem sl_r : SlR X fun x l u H Q => ∃ (CM : Str → Option Addr) (W : WX) (O : OM) (hp : AH) (σ : L2.St) (dx : D), RepH X.K H O hp ∧ RpB X.K H O x dx ∧ EvG X.K CM W (rV X.K) O H σ (M.lift (cutOf dx l u) hp) Q := by
  intro pins s σ H x v vl vu lo hi sl Q I rx hs pl pu ⟨CM, W, O, hp, σ', dx, rh, bx, p⟩
  obtain ⟨d, e, p'⟩ := EvG.lift p
  cases dx with
  | tup ds =>
    cases e
    obtain ⟨a, vs, rfl, t, r⟩ := bx.tup
    refine sl_tupA pins s σ H _ v vl vu lo hi sl Q I rx hs pl pu ⟨a, vs, rfl, t.sq, fun ⟨h1, h2⟩ => ?_, fun _ q hq => ?_⟩
    · refine EvG.ok p' rh ?_
      have ec : cutV vs lo hi = vs := by
        unfold cutV
        rw [h1, h2]
        simp
      have := cutD_len r lo hi
      rw [ec] at this
      exact .tup t this
    · have st : Step O H O (upd H q (.tup (cutV vs lo hi))) := Step.new_tup (xs := []) rh hq _
      exact EvG.okn p' rh hq (.tup (.inl ⟨.inl upd_same, rh.fresh hq⟩) ((cutD_len r lo hi).step st))
  | lst ds =>
    cases e
    obtain ⟨a, vs, rfl, t, r⟩ := bx.list
    refine sl_list pins s σ H _ v vl vu lo hi sl Q I rx hs pl pu ⟨a, vs, rfl, .inl (.inl t), fun q hq => ?_⟩
    have st : Step O H O (upd H q (.lst (cutV vs lo hi))) := Step.new_tup (xs := []) rh hq _
    exact EvG.okn p' rh hq (.lst ⟨upd_same, rh.fresh hq⟩ ((cutD_len r lo hi).step st))
  | str z =>
    have ex := bx.str
    subst ex
    simp only [cutOf] at e
    split at e
    · rename_i hl
      cases e
      exact sl_str pins s σ H _ v vl vu lo hi sl Q I rx hs pl pu ⟨z, rfl, hl, EvG.ok p' rh (.str _)⟩
    · cases e
  | _ => cases e
/-- a part of a slice -/
def evp (C : Nat → List D → M D) (m : MEs) (ρ : Env) : M (Option Int) := M.bind (evs C m ρ) fun l => M.lift (part? l)
abbrev rE {α : Type} : Hp → OM → α → α → Prop := fun _ _ v d => v = d
abbrev EO (X : Cx) (CM : Str → Option Addr) (own : Nat → Bool) (W : WX) (C : Nat → List D → M D) (e : Option Expr) (m : MEs) : Prop := PO X e (tG X.K CM own W rE (evp C m))
theorem TO.imp {e : Option Expr} {t t' : TO} (h : PO X e t) (i : ∀ σ H Q, t' σ H Q → t σ H Q) : PO X e t' := ⟨fun pins s σ H Q I q => h.run pins s σ H Q I (i σ H Q q)⟩
theorem eo_none : EO X CM own W C none .nil := TO.imp po_none fun σ H Q ⟨ρ, O, hp, re, rh, p⟩ => by
  have e : evp C .nil ρ hp = some (.ok none hp) := by simp [evp, evs, part?]
  rw [e] at p
  exact EvG.ok p rh rfl
theorem eo_some {e : Expr} {m : ME} (h : EJ X CM own W C e m) : EO X CM own W C (some e) (.cons m .nil) := TO.imp (po_some h) fun σ H Q ⟨ρ, O, hp, re, rh, p⟩ => by
  have e : evp C (.cons m .nil) ρ hp = M.bd (ev C m ρ hp) fun x => M.lift (part? [x]) := by
    simp only [evp, evs, M.bind_def]
    cases ev C m ρ hp with
    | none => rfl
    | some y => cases y <;> rfl
  rw [e] at p
  refine ⟨ρ, O, hp, re, rh, (EvG.bind p).imp fun x H1 ⟨O1, h1, dx, s1, rh1, r1, p1⟩ => ?_⟩
  obtain ⟨k, e2, p2⟩ := EvG.lift p1
  cases dx with
  | int i =>
    cases e2
    exact ⟨i, (RpB.rp r1).int, EvG.ok p2 rh1 rfl⟩
  | _ => cases e2
theorem ej_sl {a : Expr} {lo hi : Option Expr} {ma : ME} {ml mu : MEs} {p2 pos : Pos} (ha : EB X CM own W C a ma) (hl : EO X CM own W C lo ml) (hu : EO X CM own W C hi mu) : EJ X CM own W C (.Subscript a (.Slice lo hi none p2) pos) (.sl ma ml mu) :=
  TG.imp (pe_slice sl_r ha hl hu) fun σ H Q ⟨ρ, O, hp, re, rh, p⟩ => by
    have e : ev C (.sl ma ml mu) ρ = M.bind (ev C ma ρ) fun x => M.bind (evp C ml ρ) fun l => M.bind (evp C mu ρ) fun u => M.lift (cutOf x l u) := by
      simp only [ev]; rfl
    rw [e] at p
    refine ⟨ρ, O, hp, re, rh, (EvG.bind p).imp fun x H1 ⟨O1, h1, dx, s1, rh1, r1, p1⟩ => ⟨ρ, O1, h1, re.step s1, rh1, (EvG.bind p1).imp fun l H2 ⟨O2, h2, l', s2, rh2, r2, p2⟩ => ⟨ρ, O2, h2, (re.step s1).step s2, rh2, (EvG.bind p2).imp fun u H3 ⟨O3, h3, u', s3, rh3, r3, p3⟩ => ?_⟩⟩⟩
    subst r2; subst r3
    exact ⟨CM, W, O3, h3, σ, dx, rh3, (r1.step s2).step s3, p3⟩
/-! built-ins -/
/-- a built-in by the evaluator's own -/
def BiD (X : Cx) (f : Value) (g : List D → AH → Option (ER D)) : Prop := ∀ (CM : Str → Option Addr) (W : WX) (O : OM) (hp : AH) (σ : L2.St) (ds : List D),
  CallR X f fun xs H Q => RepH X.K H O hp ∧ RpBs X.K H O xs ds ∧ EvG X.K CM W (rV X.K) O H σ (g ds hp) Q
theorem BiD.call {f : Value} {g : List D → AH → Option (ER D)} (h : BiD X f g) : CallR X f fun xs H Q => ∃ (CM : Str → Option Addr) (W : WX) (O : OM) (hp : AH) (σ : L2.St) (ds : List D), RepH X.K H O hp ∧ RpBs X.K H O xs ds ∧ EvG X.K CM W (rV X.K) O H σ (g ds hp) Q :=
  fun pins s σ H xs us Q I r ⟨CM, W, O, hp, σ', ds, q⟩ => h CM W O hp σ' ds pins s σ H xs us Q I r q
theorem bi_read {f : Bi} {m : MEs} {σ : L2.St} {H : Hp} {Q : VK} (h : tG X.K CM own W (rV X.K) (ev C (.bi f m)) σ H Q) :
    tCB (fun xs H Q => ∃ (CM : Str → Option Addr) (W : WX) (O : OM) (hp : AH) (σ : L2.St) (ds : List D), RepH X.K H O hp ∧ RpBs X.K H O xs ds ∧ EvG X.K CM W (rV X.K) O H σ (biOf f ds hp) Q) (tG X.K CM own W (rBs X.K) (evs C m)) σ H Q := by
  obtain ⟨ρ, O, hp, re, rh, p⟩ := h
  simp only [ev] at p
  exact ⟨ρ, O, hp, re, rh, (EvG.bind p).imp fun xs H1 ⟨O1, h1, ds, s1, rh1, r1, p1⟩ => ⟨CM, W, O1, h1, σ, ds, rh1, r1, p1⟩⟩
theorem ej_bi {f : Bi} {id : String} {x : Str} {e : Expr} {es : List Expr} {m : MEs} {p pos : Pos} (hf : BiD X (.builtin id) (biOf f)) (hg : Gl X x) (hm : X.mg x = none) (hv : bootBuiltins x = some (.builtin id)) (ha : EBs X CM own W C (e :: es) m) (hn : x ≠ "__name__") (hdb : (x == ("__debug__" : Str)) = false)
    (he : starEach (e :: es) X.env = (false, eval e X.env) :: starEach es X.env) (hpl : (backTo pos (starEach es X.env)).any (·.1) = false) : EJ X CM own W C (.Call (.Name x p) (e :: es) [] pos) (.bi f m) :=
  TG.imp (pe_callB hf.call hg hm hv ha hn hdb he hpl) fun σ H Q h => bi_read h
theorem ej_biT {f : Bi} {T : String} {x : Str} {e : Expr} {es : List Expr} {m : MEs} {p pos : Pos} (hf : BiD X (.type T) (biOf f)) (hg : Gl X x) (hm : X.mg x = none) (hv : bootBuiltins x = some (.type T)) (ha : EBs X CM own W C (e :: es) m) (hn : x ≠ "__name__") (hdb : (x == ("__debug__" : Str)) = false)
    (he : starEach (e :: es) X.env = (false, eval e X.env) :: starEach es X.env) (hpl : (backTo pos (starEach es X.env)).any (·.1) = false) : EJ X CM own W C (.Call (.Name x p) (e :: es) [] pos) (.bi f m) :=
  TG.imp (pe_callTy hf.call hg hm hv ha hn hdb he hpl) fun σ H Q h => bi_read h
theorem seq_of {K : PySem.W.Frag} {H : Hp} {O : OM} {hp : AH} {v : V} {d : D} {ds : List D} (rh : RepH K H O hp) (b : RpB K H O v d) (e : d.seq? hp = some ds) : ∃ a vs, v = .ref a ∧ (SqL K H a vs ∨ SqT K H a vs) ∧ Rps K H O vs ds := by
  cases d with
  | tup xs => cases e; obtain ⟨a, vs, rfl, t, r⟩ := b.tup; exact ⟨a, vs, rfl, .inr t.sq, r⟩
  | lst xs => cases e; obtain ⟨a, vs, rfl, t, r⟩ := b.list; exact ⟨a, vs, rfl, .inl (.inl (.inl t)), r⟩
  | fz xs => cases e; obtain ⟨a, vs, rfl, t, r⟩ := b.fz; exact ⟨a, vs, rfl, .inl t.sq, r⟩
  | ref i =>
    obtain ⟨a, rfl, ea⟩ := b.ref
    simp only [D.seq?] at e
    cases q : hp[i]? with
    | none => rw [q] at e; cases e
    | some o =>
      rw [q] at e
      cases o with
      | ins c fs => cases e
      | lst xs =>
        cases e
        obtain ⟨a', e', vs, h1, h2⟩ := rh.hp i _ q
        rw [ea] at e'; cases e'
        exact ⟨a, vs, rfl, .inl (.inl (.inl h1)), h2⟩
  | _ => cases e
theorem bd_len : BiD X (.builtin "len") (biOf .len) := by
  intro CM W O hp σ' ds pins s σ H xs us Q I r ⟨rh, rs, p⟩
  have key : ∀ d, ds = [d] → (∀ x, d ≠ .str x) → wpAny (model X.prog X.w) X.A (call (.builtin "len") us) (EP X pins σ Q) X.xe s := fun d e hns => by
    subst e
    obtain ⟨v, rfl, b⟩ := rs.one
    by_cases hd : ∃ t ks vs, d = .dct t ks vs
    · obtain ⟨t, ks, vs, rfl⟩ := hd
      cases t with
      | true => exact p.elim
      | false =>
        obtain ⟨a, kvs, rfl, h, rfl, r'⟩ := b.dct
        refine call_lenK pins s σ H _ us Q I r ⟨a, kvs, rfl, h, ?_⟩
        have p2 : EvG X.K CM W (rV X.K) O H σ' (some (.ok (.int ((kvs.map fun p => Kd p.1).length : Nat)) hp)) Q := p
        rw [List.length_map] at p2
        exact EvG.ok p2 rh (.int _)
    have p1 : EvG X.K CM W (rV X.K) O H σ' ((d.seq? hp).map fun ds => .ok (.int ds.length) hp) Q := by
      cases d with
      | str x => exact absurd rfl (hns x)
      | dct t ks vs => exact absurd ⟨_, _, _, rfl⟩ hd
      | _ => exact p
    cases q : d.seq? hp with
    | none => rw [q] at p1; exact p1.elim
    | some es =>
      rw [q] at p1
      obtain ⟨a, vs, rfl, hq, rr⟩ := seq_of rh b q
      refine call_len_seq pins s σ H _ us Q I r ⟨a, vs, rfl, hq, ?_⟩
      rw [rr.length]
      exact EvG.ok p1 rh (.int _)
  cases ds with
  | nil => exact p.elim
  | cons d t =>
    cases t with
    | cons _ _ => cases d with
      | dct t ks vs => cases t <;> exact p.elim
      | _ => exact p.elim
    | nil =>
      cases d with
      | str x =>
        obtain ⟨v, rfl, b⟩ := rs.one
        have ex := b.str
        subst ex
        simp only [biOf] at p
        split at p
        · rename_i hl
          exact call_len_str pins s σ H _ us Q I r ⟨x, rfl, hl, EvG.ok p rh (.int _)⟩
        · exact p.elim
      | _ => exact key _ rfl (fun x => by simp)
theorem bd_abs : BiD X (.builtin "abs") (biOf .abs) := by
  intro CM W O hp σ' ds pins s σ H xs us Q I r ⟨rh, rs, p⟩
  rcases ds with _ | ⟨d, _ | ⟨_, _⟩⟩
  · exact p.elim
  · cases d with
    | int i =>
      obtain ⟨v, rfl, b⟩ := rs.one
      have ex := b.int
      subst ex
      exact call_abs pins s σ H _ us Q I r ⟨i, rfl, EvG.ok p rh (.int _)⟩
    | _ => exact p.elim
  · cases d <;> exact p.elim
theorem bd_i2 {f : Bi} {v : Value} {g : Int → Int → Int} (hb : ∀ ds hp, biOf f ds hp = match ds with | [.int i, .int j] => some (.ok (.int (g i j)) hp) | _ => none)
    (hf : CallR X v fun xs H Q => ∃ i j, xs = [.int i, .int j] ∧ Q (.int (g i j)) H) : BiD X v (biOf f) := by
  intro CM W O hp σ' ds pins s σ H xs us Q I r ⟨rh, rs, p⟩
  rw [hb] at p
  rcases ds with _ | ⟨d, _ | ⟨e, _ | ⟨_, _⟩⟩⟩
  · exact p.elim
  · cases d <;> exact p.elim
  · cases d with
    | int i =>
      cases e with
      | int j =>
        obtain ⟨a, b, rfl, ra, rb⟩ := rs.two
        have e1 := ra.int
        have e2 := rb.int
        subst e1; subst e2
        exact hf pins s σ H _ us Q I r ⟨i, j, rfl, EvG.ok p rh (.int _)⟩
      | _ => exact p.elim
    | _ => exact p.elim
  · cases d <;> cases e <;> exact p.elim
theorem bd_max2 (hc : X.calm = true) : BiD X (.builtin "max") (biOf .max2) := bd_i2 (g := fun i j => if j > i then j else i) (fun ds hp => by
  rcases ds with _ | ⟨d, _ | ⟨e, _ | ⟨_, _⟩⟩⟩ <;> (try rfl) <;> (try (cases d <;> rfl)) <;> (cases d <;> cases e <;> rfl)) (call_max2 hc)
theorem bd_min2 (hc : X.calm = true) : BiD X (.builtin "min") (biOf .min2) := bd_i2 (g := fun i j => if j < i then j else i) (fun ds hp => by
  rcases ds with _ | ⟨d, _ | ⟨e, _ | ⟨_, _⟩⟩⟩ <;> (try rfl) <;> (try (cases d <;> rfl)) <;> (cases d <;> cases e <;> rfl)) (call_min2 hc)
/-- a built-in of one list -/
theorem bd_l1 {f : Bi} {v : Value} {g : List D → AH → Option (ER D)} (hb : ∀ ds hp, biOf f ds hp = match ds with | [.lst xs] => g xs hp | _ => none)
    (hf : ∀ (CM : Str → Option Addr) (W : WX) (O : OM) (hp : AH) (σ' : L2.St) (a : Addr) (vs : List V) (ds : List D) {pins s σ H us} {Q : VK}, Inv X pins σ H s → Vals [V.ref a] us → RepH X.K H O hp → H a = some (.lst vs) → Rps X.K H O vs ds → EvG X.K CM W (rV X.K) O H σ' (g ds hp) Q → wpAny (model X.prog X.w) X.A (call v us) (EP X pins σ Q) X.xe s) : BiD X v (biOf f) := by
  intro CM W O hp σ' ds pins s σ H xs us Q I r ⟨rh, rs, p⟩
  rw [hb] at p
  rcases ds with _ | ⟨d, _ | ⟨_, _⟩⟩
  · exact p.elim
  · cases d with
    | lst es =>
      obtain ⟨w, rfl, b⟩ := rs.one
      obtain ⟨a, vs, rfl, t, rr⟩ := b.list
      exact hf CM W O hp σ' a vs es I r rh t rr p
    | _ => exact p.elim
  · cases d <;> exact p.elim
theorem bd_sum (hc : X.calm = true) : BiD X (.builtin "sum") (biOf .sum) := bd_l1 (g := fun xs hp => (D.ints? xs).map fun ns => .ok (.int ns.sum) hp) (fun ds hp => by
  rcases ds with _ | ⟨d, _ | ⟨_, _⟩⟩ <;> (try rfl) <;> cases d <;> rfl) fun CM W O hp σ' a vs ds {pins s σ H us Q} I r rh t rr p => by
    cases e : D.ints? ds with
    | none => rw [e] at p; exact p.elim
    | some ns =>
      rw [e] at p
      obtain ⟨h1, -⟩ := rr.ints e
      subst h1
      exact cr_sum hc pins s σ H _ us Q I r ⟨a, ns, rfl, .inl (.inl t), EvG.ok p rh (.int _)⟩
/-- a scalar's truth -/
def TrV (v : Value) (b : Bool) : Prop := ∀ (P : Program) (w : World) (A : Around) (E : Value → Shared → Prop) (s : Shared) (Q : Bool → Shared → Prop), Q b s → wpAny (model P w) A (PySem.truthy v) Q E s
theorem trs_of {K : PySem.W.Frag} {H : Hp} {O : OM} : ∀ {vs : List V} {ds : List D} {bs : List Bool} {us : List Value}, Rps K H O vs ds → truths? ds = some bs → Vals vs us → us.length = bs.length ∧ ∀ (i : Nat) (v : Value), us[i]? = some v → ∃ b, bs[i]? = some b ∧ TrV v b
  | _, _, _, _, .nil, e, .nil => by cases e; exact ⟨rfl, fun i v h => by simp at h⟩
  | _, d :: ds, bs, _, .cons r t, e, .cons (b := u) (l₂ := us) ru ts => by
    have key : ∀ (b : Bool) (bs' : List Bool), truths? ds = some bs' → TrV u b → bs = b :: bs' → (u :: us).length = bs.length ∧ ∀ (i : Nat) (v : Value), (u :: us)[i]? = some v → ∃ b, bs[i]? = some b ∧ TrV v b := fun b bs' e1 tv eb => by
      obtain ⟨h1, h2⟩ := trs_of t e1 ts
      subst eb
      refine ⟨by simp [h1], fun i v hv => ?_⟩
      cases i with
      | zero => simp at hv; subst hv; exact ⟨b, rfl, tv⟩
      | succ i => simpa using h2 i v (by simpa using hv)
    cases r with
    | bl b =>
      obtain ⟨bs', e1, e2⟩ := Option.map_eq_some_iff.mp e
      cases ru
      exact key b bs' e1 (fun P w A E s Q h => wpAny_truthy_bool h) e2.symm
    | int i =>
      obtain ⟨bs', e1, e2⟩ := Option.map_eq_some_iff.mp e
      obtain ⟨tk, rfl⟩ := ru
      exact key (i != 0) bs' e1 (fun P w A E s Q h => PyProof.Rows.truthy_int h) e2.symm
    | non =>
      obtain ⟨bs', e1, e2⟩ := Option.map_eq_some_iff.mp e
      cases ru
      exact key false bs' e1 (fun P w A E s Q h => by show wpAny _ _ (pure false) _ _ _; exact wpAny_pure h) e2.symm
    | _ => cases e
theorem truth_all {P : Program} {w : World} {A : Around} {bs : List Bool} {us : List Value} (h : ∀ (i : Nat) (v : Value), us[i]? = some v → ∃ b, bs[i]? = some b ∧ TrV v b) : TruthOf P w A (fun i v => us.toArray[i]? = some v) (fun i => bs.getD i false) := fun i v s Q E hv hq => by
  obtain ⟨b, e1, tv⟩ := h i v (by simpa using hv)
  have hg : bs.getD i false = b := by rw [List.getD_eq_getElem?_getD, e1] <;> rfl
  exact tv P w A E s Q (by rw [← hg]; exact hq)
theorem bd_any (hc : X.calm = true) : BiD X (.builtin "any") (biOf .any) := bd_l1 (g := fun xs hp => (truths? xs).map fun ns => .ok (.bl (ns.any id)) hp) (fun ds hp => by
  rcases ds with _ | ⟨d, _ | ⟨_, _⟩⟩ <;> (try rfl) <;> cases d <;> rfl) fun CM W O hp σ' a vs ds {pins s σ H us Q} I r rh t rr p => by
    cases e : truths? ds with
    | none => rw [e] at p; exact p.elim
    | some bs =>
      rw [e] at p
      obtain ⟨its, rv, hl, _⟩ := I.list (show SqL X.K H a vs from .inl (.inl t))
      rw [Vals.ref1 r]
      obtain ⟨h1, h2⟩ := trs_of rr e rv
      refine call_any_walk (iter_any hl.isList fun s₂ e2 st hne => ?_)
      subst e2
      refine ⟨_, _, _, _, _, _, _, rfl, Walks.list (A := X.A.in1) (I.ok.hd hc) _ a hne its.toArray, st, truth_all h2, fun g tk hk => ?_⟩
      refine ⟨.bl (bs.any id), H, I.kept fun b o eo => hk b o (fun hm => ?_) (Heap.get?_push_of_some _ eo), ?_, EvG.ok p rh (.bl _)⟩
      · rcases List.mem_cons.mp hm with e1 | hm
        · rw [e1] at eo
          exact absurd (Heap.lt_size eo) (Nat.lt_irrefl _)
        · cases hm
      · show Value.bool _ = Value.bool _
        rw [← L2.any_range, List.size_toArray, h1]
theorem bd_all (hc : X.calm = true) : BiD X (.builtin "all") (biOf .all) := bd_l1 (g := fun xs hp => (truths? xs).map fun ns => .ok (.bl (ns.all id)) hp) (fun ds hp => by
  rcases ds with _ | ⟨d, _ | ⟨_, _⟩⟩ <;> (try rfl) <;> cases d <;> rfl) fun CM W O hp σ' a vs ds {pins s σ H us Q} I r rh t rr p => by
    cases e : truths? ds with
    | none => rw [e] at p; exact p.elim
    | some bs =>
      rw [e] at p
      obtain ⟨its, rv, hl, _⟩ := I.list (show SqL X.K H a vs from .inl (.inl t))
      rw [Vals.ref1 r]
      obtain ⟨h1, h2⟩ := trs_of rr e rv
      refine call_all_walk (iter_any hl.isList fun s₂ e2 st hne => ?_)
      subst e2
      refine ⟨_, _, _, _, _, _, _, rfl, Walks.list (A := X.A.in1) (I.ok.hd hc) _ a hne its.toArray, st, truth_all h2, fun g tk hk => ?_⟩
      refine ⟨.bl (bs.all id), H, I.kept fun b o eo => hk b o (fun hm => ?_) (Heap.get?_push_of_some _ eo), ?_, EvG.ok p rh (.bl _)⟩
      · rcases List.mem_cons.mp hm with e1 | hm
        · rw [e1] at eo
          exact absurd (Heap.lt_size eo) (Nat.lt_irrefl _)
        · cases hm
      · show Value.bool _ = Value.bool _
        rw [← L2.all_range, List.size_toArray, h1]
theorem maxI_eq : ∀ {ns : List Int} {m k : Int}, maxI ns = some m → k ∈ ns → (∀ y, y ∈ ns → y ≤ k) → k = m
  | [], _, _, e, _, _ => by cases e
  | [x], _, _, e, h, _ => by cases e; simpa using h
  | x :: y :: r, m, k, e, h, hk => by
    simp only [maxI] at e
    obtain ⟨m', e', e2⟩ := Option.map_eq_some_iff.mp e
    have hm : m' ∈ y :: r ∧ ∀ z, z ∈ y :: r → z ≤ m' := by
      clear e2 h hk e
      revert m'
      generalize y :: r = l
      intro m' e'
      induction l generalizing m' with
      | nil => cases e'
      | cons a t ih =>
        cases t with
        | nil => cases e'; simp
        | cons b t =>
          simp only [maxI] at e'
          obtain ⟨m2, e3, e4⟩ := Option.map_eq_some_iff.mp e'
          obtain ⟨h1, h2⟩ := ih m2 e3
          by_cases q : a < m2
          · rw [if_pos q] at e4
            subst e4
            exact ⟨List.mem_cons_of_mem _ h1, fun z hz => (List.mem_cons.mp hz).elim (fun e => by subst e; omega) (h2 z)⟩
          · rw [if_neg q] at e4
            subst e4
            exact ⟨List.mem_cons_self, fun z hz => (List.mem_cons.mp hz).elim (fun e => by subst e; omega) (fun hz => by have := h2 z hz; omega)⟩
    have hx := hk x List.mem_cons_self
    have hm' := hk m' (List.mem_cons_of_mem _ hm.1)
    rcases List.mem_cons.mp h with q | q
    · subst q
      by_cases w : k < m'
      · omega
      · rw [if_neg w] at e2; exact e2
    · have := hm.2 k q
      have ek : k = m' := by omega
      subst ek
      by_cases w : x < k
      · rw [if_pos w] at e2; exact e2
      · rw [if_neg w] at e2; omega
theorem minI_eq : ∀ {ns : List Int} {m k : Int}, minI ns = some m → k ∈ ns → (∀ y, y ∈ ns → k ≤ y) → k = m
  | [], _, _, e, _, _ => by cases e
  | [x], _, _, e, h, _ => by cases e; simpa using h
  | x :: y :: r, m, k, e, h, hk => by
    simp only [minI] at e
    obtain ⟨m', e', e2⟩ := Option.map_eq_some_iff.mp e
    have hm : m' ∈ y :: r ∧ ∀ z, z ∈ y :: r → m' ≤ z := by
      clear e2 h hk e
      revert m'
      generalize y :: r = l
      intro m' e'
      induction l generalizing m' with
      | nil => cases e'
      | cons a t ih =>
        cases t with
        | nil => cases e'; simp
        | cons b t =>
          simp only [minI] at e'
          obtain ⟨m2, e3, e4⟩ := Option.map_eq_some_iff.mp e'
          obtain ⟨h1, h2⟩ := ih m2 e3
          by_cases q : m2 < a
          · rw [if_pos q] at e4
            subst e4
            exact ⟨List.mem_cons_of_mem _ h1, fun z hz => (List.mem_cons.mp hz).elim (fun e => by subst e; omega) (h2 z)⟩
          · rw [if_neg q] at e4
            subst e4
            exact ⟨List.mem_cons_self, fun z hz => (List.mem_cons.mp hz).elim (fun e => by subst e; omega) (fun hz => by have := h2 z hz; omega)⟩
    have hx := hk x List.mem_cons_self
    have hm' := hk m' (List.mem_cons_of_mem _ hm.1)
    rcases List.mem_cons.mp h with q | q
    · subst q
      by_cases w : m' < k
      · omega
      · rw [if_neg w] at e2; exact e2
    · have := hm.2 k q
      have ek : k = m' := by omega
      subst ek
      by_cases w : k < x
      · rw [if_pos w] at e2; exact e2
      · rw [if_neg w] at e2; omega
theorem bd_max (hc : X.calm = true) : BiD X (.builtin "max") (biOf .max) := bd_l1 (g := fun xs hp => match D.ints? xs with | some ns => (maxI ns).map fun m => .ok (.int m) hp | none => none) (fun ds hp => by
  rcases ds with _ | ⟨d, _ | ⟨_, _⟩⟩ <;> (try rfl) <;> cases d <;> rfl) fun CM W O hp σ' a vs ds {pins s σ H us Q} I r rh t rr p => by
    cases e : D.ints? ds with
    | none => simp only [e] at p; exact p.elim
    | some ns =>
      simp only [e] at p
      obtain ⟨h1, -⟩ := rr.ints e
      subst h1
      cases e2 : maxI ns with
      | none => rw [e2] at p; exact p.elim
      | some m =>
        rw [e2] at p
        refine cr_max hc pins s σ H _ us Q I r ⟨a, ns, rfl, .inl (.inl t), ?_, fun k hk hle => ?_⟩
        · cases ns with
          | nil => cases e2
          | cons x r => simp
        · rw [maxI_eq e2 hk hle]
          exact EvG.ok p rh (.int _)
theorem bd_min (hc : X.calm = true) : BiD X (.builtin "min") (biOf .min) := bd_l1 (g := fun xs hp => match D.ints? xs with | some ns => (minI ns).map fun m => .ok (.int m) hp | none => none) (fun ds hp => by
  rcases ds with _ | ⟨d, _ | ⟨_, _⟩⟩ <;> (try rfl) <;> cases d <;> rfl) fun CM W O hp σ' a vs ds {pins s σ H us Q} I r rh t rr p => by
    cases e : D.ints? ds with
    | none => simp only [e] at p; exact p.elim
    | some ns =>
      simp only [e] at p
      obtain ⟨h1, -⟩ := rr.ints e
      subst h1
      cases e2 : minI ns with
      | none => rw [e2] at p; exact p.elim
      | some m =>
        rw [e2] at p
        refine cr_min hc pins s σ H _ us Q I r ⟨a, ns, rfl, .inl (.inl t), ?_, fun k hk hle => ?_⟩
        · cases ns with
          | nil => cases e2
          | cons x r => simp
        · rw [minI_eq e2 hk hle]
          exact EvG.ok p rh (.int _)
theorem bd_int : BiD X (.type "int") (biOf .int) := by
  intro CM W O hp σ' ds pins s σ H xs us Q I r ⟨rh, rs, p⟩
  rcases ds with _ | ⟨d, _ | ⟨_, _⟩⟩
  · exact p.elim
  · obtain ⟨v, rfl, b⟩ := rs.one
    cases d with
    | int i =>
      have ex := b.int
      subst ex
      exact call_int1 pins s σ H _ us Q I r (.inl ⟨i, rfl, EvG.ok p rh (.int _)⟩)
    | bl k =>
      have ex := b.bl
      subst ex
      exact call_int1 pins s σ H _ us Q I r (.inr ⟨k, rfl, EvG.ok p rh (.int _)⟩)
    | _ => exact p.elim
  · cases d <;> exact p.elim
theorem bd_bool : BiD X (.type "bool") (biOf .bool) := by
  intro CM W O hp σ' ds pins s σ H xs us Q I r ⟨rh, rs, p⟩
  rcases ds with _ | ⟨d, _ | ⟨_, _⟩⟩
  · exact p.elim
  · obtain ⟨v, rfl, b⟩ := rs.one
    cases d with
    | int i =>
      have ex := b.int
      subst ex
      exact call_bool1 pins s σ H _ us Q I r (.inl ⟨i, rfl, EvG.ok p rh (.bl _)⟩)
    | bl k =>
      have ex := b.bl
      subst ex
      exact call_bool1 pins s σ H _ us Q I r (.inr ⟨k, rfl, EvG.ok p rh (.bl _)⟩)
    | _ => exact p.elim
  · cases d <;> exact p.elim
theorem bd_tuple : BiD X (.type "tuple") (biOf .tuple) := by
  intro CM W O hp σ' ds pins s σ H xs us Q I r ⟨rh, rs, p⟩
  rcases ds with _ | ⟨d, _ | ⟨_, _⟩⟩
  · exact p.elim
  · obtain ⟨v, rfl, b⟩ := rs.one
    cases d with
    | lst es =>
      obtain ⟨a, vs, rfl, t, rr⟩ := b.list
      refine call_tuple_of pins s σ H _ us Q I r ⟨a, vs, rfl, .inl ⟨.inl (.inl t), fun l hl => ?_⟩⟩
      have st : Step O H O (upd H l (.tup vs)) := Step.new_tup (xs := []) rh hl _
      exact EvG.okn p rh hl (.tup (.inl ⟨.inl upd_same, rh.fresh hl⟩) (rr.step st))
    | tup es =>
      obtain ⟨a, vs, rfl, t, rr⟩ := b.tup
      exact call_tuple_of pins s σ H _ us Q I r ⟨a, vs, rfl, .inr ⟨t.sq, EvG.ok p rh (.tup t rr)⟩⟩
    | _ => exact p.elim
  · cases d <;> exact p.elim
theorem bd_list : BiD X (.type "list") (biOf .list) := by
  intro CM W O hp σ' ds pins s σ H xs us Q I r ⟨rh, rs, p⟩
  rcases ds with _ | ⟨d, _ | ⟨_, _⟩⟩
  · exact p.elim
  · obtain ⟨v, rfl, b⟩ := rs.one
    cases d with
    | lst es =>
      obtain ⟨a, vs, rfl, t, rr⟩ := b.list
      refine call_list_of pins s σ H _ us Q I r ⟨a, vs, rfl, .inl (.inl (.inl t)), fun l hl => ?_⟩
      have st : Step O H O (upd H l (.lst vs)) := Step.new_tup (xs := []) rh hl _
      exact EvG.okn p rh hl (.lst ⟨upd_same, rh.fresh hl⟩ (rr.step st))
    | tup es =>
      obtain ⟨a, vs, rfl, t, rr⟩ := b.tup
      refine call_list_of pins s σ H _ us Q I r ⟨a, vs, rfl, .inr t.sq, fun l hl => ?_⟩
      have st : Step O H O (upd H l (.lst vs)) := Step.new_tup (xs := []) rh hl _
      exact EvG.okn p rh hl (.lst ⟨upd_same, rh.fresh hl⟩ (rr.step st))
    | _ => exact p.elim
  · cases d <;> exact p.elim
theorem ej_bits {o : Expr} {m : ME} {apos pos : Pos} (ho : EJ X CM own W C o m) (hbase : attributeBase o "bit_length" X.env (eval o X.env) = eval o X.env) (hline : (apos.endLine == pos.line) = true) : EJ X CM own W C (.Call (.Attribute o "bit_length" apos) [] [] pos) (.bits m) :=
  TG.imp (pe_bits ho hbase hline) fun σ H Q ⟨ρ, O, hp, re, rh, p⟩ => by
    simp only [ev] at p
    refine ⟨ρ, O, hp, re, rh, (EvG.bind p).imp fun x H1 ⟨O1, h1, dx, s1, rh1, r1, p1⟩ => ?_⟩
    cases dx with
    | int i => exact ⟨i, (RpB.rp r1).int, EvG.ok p1 rh1 (.int _)⟩
    | _ => exact p1.elim
end
end Mi

set_option Elab.async false
set_option linter.all false
set_option maxRecDepth 100000
set_option maxHeartbeats 4000000
/-! Mi over the hand layer: isinstance, what is walked, comprehensions. -/
namespace Mi
open PySem PySem.Spec PyProof.Rows L2
/-! isinstance -/
def Ty.s : Ty → String
  | .int => "int" | .bool => "bool" | .str => "str" | .tuple => "tuple" | .list => "list"
def tyN (d : D) (h : AH) : Option String := match d with
  | .non => some "NoneType" | .bl _ => some "bool" | .int _ => some "int" | .str _ => some "str" | .tup _ => some "tuple" | .lst _ => some "list" | .fz _ => some "list"
  | .ref i => match h[i]? with
    | some (.lst _) => some "list"
    | _ => none
  | .dct t _ _ => if t = true then none else some "dict"
theorem ty_has {t : Ty} {d : D} {h : AH} {b : Bool} (e : Ty.has t d h = some b) : ∃ n, tyN d h = some n ∧ kitB n t.s = some b := by
  cases d with
  | ref i =>
    have e' : (match h[i]? with | some (.lst _) => some (decide (t = .list)) | _ => none) = some b := by cases t <;> exact e
    simp only [tyN]
    cases q : h[i]? with
    | none => rw [q] at e'; cases e'
    | some o =>
      rw [q] at e'
      cases o with
      | ins c fs => cases e'
      | lst ds => cases e'; exact ⟨_, rfl, by cases t <;> decide +kernel⟩
  | dct u ks vs =>
    have e' : (if u = true then none else some false) = some b := by cases t <;> exact e
    cases u with
    | true => cases e'
    | false => cases e'; exact ⟨_, rfl, by cases t <;> decide +kernel⟩
  | _ => cases t <;> (cases e; exact ⟨_, rfl, by decide +kernel⟩)
theorem rp_ty {K : PySem.W.Frag} {H : Hp} {O : OM} {hp : AH} {v : V} {d : D} {n : String} (rh : RepH K H O hp) (r : RpB K H O v d) (e : tyN d hp = some n) : TyX K H v (.type n) := by
  cases d with
  | non => cases e; rw [r.non]; exact .base .non
  | bl b => cases e; rw [r.bl]; exact .base (.bl b)
  | int i => cases e; rw [r.int]; exact .base (.int i)
  | str x => cases e; rw [r.str]; exact .base (.str x)
  | tup ds =>
    cases e
    obtain ⟨a, vs, rfl, t, _⟩ := r.tup
    rcases t with ⟨t | ⟨o, t⟩, _⟩ | ⟨o, its, n, l, c, _⟩
    · exact .base (.tup t)
    · exact .fTuple t
    · exact .kTuple l c
  | lst ds => cases e; obtain ⟨a, vs, rfl, t, _⟩ := r.list; exact .base (.lst t)
  | fz ds =>
    cases e
    obtain ⟨a, vs, rfl, t, _⟩ := r.fz
    rcases t with ⟨o, t, _⟩ | ⟨o, its, n, l, c, _⟩
    · exact .base (.frz t)
    · exact .kList l c
  | ref i =>
    obtain ⟨a, rfl, ea⟩ := r.ref
    simp only [tyN] at e
    cases q : hp[i]? with
    | none => rw [q] at e; cases e
    | some o =>
      rw [q] at e
      cases o with
      | ins c fs => cases e
      | lst ds =>
        cases e
        obtain ⟨a', e', vs, h1, h2⟩ := rh.hp i _ q
        rw [ea] at e'; cases e'
        exact .base (.lst h1)
  | dct u ks vs =>
    cases u with
    | true => cases e
    | false =>
      cases e
      obtain ⟨a, kvs, rfl, h, _⟩ := r.dct
      rcases h with h | ⟨o, h⟩
      · exact .base (.dK h)
      · exact .fDict h
def isAny (x : D) (ts : List Ty) (h : AH) : Option Bool := ts.foldr (fun t r => (Ty.has t x h).bind fun b => if b then some true else r) (some false)
theorem kit_any {K : PySem.W.Frag} {d : D} {h : AH} {n : String} (e : tyN d h = some n) : ∀ {ts : List Ty} {b : Bool}, isAny d ts h = some b → PySem.W.kitAny K (.type n) (ts.map fun t => .type t.s) = some b
  | [], b, q => by cases q; exact kitAny_nil
  | t :: ts, b, q => by
    simp only [isAny, List.foldr_cons] at q
    cases e1 : Ty.has t d h with
    | none => rw [e1] at q; cases q
    | some c =>
      rw [e1] at q
      obtain ⟨n', e2, e3⟩ := ty_has e1
      rw [e] at e2; cases e2
      rw [List.map_cons]
      refine kitAny_cons (kit_ty e3) (fun hc => ?_) (fun hc => ?_)
      · subst hc
        exact kit_any e (ts := ts) q
      · subst hc
        cases q; rfl
section
variable {X : Cx} {CM : Str → Option Addr} {own : Nat → Bool} {W : WX} {C : Nat → List D → M D}
theorem cls_paired : ∀ ts : List Ty, Paired ClsV (ts.map fun t => V.ty t.s) (ts.map fun t => Value.type t.s)
  | [] => .nil
  | t :: r => .cons (.ty _) (cls_paired r)
/-- names of built-in classes, as values -/
inductive TyNames (X : Cx) : List Expr → List Ty → Prop
  | nil : TyNames X [] []
  | cons {x : Str} {p : Pos} {t : Ty} {es ts} : Gl X x → X.mg x = none → bootBuiltins x = some (.type t.s) → x ≠ "__name__" → (x == ("__debug__" : Str)) = false → TyNames X es ts → TyNames X (.Name x p :: es) (t :: ts)
theorem TyNames.pa : ∀ {es : List Expr} {ts : List Ty}, TyNames X es ts → PA X es (fun _ H Q => Q (ts.map fun t => V.ty t.s) H)
  | _, _, .nil => TA.imp pa_nil fun σ H Q h => h
  | _, _, .cons (x := x) (p := p) (t := t) h1 h2 h3 h4 h5 r => TA.imp (pa_cons (pe_bltn (v := V.ty t.s) h1 h2 h3 rfl h4 h5) r.pa rfl) fun σ H Q h => h
theorem isi_ev {a : ME} {ts : List Ty} {ρ : Env} : ev C (.isi a ts) ρ = M.bind (ev C a ρ) fun x => fun h => (isAny x ts h).map fun b => .ok (.bl b) h := by
  simp only [ev]; rfl
theorem ej_isi1 {e : Expr} {m : ME} {x : Str} {t : Ty} {p p2 pos : Pos} (hg : Gl X "isinstance") (hm : X.mg "isinstance" = none) (he : EB X CM own W C e m) (ht : TyNames X [.Name x p2] [t])
    (hs : starEach [e, .Name x p2] X.env = (false, eval e X.env) :: starEach [.Name x p2] X.env) : EJ X CM own W C (.Call (.Name "isinstance" p) [e, .Name x p2] [] pos) (.isi m [t]) :=
  TG.imp (pe_callB call_isi hg hm (by decide +kernel) (pa_cons he ht.pa hs) (by decide) (by decide) hs rfl) fun σ H Q ⟨ρ, O, hp, re, rh, pp⟩ => by
    rw [isi_ev] at pp
    refine ⟨ρ, O, hp, re, rh, (EvG.bind pp).imp fun v H1 ⟨O1, h1, d, s1, rh1, r1, p1⟩ => ?_⟩
    cases q : isAny d [t] h1 with
    | none => rw [q] at p1; exact p1.elim
    | some b =>
      rw [q] at p1
      have q' : Ty.has t d h1 = some b := by
        simp only [isAny, List.foldr_cons, List.foldr_nil] at q
        cases e1 : Ty.has t d h1 with
        | none => rw [e1] at q; cases q
        | some c => rw [e1] at q; cases c <;> exact q
      obtain ⟨n, e2, e3⟩ := ty_has q'
      exact ⟨v, V.ty t.s, .type n, .type t.s, b, rfl, .ty _, rp_ty rh1 r1 e2, kit_ty e3, EvG.ok p1 rh1 (.bl _)⟩
theorem ej_isiT {e : Expr} {m : ME} {es : List Expr} {ts : List Ty} {k : Nat} {p p2 pos : Pos} (hg : Gl X "isinstance") (hm : X.mg "isinstance" = none) (he : EB X CM own W C e m) (ht : TyNames X es ts) (hne : ts ≠ []) (hl : ts.length ≤ sizeLine)
    (hs : starEach [e, .Tuple es k p2] X.env = (false, eval e X.env) :: starEach [.Tuple es k p2] X.env) : EJ X CM own W C (.Call (.Name "isinstance" p) [e, .Tuple es k p2] [] pos) (.isi m ts) :=
  TG.imp (pe_callB call_isiT hg hm (by decide +kernel) (pa_cons he (pa_cons (pe_tup ht.pa) pa_nil rfl) hs) (by decide) (by decide) hs rfl) fun σ H Q ⟨ρ, O, hp, re, rh, pp⟩ => by
    rw [isi_ev] at pp
    refine ⟨ρ, O, hp, re, rh, (EvG.bind pp).imp fun v H1 ⟨O1, h1, d, s1, rh1, r1, p1⟩ => ?_⟩
    refine ⟨by rw [List.length_map]; exact hl, fun tp htp => ?_⟩
    have st : Step O1 H1 O1 (upd H1 tp (.tup (ts.map fun t => V.ty t.s))) := Step.new_tup (xs := []) rh1 htp _
    have rh2 := rh1.upd_new htp (.tup (ts.map fun t => V.ty t.s))
    cases q : isAny d ts h1 with
    | none => rw [q] at p1; exact p1.elim
    | some b =>
      rw [q] at p1
      have : ∃ n, tyN d h1 = some n := by
        cases ts with
        | nil => exact absurd rfl hne
        | cons t r =>
          simp only [isAny, List.foldr_cons] at q
          cases e1 : Ty.has t d h1 with
          | none => rw [e1] at q; cases q
          | some c => obtain ⟨n, e2, _⟩ := ty_has e1; exact ⟨n, e2⟩
      obtain ⟨n, en⟩ := this
      refine ⟨v, tp, ts.map (fun t => V.ty t.s), .type n, ts.map (fun t => .type t.s), b, rfl, upd_same, ?_, rp_ty rh2 (r1.step st) en, kit_any en q, ?_⟩
      · exact cls_paired ts
      · exact EvG.okn p1 rh1 htp (.bl _)
end
end Mi

set_option Elab.async false
set_option linter.all false
set_option maxRecDepth 100000
set_option maxHeartbeats 4000000
/-! Mi over the hand layer: what is walked, comprehensions. -/
namespace Mi
open PySem PySem.Spec PyProof.Rows L2 RZ RT
/-- an iterator whose items are told, whatever steps are made meanwhile -/
structure Src (P : Ow → Bool) (K : PySem.W.Frag) (O : OM) (H : Hp) (J : It) (ds : List D) : Prop where
  go : ∀ O' H', StP P O H O' H' → ∀ i, i < ds.length → J.go i H'
  stop : ∀ O' H', StP P O H O' H' → J.stop ds.length H'
  yld : ∀ O' H' h, StP P O H O' H' → RepH K H' O' h → ∀ i x H'', i < ds.length → J.yld i H' x H'' → ∃ d, ds[i]? = some d ∧ Step O' H' O' H'' ∧ RepH K H'' O' h ∧ Rp K H'' O' x d
/-- an object that steps of this kind leave as it is -/
def LastL (P : Ow → Bool) (K : PySem.W.Frag) (O : OM) (H : Hp) (a : Addr) (vs : List V) : Prop := ∀ O' H', StP P O H O' H' → SqL K H' a vs
def LastT (P : Ow → Bool) (K : PySem.W.Frag) (O : OM) (H : Hp) (a : Addr) (vs : List V) : Prop := ∀ O' H', StP P O H O' H' → SqT K H' a vs
section
variable {P : Ow → Bool} {K : PySem.W.Frag} {H : Hp} {O : OM} {a b : Addr} {vs ws : List V} {ds es : List D}
theorem src_list (l : LastL P K O H a vs) (r : Rps K H O vs ds) : Src P K O H (Itl K a) ds := by
  refine ⟨fun O' H' s i hi => ?_, fun O' H' s => ⟨vs, l _ _ s, Nat.le_of_eq r.length⟩, fun O' H' h s rh i x H'' hi y => ?_⟩
  · have hi' : i < vs.length := by rw [r.length]; exact hi
    exact ⟨vs, vs[i], l _ _ s, List.getElem?_eq_getElem hi'⟩
  · obtain ⟨e, y⟩ := y
    subst e
    obtain ⟨d, e1, e2⟩ := r.get2 (y vs (l _ _ s))
    exact ⟨d, e1, Step.refl _ _, rh, e2.step s⟩
theorem src_tup (l : LastT P K O H a vs) (r : Rps K H O vs ds) : Src P K O H (Itt K a) ds := by
  refine ⟨fun O' H' s i hi => ?_, fun O' H' s => ⟨vs, l _ _ s, Nat.le_of_eq r.length⟩, fun O' H' h s rh i x H'' hi y => ?_⟩
  · have hi' : i < vs.length := by rw [r.length]; exact hi
    exact ⟨vs, vs[i], l _ _ s, List.getElem?_eq_getElem hi'⟩
  · obtain ⟨e, y⟩ := y
    subst e
    obtain ⟨d, e1, e2⟩ := r.get2 (y vs (l _ _ s))
    exact ⟨d, e1, Step.refl _ _, rh, e2.step s⟩
theorem rev_get {α : Type} (xs : List α) (i : Nat) (h : i < xs.length) : xs.reverse[i]? = xs[xs.length - 1 - i]? := by
  rw [List.getElem?_reverse h]
theorem src_revL (l : LastL P K O H a vs) (r : Rps K H O vs ds) : Src P K O H (Itv K a vs.length) ds.reverse := by
  refine ⟨fun O' H' s i hi => ?_, fun O' H' s => by show vs.length ≤ _; rw [List.length_reverse, r.length]; exact Nat.le_refl _, fun O' H' h s rh i x H'' hi y => ?_⟩
  · have hi' : i < vs.length := by rw [r.length]; simpa using hi
    exact ⟨hi', vs, vs[vs.length - 1 - i], l _ _ s, List.getElem?_eq_getElem (by omega)⟩
  · obtain ⟨e, y⟩ := y
    subst e
    obtain ⟨d, e1, e2⟩ := r.get2 (y vs (l _ _ s))
    refine ⟨d, ?_, Step.refl _ _, rh, e2.step s⟩
    rw [rev_get ds i (by simpa using hi), ← r.length]
    exact e1
theorem src_revT (l : LastT P K O H a vs) (r : Rps K H O vs ds) : Src P K O H (ItvT K a vs.length) ds.reverse := by
  refine ⟨fun O' H' s i hi => ?_, fun O' H' s => by show vs.length ≤ _; rw [List.length_reverse, r.length]; exact Nat.le_refl _, fun O' H' h s rh i x H'' hi y => ?_⟩
  · have hi' : i < vs.length := by rw [r.length]; simpa using hi
    exact ⟨hi', vs, vs[vs.length - 1 - i], l _ _ s, List.getElem?_eq_getElem (by omega)⟩
  · obtain ⟨e, y⟩ := y
    subst e
    obtain ⟨d, e1, e2⟩ := r.get2 (y vs (l _ _ s))
    refine ⟨d, ?_, Step.refl _ _, rh, e2.step s⟩
    rw [rev_get ds i (by simpa using hi), ← r.length]
    exact e1
theorem src_range {lo : Int} {n : Nat} : Src P K O H (Itr lo n) (rangeD lo n) := by
  have hl : (rangeD lo n).length = n := by simp [rangeD]
  refine ⟨fun O' H' s i hi => by rw [hl] at hi; exact hi, fun O' H' s => by rw [hl]; exact Nat.le_refl n, fun O' H' h s rh i x H'' hi y => ?_⟩
  obtain ⟨e, y⟩ := y
  subst e; subst y
  rw [hl] at hi
  refine ⟨.int (lo + i), ?_, Step.refl _ _, rh, .int _⟩
  simp [rangeD, hi]
theorem zipD_get : ∀ {xs ys : List D} {i : Nat} {x y : D}, xs[i]? = some x → ys[i]? = some y → (zipD xs ys)[i]? = some (.tup [x, y])
  | [], _, _, _, _, e, _ => by simp at e
  | _ :: _, [], _, _, _, _, e => by simp at e
  | _ :: _, _ :: _, 0, _, _, e, f => by simp at e f; subst e; subst f; rfl
  | _ :: xs, _ :: ys, i + 1, _, _, e, f => by simpa [zipD] using zipD_get (i := i) (by simpa using e) (by simpa using f)
theorem zipD_len : ∀ (xs ys : List D), (zipD xs ys).length = min xs.length ys.length
  | [], ys => by simp [zipD]
  | x :: xs, [] => by simp [zipD]
  | x :: xs, y :: ys => by simp only [zipD, List.length_cons, zipD_len xs ys]; omega
theorem enumD_len : ∀ (xs : List D) (n : Nat), (enumD n xs).length = xs.length
  | [], _ => rfl
  | x :: xs, n => by simp only [enumD, List.length_cons, enumD_len xs]
theorem enumD_get : ∀ {xs : List D} {n i : Nat} {x : D}, xs[i]? = some x → (enumD n xs)[i]? = some (.tup [.int ((n + i : Nat) : Int), x])
  | [], _, _, _, e => by simp at e
  | _ :: _, n, 0, _, e => by simp at e; subst e; rfl
  | _ :: xs, n, i + 1, _, e => by
    have := enumD_get (n := n + 1) (i := i) (by simpa using e)
    simp only [enumD, List.getElem?_cons_succ]
    rw [this, show n + 1 + i = n + (i + 1) by omega]
theorem new_pair {O' : OM} {H' : Hp} {h : AH} {T : Addr} {x y : V} {d e : D} (rh : RepH K H' O' h) (nT : H' T = none) (rx : Rp K H' O' x d) (ry : Rp K H' O' y e) :
    Step O' H' O' (upd H' T (.tup [x, y])) ∧ RepH K (upd H' T (.tup [x, y])) O' h ∧ Rp K (upd H' T (.tup [x, y])) O' (.ref T) (.tup [d, e]) := by
  have st : Step O' H' O' (upd H' T (.tup [x, y])) := Step.new_tup (xs := []) rh nT _
  exact ⟨st, rh.upd_new nT _, .tup (.inl ⟨.inl upd_same, rh.fresh nT⟩) (.cons (rx.step st) (.cons (ry.step st) .nil))⟩
theorem src_zipL (l : LastL P K O H a vs) (r : Rps K H O vs ds) (l2 : LastL P K O H b ws) (r2 : Rps K H O ws es) : Src P K O H (Itz K a b) (zipD ds es) := by
  refine ⟨fun O' H' s i hi => ?_, fun O' H' s => ⟨vs, ws, l _ _ s, l2 _ _ s, ?_⟩, fun O' H' h s rh i x H'' hi y => ?_⟩
  · rw [zipD_len] at hi
    have h1 : i < vs.length := by rw [r.length]; omega
    have h2 : i < ws.length := by rw [r2.length]; omega
    exact ⟨vs, ws, vs[i], ws[i], l _ _ s, l2 _ _ s, List.getElem?_eq_getElem h1, List.getElem?_eq_getElem h2⟩
  · rw [zipD_len, r.length, r2.length]; omega
  · obtain ⟨T, v, w, rfl, nT, rfl, y1, y2⟩ := y
    obtain ⟨d, e1, e2⟩ := r.get2 (y1 vs (l _ _ s))
    obtain ⟨e, f1, f2⟩ := r2.get2 (y2 ws (l2 _ _ s))
    obtain ⟨st, rh', rp⟩ := new_pair rh nT (e2.step s) (f2.step s)
    exact ⟨_, zipD_get e1 f1, st, rh', rp⟩
theorem src_zipT (l : LastT P K O H a vs) (r : Rps K H O vs ds) (l2 : LastT P K O H b ws) (r2 : Rps K H O ws es) : Src P K O H (ItzT K a b) (zipD ds es) := by
  refine ⟨fun O' H' s i hi => ?_, fun O' H' s => ⟨vs, ws, l _ _ s, l2 _ _ s, ?_⟩, fun O' H' h s rh i x H'' hi y => ?_⟩
  · rw [zipD_len] at hi
    have h1 : i < vs.length := by rw [r.length]; omega
    have h2 : i < ws.length := by rw [r2.length]; omega
    exact ⟨vs, ws, vs[i], ws[i], l _ _ s, l2 _ _ s, List.getElem?_eq_getElem h1, List.getElem?_eq_getElem h2⟩
  · rw [zipD_len, r.length, r2.length]; omega
  · obtain ⟨T, v, w, rfl, nT, rfl, y1, y2⟩ := y
    obtain ⟨d, e1, e2⟩ := r.get2 (y1 vs (l _ _ s))
    obtain ⟨e, f1, f2⟩ := r2.get2 (y2 ws (l2 _ _ s))
    obtain ⟨st, rh', rp⟩ := new_pair rh nT (e2.step s) (f2.step s)
    exact ⟨_, zipD_get e1 f1, st, rh', rp⟩
theorem src_enum (l : LastL P K O H a vs) (r : Rps K H O vs ds) : Src P K O H (Ite K a) (enumD 0 ds) := by
  refine ⟨fun O' H' s i hi => ?_, fun O' H' s => ⟨vs, l _ _ s, by rw [enumD_len, r.length]; exact Nat.le_refl _⟩, fun O' H' h s rh i x H'' hi y => ?_⟩
  · rw [enumD_len] at hi
    have h1 : i < vs.length := by rw [r.length]; omega
    exact ⟨vs, vs[i], l _ _ s, List.getElem?_eq_getElem h1⟩
  · obtain ⟨T, v, rfl, nT, rfl, y1⟩ := y
    obtain ⟨d, e1, e2⟩ := r.get2 (y1 vs (l _ _ s))
    obtain ⟨st, rh', rp⟩ := new_pair rh nT (Rp.int _) (e2.step s)
    have := enumD_get (n := 0) e1
    rw [Nat.zero_add] at this
    exact ⟨_, this, st, rh', rp⟩
theorem src_enumT (l : LastT P K O H a vs) (r : Rps K H O vs ds) : Src P K O H (IteT K a) (enumD 0 ds) := by
  refine ⟨fun O' H' s i hi => ?_, fun O' H' s => ⟨vs, l _ _ s, by rw [enumD_len, r.length]; exact Nat.le_refl _⟩, fun O' H' h s rh i x H'' hi y => ?_⟩
  · rw [enumD_len] at hi
    have h1 : i < vs.length := by rw [r.length]; omega
    exact ⟨vs, vs[i], l _ _ s, List.getElem?_eq_getElem h1⟩
  · obtain ⟨T, v, rfl, nT, rfl, y1⟩ := y
    obtain ⟨d, e1, e2⟩ := r.get2 (y1 vs (l _ _ s))
    obtain ⟨st, rh', rp⟩ := new_pair rh nT (Rp.int _) (e2.step s)
    have := enumD_get (n := 0) e1
    rw [Nat.zero_add] at this
    exact ⟨_, this, st, rh', rp⟩
end
/-- a value that is read, where the loop goes on to find it -/
inductive RpS (P : Ow → Bool) (K : PySem.W.Frag) (H : Hp) (O : OM) : V → D → Prop
  | rp {v : V} {d : D} : Rp K H O v d → RpS P K H O v d
  | own {a : Addr} {d : D} {i : Nat} : O (.slot i) = some a → P (.slot i) = false → OwnAt K H O a d → RpS P K H O (.ref a) d
inductive RpSs (P : Ow → Bool) (K : PySem.W.Frag) (H : Hp) (O : OM) : List V → List D → Prop
  | nil : RpSs P K H O [] []
  | cons {v : V} {vs : List V} {d : D} {ds : List D} : RpS P K H O v d → RpSs P K H O vs ds → RpSs P K H O (v :: vs) (d :: ds)
abbrev rS (P : Ow → Bool) (K : PySem.W.Frag) : Hp → OM → V → D → Prop := fun H O v d => RpS P K H O v d
abbrev rSs (P : Ow → Bool) (K : PySem.W.Frag) : Hp → OM → List V → List D → Prop := fun H O v d => RpSs P K H O v d
section
variable {P : Ow → Bool} {K : PySem.W.Frag} {H H' : Hp} {O O' : OM}
theorem lastL_of {a : Addr} {vs : List V} (h : LstAt H O a vs) : LastL P K O H a vs := fun O' H' s => .inl (.inl (s.keepN h.1 h.2 DctO.lst))
theorem lastT_of {a : Addr} {vs : List V} (h : TupAt K H O a vs) : LastT P K O H a vs := fun O' H' s => (h.step s).sq
theorem lastF_of {a : Addr} {vs : List V} (h : FzlAt K H O a vs) : LastL P K O H a vs := fun O' H' s => (h.step s).sq
theorem lastO_of {a : Addr} {vs : List V} {i : Nat} (h : O (.slot i) = some a) (p : P (.slot i) = false) (e : H a = some (.lst vs)) : LastL P K O H a vs := fun O' H' s => .inl (.inl (s.sk _ _ _ p h e))
theorem RpS.lst {v : V} {d : D} {ds : List D} (r : RpS P K H O v d) (e : lst? d = some ds) : ∃ a vs, v = .ref a ∧ LastL P K O H a vs ∧ Rps K H O vs ds := by
  cases r with
  | rp r =>
    cases r with
    | lst t q => cases e; exact ⟨_, _, rfl, lastL_of t, q⟩
    | fz t q => cases e; exact ⟨_, _, rfl, lastF_of t, q⟩
    | _ => cases e
  | own e1 p o => cases o with
    | lst h q => cases e; exact ⟨_, _, rfl, lastO_of e1 p h, q⟩
    | dK _ _ _ => cases e
    | dT _ _ _ => cases e
theorem RpS.tup {v : V} {ds : List D} (r : RpS P K H O v (.tup ds)) : ∃ a vs, v = .ref a ∧ LastT P K O H a vs ∧ Rps K H O vs ds := by
  cases r with
  | rp r => cases r with | tup t q => exact ⟨_, _, rfl, lastT_of t, q⟩
  | own _ _ r => cases r
theorem RpS.step {Q : Ow → Bool} (hQ : ∀ i, Q (.slot i) = false) (s : StP Q O H O' H') {v : V} {d : D} : RpS P K H O v d → RpS P K H' O' v d
  | .rp r => .rp (r.step s)
  | .own e p h => .own (s.loc _ _ (hQ _) e) p (h.step s fun _ q => s.sk _ _ _ (hQ _) e q)
theorem RpS.ofB (hP : ∀ i, P (.slot i) = false) {v : V} {d : D} : RpB K H O v d → RpS P K H O v d
  | .rp r => .rp r
  | .own e h => .own e (hP _) h
end
section
variable {X : Cx} {CM : Str → Option Addr} {own : Nat → Bool} {W : WX} {C : Nat → List D → M D} {P : Ow → Bool}
/-- an expression that is walked, a list of them -/
abbrev EI (P : Ow → Bool) (X : Cx) (CM : Str → Option Addr) (own : Nat → Bool) (W : WX) (C : Nat → List D → M D) (e : Expr) (m : ME) : Prop := PE X e (tG X.K CM own W (rS P X.K) (ev C m))
abbrev EIs (P : Ow → Bool) (X : Cx) (CM : Str → Option Addr) (own : Nat → Bool) (W : WX) (C : Nat → List D → M D) (es : List Expr) (m : MEs) : Prop := PA X es (tG X.K CM own W (rSs P X.K) (evs C m))
theorem EvG.rel {α β : Type} {K : PySem.W.Frag} {rel rel2 : Hp → OM → β → α → Prop} {O : OM} {H : Hp} {σ : L2.St} {r : Option (ER α)} {Q : β → Hp → Prop} (p : EvG K CM W rel2 O H σ r Q) (i : ∀ H O v d, rel H O v d → rel2 H O v d) : EvG K CM W rel O H σ r Q := by
  cases r with
  | none => exact p
  | some x =>
    cases x with
    | ok d h' => exact fun v H' O' s rh rl => p v H' O' s rh (i _ _ _ _ rl)
    | exc c fs h' => exact p
theorem EJ.i {e : Expr} {m : ME} (h : EJ X CM own W C e m) : EI P X CM own W C e m := TG.imp h fun σ H Q ⟨ρ, O, hp, re, rh, p⟩ => ⟨ρ, O, hp, re, rh, EvG.rel p fun _ _ _ _ r => .rp r⟩
theorem EB.i {e : Expr} {m : ME} (hP : ∀ i, P (.slot i) = false) (h : EB X CM own W C e m) : EI P X CM own W C e m := TG.imp h fun σ H Q ⟨ρ, O, hp, re, rh, p⟩ => ⟨ρ, O, hp, re, rh, EvG.rel p fun _ _ _ _ r => RpS.ofB hP r⟩
theorem ei_var {i : Nat} {x : Str} {pos : Pos} (hN : X.N[i]? = some x) (hv : Vis X.env.scope x) (hp : own i = true → P (.slot i) = false) (hd : (x == ("__debug__" : Str)) = false) (hcd : (x == ("__classdict__" : Str)) = false) : EI P X CM own W C (.Name x pos) (.var i) := by
  by_cases ho : own i = false
  · exact (ej_var hN hv ho hd hcd).i
  · have ho : own i = true := by simpa using ho
    refine TG.imp (pe_var hN hv hd hcd) fun σ H Q ⟨ρ, O, hp', re, rh, p⟩ => ?_
    simp only [ev, Env.get] at p
    cases q : ρ[i]? with
    | none => rw [q] at p; exact p.elim
    | some y =>
      rw [q] at p
      cases y with
      | none => exact p.elim
      | some d =>
        obtain ⟨a, h1, h2, h3⟩ := re.lst i d q ho
        exact ⟨_, h1, EvG.ok p rh (.own h2 (hp ho) h3)⟩
theorem eis_nil : EIs P X CM own W C [] .nil := TA.imp pa_nil fun σ H Q ⟨ρ, O, hp, re, rh, p⟩ => by
  simp only [evs] at p
  exact EvG.ok p rh .nil
theorem eis_cons {e : Expr} {es : List Expr} {m : ME} {ms : MEs} (he : EI P X CM own W C e m) (hs : EIs P X CM own W C es ms) (h1 : starEach (e :: es) X.env = (false, eval e X.env) :: starEach es X.env) : EIs P X CM own W C (e :: es) (.cons m ms) :=
  TA.imp (pa_cons he hs h1) fun σ H Q ⟨ρ, O, hp, re, rh, p⟩ => by
    simp only [evs] at p
    refine ⟨ρ, O, hp, re, rh, (EvG.bind p).imp fun x H1 ⟨O1, h1, dx, s1, rh1, r1, p1⟩ => ⟨ρ, O1, h1, re.step s1, rh1, (EvG.bind p1).imp fun xs H2 ⟨O2, h2, ds, s2, rh2, r2, p2⟩ => ?_⟩⟩
    exact EvG.ok p2 rh2 (.cons (r1.step (fun _ => rfl) s2) r2)
/-! what is walked -/
abbrev rIt (P : Ow → Bool) (K : PySem.W.Frag) : Hp → OM → It → List D → Prop := fun H O J ds => Src P K O H J ds
abbrev II (P : Ow → Bool) (X : Cx) (CM : Str → Option Addr) (own : Nat → Bool) (W : WX) (C : Nat → List D → M D) (tg e : Expr) (m : MI) : Prop := PI X tg e (tG X.K CM own W (rIt P X.K) (evi C m))
theorem TIm.imp {tg e : Expr} {t t' : TI} (h : PI X tg e t) (i : ∀ σ H Q, t' σ H Q → t σ H Q) : PI X tg e t' := ⟨fun pins s σ H Q I q => h.run pins s σ H Q I (i σ H Q q)⟩
def iSeq (K : PySem.W.Frag) (tl : TE) : TI := fun σ H R => tl σ H fun x H1 => ∃ a, x = .ref a ∧ (((∃ xs, SqL K H1 a xs) ∧ R (Itl K a) H1) ∨ ((∃ xs, SqT K H1 a xs) ∧ R (Itt K a) H1))
theorem pi_seq {tg l : Expr} {tl : TE} (hl : PE X l tl) : PI X tg l (iSeq X.K tl) := by
  refine ⟨fun pins s σ H R I h => ?_⟩
  refine thn (hl.run pins s σ H _ I h) fun v s1 ⟨x, H1, I1, r1, q1⟩ => ?_
  obtain ⟨a, e, ⟨⟨xs, hq⟩, q⟩ | ⟨⟨xs, hq⟩, q⟩⟩ := q1
  · subst e
    cases r1
    obtain ⟨its, rv, p, hz⟩ := I1.list hq
    refine wpAny_pyIter_list p.isList ?_
    refine ⟨s1.heap.objs.size, [s1.heap.objs.size], _, _, H1, rfl, I1.kept (t' := s1.toks) fun b o e => Heap.get?_push_of_some _ e, turn_list a _, ⟨_, Heap.get?_push_size _ rfl, rfl, rfl⟩, fun b hb => ?_, q⟩
    have e : b = s1.heap.objs.size := by simpa using hb
    subst e
    exact I1.fpOk (Nat.le_refl _) (I1.hok.fresh (Nat.le_refl _))
  · subst e
    cases r1
    obtain ⟨its, rv, p, hz⟩ := I1.tuple hq
    refine wpAny_pyIter_tuple (show s1.heap.IsTuple a its.toArray from p) ?_
    refine ⟨s1.heap.objs.size, [s1.heap.objs.size], _, _, H1, rfl, I1.kept (t' := s1.toks) fun b o e => Heap.get?_push_of_some _ e, turn_tuple a _, ⟨_, Heap.get?_push_size _ rfl, rfl, rfl⟩, fun b hb => ?_, q⟩
    have e : b = s1.heap.objs.size := by simpa using hb
    subst e
    exact I1.fpOk (Nat.le_refl _) (I1.hok.fresh (Nat.le_refl _))
theorem ii_seq {tg e : Expr} {m : ME} (h : EI P X CM own W C e m) : II P X CM own W C tg e (.seq m) := TIm.imp (pi_seq h) fun σ H Q ⟨ρ, O, hp, re, rh, p⟩ => by
  simp only [evi] at p
  refine ⟨ρ, O, hp, re, rh, (EvG.bind p).imp fun x H1 ⟨O1, h1, dx, s1, rh1, r1, p1⟩ => ?_⟩
  obtain ⟨ds, e, p2⟩ := EvG.lift p1
  cases dx with
  | tup xs =>
    cases e
    obtain ⟨a, vs, rfl, l, r⟩ := r1.tup
    exact ⟨a, rfl, .inr ⟨⟨vs, l _ _ (StP.refl _ _ _)⟩, EvG.ok p2 rh1 (src_tup l r)⟩⟩
  | lst xs =>
    cases e
    obtain ⟨a, vs, rfl, l, r⟩ := r1.lst rfl
    exact ⟨a, rfl, .inl ⟨⟨vs, l _ _ (StP.refl _ _ _)⟩, EvG.ok p2 rh1 (src_list l r)⟩⟩
  | fz xs =>
    cases e
    obtain ⟨a, vs, rfl, l, r⟩ := r1.lst rfl
    exact ⟨a, rfl, .inl ⟨⟨vs, l _ _ (StP.refl _ _ _)⟩, EvG.ok p2 rh1 (src_list l r)⟩⟩
  | _ => cases e
theorem ii_rng1 {tg a : Expr} {m : ME} {p pos : Pos} (hg : Gl X "range") (hm : X.mg "range" = none) (ha : EJ X CM own W C a m) (hs : starEach [a] X.env = [(false, eval a X.env)]) : II P X CM own W C tg (.Call (.Name "range" p) [a] [] pos) (.rng1 m) :=
  TIm.imp (pi_range1 hg hm (pa_cons ha pa_nil hs) hs) fun σ H Q ⟨ρ, O, hp, re, rh, p⟩ => by
    simp only [evi] at p
    refine ⟨ρ, O, hp, re, rh, (EvG.bind p).imp fun x H1 ⟨O1, h1, dx, s1, rh1, r1, p1⟩ => ?_⟩
    obtain ⟨es, e, p2⟩ := EvG.lift p1
    cases dx with
    | int n =>
      simp only [range1] at e
      split at e
      · rename_i hn
        unfold smallR at hn
        simp only [Bool.and_eq_true, decide_eq_true_eq] at hn
        cases e
        have ex := (RpB.rp r1).int
        subst ex
        exact ⟨n, rfl, hn.1, hn.2, EvG.ok p2 rh1 src_range⟩
      · cases e
    | _ => cases e
theorem ii_rng2 {tg a b : Expr} {m m2 : ME} {p pos : Pos} (hg : Gl X "range") (hm : X.mg "range" = none) (ha : EJ X CM own W C a m) (hb : EJ X CM own W C b m2) (hs : starEach [a, b] X.env = [(false, eval a X.env), (false, eval b X.env)]) (hs2 : starEach [b] X.env = [(false, eval b X.env)]) :
    II P X CM own W C tg (.Call (.Name "range" p) [a, b] [] pos) (.rng2 m m2) :=
  TIm.imp (pi_range2 hg hm (pa_cons ha (pa_cons hb pa_nil hs2) (by rw [hs, hs2])) hs hs2) fun σ H Q ⟨ρ, O, hp, re, rh, p⟩ => by
    simp only [evi] at p
    refine ⟨ρ, O, hp, re, rh, (EvG.bind p).imp fun x H1 ⟨O1, h1, dx, s1, rh1, r1, p1⟩ => ⟨ρ, O1, h1, re.step s1, rh1, (EvG.bind p1).imp fun y H2 ⟨O2, h2, dy, s2, rh2, r2, p2⟩ => ?_⟩⟩
    obtain ⟨es, e, p3⟩ := EvG.lift p2
    cases dx with
    | int i =>
      cases dy with
      | int j =>
        simp only [range2] at e
        split at e
        · rename_i hn
          unfold smallR at hn
          simp only [Bool.and_eq_true, decide_eq_true_eq] at hn
          cases e
          have ex := (RpB.rp r1).int
          have ey := (RpB.rp r2).int
          subst ex; subst ey
          exact ⟨i, j, rfl, ⟨hn.1.1, hn.1.2, hn.2.1, hn.2.2⟩, EvG.ok p3 rh2 src_range⟩
        · cases e
      | _ => cases e
    | _ => cases e
theorem ii_zip {elts : List Expr} {kk : Nat} {tpos : Pos} {a b : Expr} {m m2 : ME} {p pos : Pos} (hg : Gl X "zip") (hm : X.mg "zip" = none) (ha : EI P X CM own W C a m) (hb : EI P X CM own W C b m2)
    (hs : starEach [a, b] X.env = (false, eval a X.env) :: starEach [b] X.env) (hs2 : starEach [b] X.env = (false, eval b X.env) :: starEach [] X.env) (hpl : (backTo pos (starEach [b] X.env)).any (·.1) = false) : II P X CM own W C (.Tuple elts kk tpos) (.Call (.Name "zip" p) [a, b] [] pos) (.zip m m2) :=
  TIm.imp (pi_zipA hg hm (pa_cons ha (pa_cons hb pa_nil hs2) hs) hs hpl) fun σ H Q ⟨ρ, O, hp, re, rh, p⟩ => by
    simp only [evi] at p
    refine ⟨ρ, O, hp, re, rh, (EvG.bind p).imp fun x H1 ⟨O1, h1, dx, s1, rh1, r1, p1⟩ => ⟨ρ, O1, h1, re.step s1, rh1, (EvG.bind p1).imp fun y H2 ⟨O2, h2, dy, s2, rh2, r2, p2⟩ => ?_⟩⟩
    obtain ⟨es, e, p3⟩ := EvG.lift p2
    have r1' := r1.step (fun _ => rfl) s2
    by_cases ht : (∃ xs ys, dx = .tup xs ∧ dy = .tup ys)
    · obtain ⟨xs, ys, rfl, rfl⟩ := ht
      cases e
      obtain ⟨a', vs, rfl, l, r⟩ := r1'.tup
      obtain ⟨b', ws, rfl, l2, r2'⟩ := r2.tup
      exact ⟨a', b', vs, ws, rfl, .inr ⟨l _ _ (StP.refl _ _ _), l2 _ _ (StP.refl _ _ _), EvG.ok p3 rh2 (src_zipT l r l2 r2')⟩⟩
    · have e' : (match lst? dx, lst? dy with | some xs, some ys => some (zipD xs ys) | _, _ => none) = some es := by
        cases dx with
        | tup xs =>
          cases dy with
          | tup ys => exact absurd ⟨xs, ys, rfl, rfl⟩ ht
          | _ => exact e
        | _ => exact e
      cases q1 : lst? dx with
      | none => rw [q1] at e'; cases e'
      | some xs =>
        cases q2 : lst? dy with
        | none => rw [q1, q2] at e'; cases e'
        | some ys =>
          rw [q1, q2] at e'
          cases e'
          obtain ⟨a', vs, rfl, l, r⟩ := r1'.lst q1
          obtain ⟨b', ws, rfl, l2, r2'⟩ := r2.lst q2
          exact ⟨a', b', vs, ws, rfl, .inl ⟨l _ _ (StP.refl _ _ _), l2 _ _ (StP.refl _ _ _), EvG.ok p3 rh2 (src_zipL l r l2 r2')⟩⟩
theorem ii_enum {elts : List Expr} {kk : Nat} {tpos : Pos} {a : Expr} {m : ME} {p pos : Pos} (hg : Gl X "enumerate") (hm : X.mg "enumerate" = none) (ha : EI P X CM own W C a m) (hs : starEach [a] X.env = [(false, eval a X.env)]) :
    II P X CM own W C (.Tuple elts kk tpos) (.Call (.Name "enumerate" p) [a] [] pos) (.enum m) :=
  TIm.imp (pi_enumA hg hm (pa_cons ha pa_nil hs) hs) fun σ H Q ⟨ρ, O, hp, re, rh, p⟩ => by
    simp only [evi] at p
    refine ⟨ρ, O, hp, re, rh, (EvG.bind p).imp fun x H1 ⟨O1, h1, dx, s1, rh1, r1, p1⟩ => ?_⟩
    obtain ⟨es, e, p2⟩ := EvG.lift p1
    obtain ⟨xs, e1, rfl⟩ := Option.map_eq_some_iff.mp e
    cases dx with
    | tup ys =>
      cases e1
      obtain ⟨a', vs, rfl, l, r⟩ := r1.tup
      exact ⟨a', vs, rfl, .inr ⟨l _ _ (StP.refl _ _ _), EvG.ok p2 rh1 (src_enumT l r)⟩⟩
    | lst ys =>
      cases e1
      obtain ⟨a', vs, rfl, l, r⟩ := r1.lst rfl
      exact ⟨a', vs, rfl, .inl ⟨l _ _ (StP.refl _ _ _), EvG.ok p2 rh1 (src_enum l r)⟩⟩
    | fz ys =>
      cases e1
      obtain ⟨a', vs, rfl, l, r⟩ := r1.lst rfl
      exact ⟨a', vs, rfl, .inl ⟨l _ _ (StP.refl _ _ _), EvG.ok p2 rh1 (src_enum l r)⟩⟩
    | _ => cases e1
theorem ii_rev {tg a : Expr} {m : ME} {p pos : Pos} (hg : Gl X "reversed") (hm : X.mg "reversed" = none) (ha : EI P X CM own W C a m) (hs : starEach [a] X.env = (false, eval a X.env) :: starEach [] X.env) :
    II P X CM own W C tg (.Call (.Name "reversed" p) [a] [] pos) (.rev m) :=
  TIm.imp (pi_revA hg hm ha hs) fun σ H Q ⟨ρ, O, hp, re, rh, p⟩ => by
    simp only [evi] at p
    refine ⟨ρ, O, hp, re, rh, (EvG.bind p).imp fun x H1 ⟨O1, h1, dx, s1, rh1, r1, p1⟩ => ?_⟩
    obtain ⟨es, e, p2⟩ := EvG.lift p1
    obtain ⟨xs, e1, rfl⟩ := Option.map_eq_some_iff.mp e
    cases dx with
    | tup ys =>
      cases e1
      obtain ⟨a', vs, rfl, l, r⟩ := r1.tup
      exact ⟨a', vs, rfl, .inr ⟨l _ _ (StP.refl _ _ _), EvG.ok p2 rh1 (src_revT l r)⟩⟩
    | lst ys =>
      cases e1
      obtain ⟨a', vs, rfl, l, r⟩ := r1.lst rfl
      exact ⟨a', vs, rfl, .inl ⟨l _ _ (StP.refl _ _ _), EvG.ok p2 rh1 (src_revL l r)⟩⟩
    | fz ys =>
      cases e1
      obtain ⟨a', vs, rfl, l, r⟩ := r1.lst rfl
      exact ⟨a', vs, rfl, .inl ⟨l _ _ (StP.refl _ _ _), EvG.ok p2 rh1 (src_revL l r)⟩⟩
    | _ => cases e1
end
end Mi

set_option Elab.async false
set_option linter.all false
set_option maxRecDepth 100000
set_option maxHeartbeats 4000000
/-! Mi over the hand layer: targets, comprehensions. -/
namespace Mi
open PySem PySem.Spec PyProof.Rows L2
section
variable {K : PySem.W.Frag} {H H' : Hp} {O O' : OM} {own : Nat → Bool} {h : AH}
/-! owners -/
theorem Step.new_own {D : Addr} {o : HO} (rh : RepH K H O h) (hD : H D = none) : Step O H (O.put (.tmp D) D) (upd H D o) := by
  have ne : ∀ {a : Addr} {u : HO}, H a = some u → a ≠ D := fun e => ne_of_none e hD
  refine ⟨fun a u e _ => .inl (by rw [upd_ne (ne e)]; exact e), fun w a p e => ?_, fun w a u _ _ e => by rw [upd_ne (ne e)]; exact e, fun i a e => by rw [OM.put_ne (by simp)]; exact e, fun w a e => ?_, fun a u e => ⟨u, by rw [upd_ne (ne e)]; exact e⟩⟩
  · rw [OM.put_ne]
    · exact e
    · intro z
      subst z
      have := rh.tmp _ _ e
      subst this
      obtain ⟨u, q⟩ := rh.dom _ _ e
      rw [hD] at q; cases q
  · by_cases hw : w = .tmp D
    · subst hw
      rw [OM.put_same] at e; cases e
      exact .inr hD
    · rw [OM.put_ne hw] at e; exact .inl e
theorem RepH.new_own {D : Addr} {o : HO} (rh : RepH K H O h) (hD : H D = none) : RepH K (upd H D o) (O.put (.tmp D) D) h := by
  have st : Step O H (O.put (.tmp D) D) (upd H D o) := Step.new_own rh hD
  have no : ∀ w, O w ≠ some D := fun w e => by obtain ⟨u, q⟩ := rh.dom _ _ e; rw [hD] at q; cases q
  refine ⟨fun w w' a e e' => ?_, fun i u e => ?_, fun i a e => ?_, fun w a e => ?_, fun b a e => ?_⟩
  · by_cases hw : w = .tmp D
    · by_cases hw' : w' = .tmp D
      · rw [hw, hw']
      · subst hw
        rw [OM.put_same] at e; cases e
        rw [OM.put_ne hw'] at e'
        exact absurd e' (no _)
    · by_cases hw' : w' = .tmp D
      · subst hw'
        rw [OM.put_same] at e'; cases e'
        rw [OM.put_ne hw] at e
        exact absurd e (no _)
      · rw [OM.put_ne hw] at e
        rw [OM.put_ne hw'] at e'
        exact rh.inj _ _ _ e e'
  · obtain ⟨a, e1, r⟩ := rh.hp i u e
    refine ⟨a, by rw [OM.put_ne (by simp)]; exact e1, r.step st fun x q => ?_⟩
    rw [upd_ne (ne_of_none q hD)]; exact q
  · rw [OM.put_ne (by simp)] at e
    exact rh.lim i a e
  · by_cases hw : w = .tmp D
    · subst hw
      rw [OM.put_same] at e; cases e
      exact ⟨o, upd_same⟩
    · rw [OM.put_ne hw] at e
      obtain ⟨u, q⟩ := rh.dom _ _ e
      exact ⟨u, by rw [upd_ne (ne_of_none q hD)]; exact q⟩
  · by_cases hb : b = D
    · subst hb
      rw [OM.put_same] at e; cases e; rfl
    · rw [OM.put_ne (by simpa using hb)] at e
      exact rh.tmp b a e
/-- an owned object's content is changed -/
theorem StP.chg {w0 : Ow} {D : Addr} {o : HO} (rh : RepH K H O h) (hw : O w0 = some D) : StP (fun w => w.isObj || decide (w = w0)) O H O (upd H D o) := by
  refine ⟨fun a u e f => ?_, fun _ _ _ e => e, fun w a u p e e' => ?_, fun _ _ e => e, fun _ _ e => .inl e, fun a u e => ?_⟩
  · rw [upd_ne (fun z => by subst z; exact f _ hw)]; exact .inl e
  · simp only [Bool.or_eq_false_iff, decide_eq_false_iff_not] at p
    rw [upd_ne (fun z => by subst z; exact p.2 (rh.inj _ _ _ e hw))]; exact e'
  · by_cases ha : a = D
    · subst ha; exact ⟨o, upd_same⟩
    · exact ⟨u, by rw [upd_ne ha]; exact e⟩
theorem RepH.chg {w0 : Ow} {D : Addr} {o : HO} (rh : RepH K H O h) (hw : O w0 = some D) (hno : w0.isObj = false) : RepH K (upd H D o) O h := by
  refine ⟨rh.inj, fun i u e => ?_, rh.lim, fun w a e => ?_, rh.tmp⟩
  · obtain ⟨a, e1, r⟩ := rh.hp i u e
    have na : a ≠ D := fun z => by
      subst z
      have := rh.inj _ _ _ e1 hw
      subst this
      cases hno
    refine ⟨a, e1, r.step (StP.chg rh hw) fun x q => ?_⟩
    rw [upd_ne na]; exact q
  · by_cases ha : a = D
    · subst ha; exact ⟨o, upd_same⟩
    · obtain ⟨u, q⟩ := rh.dom _ _ e
      exact ⟨u, by rw [upd_ne ha]; exact q⟩
/-- what was made since may be changed -/
theorem StP.upd_new {P : Ow → Bool} {D : Addr} {o : HO} (s : StP P O H O' H') (hD : H D = none) : StP P O H O' (upd H' D o) := by
  have ne : ∀ {a : Addr} {u : HO}, H a = some u → a ≠ D := fun e => ne_of_none e hD
  refine ⟨fun a u e f => by rw [upd_ne (ne e)]; exact s.keep a u e f, s.loc, fun w a u p e e' => by rw [upd_ne (ne e')]; exact s.sk w a u p e e', s.obj, s.new, fun a u e => ?_⟩
  obtain ⟨u', q⟩ := s.live a u e
  exact ⟨u', by rw [upd_ne (ne e)]; exact q⟩
/-- a new owner gives up -/
theorem StP.drop {P : Ow → Bool} {w0 : Ow} {D : Addr} (s : StP P O H O' H') (rh : RepH K H O h) (hw : O' w0 = some D) (hD : H D = none) (hno : w0.isObj = false) : StP P O H (O'.del w0) H' := by
  refine ⟨s.keep, fun w a p e => ?_, s.sk, fun i a e => ?_, fun w a e => s.new w a (OM.del_of e).2, s.live⟩
  · rw [OM.del_ne]
    · exact s.loc w a p e
    · intro z
      subst z
      have := s.loc w a p e
      rw [hw] at this; cases this
      obtain ⟨u, q⟩ := rh.dom _ _ e
      rw [hD] at q; cases q
  · rw [OM.del_ne (fun z => by subst z; cases hno)]
    exact s.obj i a e
theorem Fz.del {w0 : Ow} {D : Addr} (i : O.Inj) (hw : O w0 = some D) : Fz (O.del w0) D := fun w e => by
  obtain ⟨h1, h2⟩ := OM.del_of e
  exact h1 (i _ _ _ h2 hw)

/-! slots -/
theorem set_get_ne {α : Type} (l : List α) {i j : Nat} (x : α) (h : i ≠ j) : (l.set i x)[j]? = l[j]? := List.getElem?_set_ne h
theorem RepE.set {σ : L2.St} {ρ : Env} (r : RepE K H O own σ ρ) {i : Nat} (ho : own i = false) {v : V} {d : D} (rv : Rp K H O v d) : RepE K H O own (σ.set i (some v)) (ρ.set i (some d)) := by
  refine ⟨by rw [List.length_set, List.length_set, r.len], fun j e hj oj => ?_, fun j e hj oj => ?_⟩
  · by_cases hij : i = j
    · subst hij
      by_cases hl : i < ρ.length
      · rw [List.getElem?_set_self hl] at hj
        cases hj
        exact ⟨v, by rw [List.getElem?_set_self (by rw [r.len]; exact hl)], rv⟩
      · rw [List.getElem?_eq_none (by rw [List.length_set]; omega)] at hj; cases hj
    · rw [set_get_ne _ _ hij] at hj ⊢
      exact r.val j e hj oj
  · by_cases hij : i = j
    · subst hij; rw [ho] at oj; cases oj
    · rw [set_get_ne _ _ hij] at hj ⊢
      exact r.lst j e hj oj
theorem RepE.unset {σ : L2.St} {ρ : Env} (r : RepE K H O own σ ρ) (i : Nat) : RepE K H O own (σ.set i none) (ρ.set i none) := by
  refine ⟨by rw [List.length_set, List.length_set, r.len], fun j e hj oj => ?_, fun j e hj oj => ?_⟩
  · by_cases hij : i = j
    · subst hij
      by_cases hl : i < ρ.length
      · rw [List.getElem?_set_self hl] at hj; cases hj
      · rw [List.getElem?_eq_none (by rw [List.length_set]; omega)] at hj; cases hj
    · rw [set_get_ne _ _ hij] at hj ⊢
      exact r.val j e hj oj
  · by_cases hij : i = j
    · subst hij
      by_cases hl : i < ρ.length
      · rw [List.getElem?_set_self hl] at hj; cases hj
      · rw [List.getElem?_eq_none (by rw [List.length_set]; omega)] at hj; cases hj
    · rw [set_get_ne _ _ hij] at hj ⊢
      exact r.lst j e hj oj
theorem RepE.wipe {σ : L2.St} {ρ : Env} (r : RepE K H O own σ ρ) : ∀ vs : List Nat, RepE K H O own (L2.wipe σ vs) (wipeE ρ vs)
  | [] => r
  | v :: vs => (RepE.wipe r vs).unset v
theorem wipe_get (σ : L2.St) : ∀ (vs : List Nat) (j : Nat), (L2.wipe σ vs)[j]? = if j ∈ vs then (if j < σ.length then some none else none) else σ[j]?
  | [], j => by simp [L2.wipe]
  | v :: vs, j => by
    unfold L2.wipe
    by_cases hv : v = j
    · subst hv
      by_cases hl : v < σ.length
      · rw [List.getElem?_set_self (by rw [wipe_length]; exact hl)]
        simp [hl]
      · rw [List.getElem?_eq_none (by rw [List.length_set, wipe_length]; omega)]
        simp [hl]
    · rw [set_get_ne _ _ hv, wipe_get σ vs j]
      by_cases hm : j ∈ vs
      · simp [hm]
      · simp [hm, Ne.symm hv]
theorem wipe_same {σ σ' : L2.St} {vs : List Nat} (hl : σ'.length = σ.length) (h : ∀ j, j ∉ vs → σ'[j]? = σ[j]?) : L2.wipe σ' vs = L2.wipe σ vs := by
  refine List.ext_getElem? fun j => ?_
  rw [wipe_get, wipe_get, hl]
  by_cases hm : j ∈ vs
  · rw [if_pos hm, if_pos hm]
  · rw [if_neg hm, if_neg hm, h j hm]
theorem wipe_wipe (σ : L2.St) (vs : List Nat) : L2.wipe (L2.wipe σ vs) vs = L2.wipe σ vs := by
  refine wipe_same (wipe_length σ vs) fun j hj => ?_
  rw [wipe_get, if_neg hj]
end
/-! targets -/
def Tg.slots : Tg → List Nat
  | .name i => [i]
  | .tup is => is
/-- what a target's store leaves -/
def AfterSet (K : PySem.W.Frag) (H : Hp) (O : OM) (own : Nat → Bool) (is : List Nat) (σ : L2.St) (ρ' : Env) (σ' : L2.St) : Prop := RepE K H O own σ' ρ' ∧ σ'.length = σ.length ∧ ∀ j, j ∉ is → σ'[j]? = σ[j]?
def tT (K : PySem.W.Frag) (own : Nat → Bool) (t : Tg) : TG := fun v σ H Q => ∃ (ρ : Env) (O : OM) (h : AH) (d : D) (ρ' : Env), RepE K H O own σ ρ ∧ RepH K H O h ∧ Rp K H O v d ∧ t.set d ρ = some ρ' ∧ ∀ σ', AfterSet K H O own t.slots σ ρ' σ' → Q σ' H
def tTs (K : PySem.W.Frag) (own : Nat → Bool) (is : List Nat) : TGs := fun vs σ H Q => ∃ (ρ : Env) (O : OM) (h : AH) (ds : List D) (ρ' : Env), RepE K H O own σ ρ ∧ RepH K H O h ∧ Rps K H O vs ds ∧ setAll is ds ρ = some ρ' ∧ ∀ σ', AfterSet K H O own is σ ρ' σ' → Q σ' H
section
variable {X : Cx} {own : Nat → Bool}
theorem TGm.imp {e : Expr} {t t' : TG} (h : PG X e t) (i : ∀ v σ H Q, t' v σ H Q → t v σ H Q) : PG X e t' := ⟨fun pins s σ H v u Q I r q => h.run pins s σ H v u Q I r (i _ _ _ _ q)⟩
theorem TGs.imp {e : List Expr} {t t' : TGs} (h : PGs X e t) (i : ∀ v σ H Q, t' v σ H Q → t v σ H Q) : PGs X e t' := ⟨fun pins s σ H v u Q I r q => h.run pins s σ H v u Q I r (i _ _ _ _ q)⟩
abbrev GJ (X : Cx) (own : Nat → Bool) (e : Expr) (t : Tg) : Prop := PG X e (tT X.K own t)
abbrev GJs (X : Cx) (own : Nat → Bool) (es : List Expr) (is : List Nat) : Prop := PGs X es (tTs X.K own is)
theorem after_set {K : PySem.W.Frag} {H : Hp} {O : OM} {σ : L2.St} {ρ : Env} (r : RepE K H O own σ ρ) {i : Nat} (ho : own i = false) {v : V} {d : D} (rv : Rp K H O v d) : AfterSet K H O own [i] σ (ρ.set i (some d)) (σ.set i (some v)) :=
  ⟨r.set ho rv, List.length_set .., fun j hj => set_get_ne _ _ (fun z => hj (by simp [z]))⟩
theorem gj_name {i : Nat} {x : Str} {pos : Pos} (hN : X.N.Nodup) (hi : X.N[i]? = some x) (hx : Loc X.env.scope x) (hf : X.fn x = true ∨ X.env.scope.names.lookup x = some .local) (ho : own i = false) : GJ X own (.Name x pos) (.name i) :=
  TGm.imp (pg_name hN hi hx hf) fun v σ H Q ⟨ρ, O, h, d, ρ', re, rh, rv, e, q⟩ => by
    cases e
    exact q _ (after_set re ho rv)
theorem gjs_nil : GJs X own [] [] := TGs.imp pgs_nil fun vs σ H Q ⟨ρ, O, h, ds, ρ', re, rh, rv, e, q⟩ => by
  cases rv with
  | nil => cases e; exact ⟨rfl, q _ ⟨re, rfl, fun _ _ => rfl⟩⟩
  | cons _ _ => cases e
theorem gjs_cons {i : Nat} {x : Str} {p : Pos} {es : List Expr} {is : List Nat} (hN : X.N.Nodup) (hi : X.N[i]? = some x) (hx : Loc X.env.scope x) (hf : X.fn x = true ∨ X.env.scope.names.lookup x = some .local) (ho : own i = false) (hs : GJs X own es is)
    (ha : (assignEach (.Name x p :: es) X.env).map (·.2) = assign (.Name x p) X.env :: (assignEach es X.env).map (·.2)) : GJs X own (.Name x p :: es) (i :: is) :=
  TGs.imp (pgs_cons (pg_name hN hi hx hf) hs ha) fun vs σ H Q ⟨ρ, O, h, ds, ρ', re, rh, rv, e, q⟩ => by
    cases rv with
    | nil => cases e
    | @cons v vs d ds r t =>
      refine ⟨v, vs, rfl, ρ.set i (some d), O, h, ds, ρ', re.set ho r, rh, t, e, fun σ' a => q σ' ⟨a.1, by rw [a.2.1, List.length_set], fun j hj => ?_⟩⟩
      simp only [List.mem_cons, not_or] at hj
      rw [a.2.2 j hj.2, set_get_ne _ _ (Ne.symm hj.1)]
theorem gj_tup {es : List Expr} {is : List Nat} {k : Nat} {pos : Pos} (hc : X.calm = true) (h : GJs X own es is) (hl : es.length = is.length) (hn : (assignEach es X.env).length = is.length) (hst : (assignEach es X.env).findIdx? (·.1) = none) : GJ X own (.Tuple es k pos) (.tup is) :=
  TGm.imp (pg_tup hc h hn hst) fun v σ H Q ⟨ρ, O, h, d, ρ', re, rh, rv, e, q⟩ => by
    cases rv with
    | tup t r =>
      have hlen : ∀ {is : List Nat} {ds : List D} {ρ ρ' : Env}, setAll is ds ρ = some ρ' → ds.length = is.length := by
        intro is
        induction is with
        | nil => intro ds ρ ρ' e; cases ds with | nil => rfl | cons _ _ => cases e
        | cons i is ih => intro ds ρ ρ' e; cases ds with | nil => cases e | cons d ds => simp only [setAll] at e; simp [ih e]
      exact ⟨_, _, rfl, t.sq, by rw [r.length]; exact hlen e, ρ, O, h, _, ρ', re, rh, r, e, q⟩
    | _ => cases e
/-! new lists -/
section
variable (K : PySem.W.Frag) (CM : Str → Option Addr) (own : Nat → Bool) (W : WX)
def EvF (O : OM) (H : Hp) (σ : L2.St) (r : Option (ER D)) (Q : VK) : Prop := match r with
  | some (.ok d h') => ∀ a vs ds H' O', d = .lst ds → H a = none → Step O H O' H' → RepH K H' O' h' → O' (.tmp a) = some a → H' a = some (.lst vs) → Rps K H' O' vs ds → Q (.ref a) H'
  | some (.exc c fs h') => ∀ cls dd H' O', Step O H O' H' → RepH K H' O' h' → XRp K CM H' O' c fs cls dd → W cls dd σ H'
  | none => False
def tF (m : Env → M D) : TE := fun σ H Q => ∃ (ρ : Env) (O : OM) (h : AH), RepE K H O own σ ρ ∧ RepH K H O h ∧ EvF K CM W O H σ (m ρ h) Q
end
section
variable {K : PySem.W.Frag} {CM : Str → Option Addr} {own : Nat → Bool} {W : WX} {H H1 : Hp} {O O1 : OM} {σ : L2.St}
theorem EvF.on {r : Option (ER D)} {Q : VK} (p : EvF K CM W O H σ r Q) (s : Step O H O1 H1) : EvF K CM W O1 H1 σ r Q := by
  cases r with
  | none => exact p
  | some x =>
    cases x with
    | ok d h' =>
      intro a vs ds H' O' e hn s' rh oa ea rs
      refine p a vs ds H' O' e ?_ (s.trans s') rh oa ea rs
      cases q : H a with
      | none => rfl
      | some u => obtain ⟨u', q'⟩ := s.live a u q; rw [hn] at q'; cases q'
    | exc c fs h' => exact fun cls dd H' O' s' rh x => p cls dd H' O' (s.trans s') rh x
theorem EvF.bind {α β : Type} {rel : Hp → OM → β → α → Prop} {r : Option (ER α)} {f : α → M D} {Q : VK} (p : EvF K CM W O H σ (M.bd r f) Q) :
    EvG K CM W rel O H σ r fun v H1 => ∃ O1 h1 d, Step O H O1 H1 ∧ RepH K H1 O1 h1 ∧ rel H1 O1 v d ∧ EvF K CM W O1 H1 σ (f d h1) Q := by
  cases r with
  | none => exact p
  | some x =>
    cases x with
    | ok d h' => exact fun v H' O' s rh rl => ⟨O', h', d, s, rh, rl, EvF.on (show EvF K CM W O H σ (f d h') Q from p) s⟩
    | exc c fs h' => exact p
end
section
variable {K : PySem.W.Frag} {CM : Str → Option Addr} {W : WX} {H : Hp} {O : OM} {σ : L2.St} {h : AH}
theorem EvG.toF {r : Option (ER D)} {Q : VK} (rh : RepH K H O h) (p : EvG K CM W (rV K) O H σ r Q) : EvF K CM W O H σ r Q := by
  cases r with
  | none => exact p
  | some x =>
    cases x with
    | ok d h' =>
      intro a vs ds H' O' e hn s rh' oa ea rs
      subst e
      have less : Less O' (O'.del (.tmp a)) := Less.del rfl
      exact p _ H' (O'.del (.tmp a)) (s.drop rh oa hn rfl) (rh'.less less) (.lst ⟨ea, Fz.del rh'.inj oa⟩ (rs.less less))
    | exc c fs h' => exact p
end
abbrev EF (X : Cx) (CM : Str → Option Addr) (own : Nat → Bool) (W : WX) (C : Nat → List D → M D) (e : Expr) (m : ME) : Prop := PE X e (tF X.K CM own W (ev C m))
theorem EF.j {X : Cx} {CM : Str → Option Addr} {own : Nat → Bool} {W : WX} {C : Nat → List D → M D} {e : Expr} {m : ME} (h : EF X CM own W C e m) : EJ X CM own W C e m := TG.imp h fun σ H Q ⟨ρ, O, hp, re, rh, p⟩ => ⟨ρ, O, hp, re, rh, EvG.toF rh p⟩
/-! comprehensions -/
variable {CM : Str → Option Addr} {W : WX} {C : Nat → List D → M D}
/-- no exception is wanted -/
abbrev W0 : WX := fun _ _ _ _ => False
theorem EvG.nox {α β : Type} {K : PySem.W.Frag} {rel : Hp → OM → β → α → Prop} {O : OM} {H : Hp} {σ : L2.St} {x : M α} {h h' : AH} {a : α} {Q : β → Hp → Prop} (e : M.nox x h = some (.ok a h'))
    (q : ∀ v H' O', Step O H O' H' → RepH K H' O' h' → rel H' O' v a → Q v H') : EvG K CM W0 rel O H σ (x h) Q := by
  unfold M.nox at e
  cases w : x h with
  | none => rw [w] at e; cases e
  | some y =>
    rw [w] at e
    cases y with
    | exc c fs h2 => cases e
    | ok b h2 => cases e; exact q
/-- the tests of a clause: none or one -/
abbrev TJ (X : Cx) (CM : Str → Option Addr) (own : Nat → Bool) (W : WX) (C : Nat → List D → M D) (es : List Expr) (ms : MEs) : Prop := PTs X es (tG X.K CM own W rT (tsts C ms))
theorem TSs.imp {es : List Expr} {t t' : TT} (h : PTs X es t) (i : ∀ σ H Q, t' σ H Q → t σ H Q) : PTs X es t' := ⟨fun pins s σ H Q I q => h.run pins s σ H Q I (i σ H Q q)⟩
theorem tj_nil : TJ X CM own W C [] .nil := TSs.imp pts_nil fun σ H Q ⟨ρ, O, hp, re, rh, p⟩ => by
  simp only [tsts] at p
  exact EvG.ok p rh rfl
theorem tj_one {e : Expr} {m : ME} (h : ET X CM own W C e m) : TJ X CM own W C [e] (.cons m .nil) := TSs.imp (pts_one h) fun σ H Q ⟨ρ, O, hp, re, rh, p⟩ => by
  simp only [tsts] at p
  refine ⟨ρ, O, hp, re, rh, (EvG.bind p).imp fun k H1 ⟨O1, h1, k', s1, rh1, r1, p1⟩ => ?_⟩
  subst r1
  cases k with
  | false => rw [if_neg Bool.false_ne_true] at p1; exact EvG.ok p1 rh1 rfl
  | true => rw [if_pos rfl] at p1; exact EvG.ok p1 rh1 rfl
def stepM (C : Nat → List D → M D) (ow : List Nat) (tg : Tg) (cs : MEs) (elt : ME) (ρ : Env) (x : D) : M (Option D) := M.bind (M.lift (tg.set x (wipeE ρ ow))) fun ρ' => M.bind (M.nox (tsts C cs ρ')) fun k => if k = true then M.bind (M.nox (ev C elt ρ')) fun y => M.ret (some y) else M.ret none
theorem comp_ev {elt : ME} {tg : Tg} {it : MI} {cs : MEs} {ow : List Nat} {ρ : Env} : ev C (.comp elt tg it cs ow) ρ = M.bind (evi C it ρ) fun xs => if xs.length ≤ sizeLine then M.bind (lcM (stepM C ow tg cs elt ρ) xs) fun ys => M.ret (.lst ys) else M.no := by
  simp only [ev]; rfl
theorem nox_cases {α : Type} (x : M α) (h : AH) : M.nox x h = none ∨ ∃ a h', M.nox x h = some (.ok a h') := by
  unfold M.nox
  cases x h with
  | none => exact .inl rfl
  | some y =>
    cases y with
    | ok a h' => exact .inr ⟨a, h', rfl⟩
    | exc c fs h' => exact .inl rfl
/-- a turn of the evaluator, opened -/
theorem step_ok {ow : List Nat} {tg : Tg} {cs : MEs} {elt : ME} {ρ : Env} {x : D} {h h2 : AH} {r : Option D} (e : stepM C ow tg cs elt ρ x h = some (.ok r h2)) :
    ∃ ρ' k h3, tg.set x (wipeE ρ ow) = some ρ' ∧ M.nox (tsts C cs ρ') h = some (.ok k h3) ∧ ((k = true ∧ ∃ y, M.nox (ev C elt ρ') h3 = some (.ok y h2) ∧ r = some y) ∨ (k = false ∧ r = none ∧ h2 = h3)) := by
  unfold stepM at e
  cases e1 : tg.set x (wipeE ρ ow) with
  | none => rw [e1] at e; cases e
  | some ρ' =>
    rw [e1] at e
    simp only [M.bind_def, M.lift_some, M.bd_ok] at e
    rcases nox_cases (tsts C cs ρ') h with e2 | ⟨k, h3, e2⟩
    · rw [e2] at e; cases e
    · rw [e2] at e
      simp only [M.bd_ok] at e
      cases k with
      | false =>
        rw [if_neg Bool.false_ne_true] at e
        cases e
        exact ⟨ρ', false, _, rfl, e2, .inr ⟨rfl, rfl, rfl⟩⟩
      | true =>
        rw [if_pos rfl] at e
        rcases nox_cases (ev C elt ρ') h3 with e3 | ⟨y, h4, e3⟩
        · rw [M.bind_def, e3] at e; cases e
        · rw [M.bind_def, e3] at e
          cases e
          exact ⟨ρ', true, h3, rfl, e2, .inl ⟨rfl, y, e3, rfl⟩⟩
theorem step_exc {ow : List Nat} {tg : Tg} {cs : MEs} {elt : ME} {ρ : Env} {x : D} {h : AH} {c fs h2} : stepM C ow tg cs elt ρ x h ≠ some (.exc c fs h2) := by
  intro e
  unfold stepM at e
  cases e1 : tg.set x (wipeE ρ ow) with
  | none => rw [e1] at e; cases e
  | some ρ' =>
    rw [e1] at e
    simp only [M.bind_def, M.lift_some, M.bd_ok] at e
    rcases nox_cases (tsts C cs ρ') h with e2 | ⟨k, h3, e2⟩
    · rw [e2] at e; cases e
    · rw [e2] at e
      simp only [M.bd_ok] at e
      cases k with
      | false => rw [if_neg Bool.false_ne_true] at e; cases e
      | true =>
        rw [if_pos rfl] at e
        rcases nox_cases (ev C elt ρ') h3 with e3 | ⟨y, h4, e3⟩
        · rw [M.bind_def, e3] at e; cases e
        · rw [M.bind_def, e3] at e; cases e
theorem lc_exc {st : D → M (Option D)} (hs : ∀ x h c fs h2, st x h ≠ some (.exc c fs h2)) : ∀ (xs : List D) (h : AH) c fs h2, lcM st xs h ≠ some (.exc c fs h2)
  | [], h, c, fs, h2, e => by cases e
  | x :: xs, h, c, fs, h2, e => by
    simp only [lcM, M.bind_def] at e
    cases e1 : st x h with
    | none => rw [e1] at e; cases e
    | some y =>
      rw [e1] at e
      cases y with
      | exc c' fs' h' => exact hs _ _ _ _ _ e1
      | ok r h' =>
        simp only [M.bd_ok, M.bind_def] at e
        cases e2 : lcM st xs h' with
        | none => rw [e2] at e; cases e
        | some z =>
          rw [e2] at e
          cases z with
          | exc c' fs' h'' => exact lc_exc hs _ _ _ _ _ e2
          | ok zs h'' => cases e
theorem lc_cons {st : D → M (Option D)} {x : D} {xs : List D} {h hf : AH} {ys : List D} (e : lcM st (x :: xs) h = some (.ok ys hf)) : ∃ r h' zs, st x h = some (.ok r h') ∧ lcM st xs h' = some (.ok zs hf) ∧ ys = consO r zs := by
  simp only [lcM, M.bind_def] at e
  cases e1 : st x h with
  | none => rw [e1] at e; cases e
  | some y =>
    rw [e1] at e
    cases y with
    | exc c' fs' h' => cases e
    | ok r h' =>
      simp only [M.bd_ok, M.bind_def] at e
      cases e2 : lcM st xs h' with
      | none => rw [e2] at e; cases e
      | some z =>
        rw [e2] at e
        cases z with
        | exc c' fs' h'' => cases e
        | ok zs h'' => cases e; exact ⟨r, h', zs, rfl, e2, rfl⟩
/-- where a comprehension stands behind i turns -/
structure LcW (K : PySem.W.Frag) (st : D → M (Option D)) (O1 : OM) (H1 : Hp) (Dd : Addr) (ds : List D) (ys : List D) (hf : AH) (i m : Nat) (H : Hp) : Prop where
  w : ∃ (O' : OM) (h' : AH) (vacc : List V) (acc rest : List D), Step O1 H1 O' H ∧ RepH K H O' h' ∧ O' (.tmp Dd) = some Dd ∧ H Dd = some (.lst vacc) ∧ Rps K H O' vacc acc ∧ acc.length ≤ i ∧ i ≤ ds.length ∧ m = ds.length - i ∧ lcM st (ds.drop i) h' = some (.ok rest hf) ∧ acc ++ rest = ys
theorem comp_readF {t : Tg} {mi : MI} {cs : MEs} {me : ME} {vs : List Nat} (hsl : ∀ j ∈ t.slots, j ∈ vs) : ∀ (σ : L2.St) (H : Hp) (Q : VK), tF X.K CM own W (ev C (.comp me t mi cs vs)) σ H Q →
    tLc (tG X.K CM own W (rIt Ow.isObj X.K) (evi C mi)) (tT X.K own t) (tG X.K CM own W0 rT (tsts C cs)) (tG X.K CM own W0 (rV X.K) (ev C me)) vs σ H Q :=
  fun σ H Q ⟨ρ, O, hp, re, rh, p⟩ => by
    rw [comp_ev] at p
    refine ⟨ρ, O, hp, re, rh, (EvF.bind p).imp fun J H1 ⟨O1, h1, ds, s1, rh1, src, p1⟩ => fun Dd hD => ?_⟩
    by_cases hl : ds.length ≤ sizeLine
    · rw [if_pos hl] at p1
      cases eL : lcM (stepM C vs t cs me ρ) ds h1 with
      | none => rw [M.bind_def, eL] at p1; exact p1.elim
      | some z =>
        cases z with
        | exc c fs h2 => exact absurd eL (lc_exc (fun _ _ _ _ _ => step_exc) _ _ _ _ _)
        | ok ys hf =>
          rw [M.bind_def, eL] at p1
          simp only [M.bd_ok] at p1
          refine ⟨LcW X.K (stepM C vs t cs me ρ) O1 H1 Dd ds ys hf, ⟨ds.length, ⟨O1.put (.tmp Dd) Dd, h1, [], [], ys, Step.new_own rh1 hD, rh1.new_own hD, OM.put_same, upd_same, .nil, Nat.zero_le _, Nat.zero_le _, rfl, by rw [List.drop_zero]; exact eL, rfl⟩⟩, fun i m Hi wi => ?_⟩
          obtain ⟨O', h', vacc, acc, rest, st, rh', oD, eD, rp, ha, hi', em, eR, ey⟩ := wi.w
          by_cases hlt : i < ds.length
          · refine .inr ⟨src.go _ _ st i hlt, LcW X.K (stepM C vs t cs me ρ) O1 H1 Dd ds ys hf (i + 1) (m - 1), fun H' w' => ⟨m - 1, by omega, w'⟩, fun x H' y => ?_⟩
            obtain ⟨d, ed, st2, rh2, rx⟩ := src.yld _ _ _ st rh' i x H' hlt y
            rw [List.drop_eq_getElem_cons hlt] at eR
            have ed' : ds[i] = d := by rw [List.getElem?_eq_getElem hlt] at ed; exact Option.some.inj ed
            rw [ed'] at eR
            obtain ⟨r, h2, zs, e1, e2, e3⟩ := lc_cons eR
            obtain ⟨ρ', k, h3, g1, g2, g3⟩ := step_ok e1
            have stA : Step O1 H1 O' H' := st.trans st2
            have reA : RepE X.K H' O' own (L2.wipe σ vs) (wipeE ρ vs) := ((re.step s1).step stA).wipe _
            have eD' : H' Dd = some (.lst vacc) := st2.sk _ _ _ rfl oD eD
            refine ⟨_, O', h', d, ρ', reA, rh2, rx, g1, fun σ' af => ⟨?_, ?_⟩⟩
            · have : L2.wipe σ' vs = L2.wipe (L2.wipe σ vs) vs := wipe_same af.2.1 fun j hj => af.2.2 j fun hm => hj (hsl j hm)
              rw [this, wipe_wipe]
            · refine ⟨ρ', O', h', af.1, rh2, EvG.nox g2 fun b H3 O3 st3 rh3 eb => ?_⟩
              subst eb
              have stB : Step O1 H1 O3 H3 := stA.trans st3
              have oD3 : O3 (.tmp Dd) = some Dd := st3.loc _ _ rfl oD
              have eD3 : H3 Dd = some (.lst vacc) := st3.sk _ _ _ rfl oD eD'
              rcases g3 with ⟨hk, yd, g4, er⟩ | ⟨hk, er, eh⟩
              · rw [if_pos hk]
                refine ⟨ρ', O3, h3, af.1.step st3, rh3, EvG.nox g4 fun v H4 O4 st4 rh4 rv => ?_⟩
                have oD4 : O4 (.tmp Dd) = some Dd := st4.loc _ _ rfl oD3
                have eD4 : H4 Dd = some (.lst vacc) := st4.sk _ _ _ rfl oD3 eD3
                refine ⟨vacc, eD4, ?_, ?_⟩
                · have := rp.length
                  omega
                · have rpA : Rps X.K H4 O4 vacc acc := ((rp.step st2).step st3).step st4
                  have rpB : Rps X.K H4 O4 (vacc ++ [v]) (acc ++ [yd]) := rpA.append (.cons rv .nil)
                  refine ⟨O4, h2, vacc ++ [v], acc ++ [yd], zs, (stB.trans st4).upd_new hD, rh4.chg oD4 rfl, oD4, upd_same, rpB.step (StP.chg rh4 oD4), ?_, hlt, by omega, e2, ?_⟩
                  · simp only [List.length_append, List.length_cons, List.length_nil]; omega
                  · rw [← ey, e3, er]
                    simp [consO]
              · rw [if_neg (by rw [hk]; exact Bool.false_ne_true)]
                refine ⟨O3, h2, vacc, acc, zs, stB, by rw [eh]; exact rh3, oD3, eD3, (rp.step st2).step st3, by omega, hlt, by omega, e2, ?_⟩
                rw [← ey, e3, er]
                rfl
          · have ei : i = ds.length := by omega
            refine .inl ⟨by rw [ei]; exact src.stop _ _ st, ?_⟩
            rw [ei, List.drop_length] at eR
            simp only [lcM, M.ret_def, Option.some.injEq, ER.ok.injEq] at eR
            obtain ⟨rfl, rfl⟩ := eR
            rw [List.append_nil] at ey
            subst ey
            exact p1 Dd vacc acc Hi O' rfl hD st rh' oD eD rp
    · rw [if_neg hl] at p1
      exact p1.elim
theorem comp_read {t : Tg} {mi : MI} {cs : MEs} {me : ME} {vs : List Nat} (hsl : ∀ j ∈ t.slots, j ∈ vs) : ∀ (σ : L2.St) (H : Hp) (Q : VK), tG X.K CM own W (rV X.K) (ev C (.comp me t mi cs vs)) σ H Q →
    tLc (tG X.K CM own W (rIt Ow.isObj X.K) (evi C mi)) (tT X.K own t) (tG X.K CM own W0 rT (tsts C cs)) (tG X.K CM own W0 (rV X.K) (ev C me)) vs σ H Q :=
  fun σ H Q ⟨ρ, O, hp, re, rh, p⟩ => comp_readF hsl σ H Q ⟨ρ, O, hp, re, rh, EvG.toF rh p⟩
/-- what a comprehension's block wants -/
structure CompOk (X : Cx) (CM : Str → Option Addr) (own : Nat → Bool) (W : WX) (C : Nat → List D → M D) (elt tg iter : Expr) (ifs : List Expr) (scope : Scope) (ow : List (Str × Nat)) (t : Tg) (mi : MI) (cs : MEs) (me : ME) : Prop where
  hi : II Ow.isObj X CM own W C tg iter mi
  ok : BlkOk X.N X.env.scope scope ow
  hg : ∀ (s : Shared) (H : Hp) (C' : Addr) (cl : List (Str × Addr)) (fp : List Addr), GJ (X.blk s H scope (compEnvC scope cl C' X.env) fp) own tg t
  ht : ∀ (s : Shared) (H : Hp) (C' : Addr) (cl : List (Str × Addr)) (fp : List Addr), TJ (X.blk s H scope (compEnvC scope cl C' X.env) fp) CM own W0 C ifs cs
  he : ∀ (s : Shared) (H : Hp) (C' : Addr) (cl : List (Str × Addr)) (fp : List Addr), EJ (X.blk s H scope (compEnvC scope cl C' X.env) fp) CM own W0 C elt me
  hs : ∀ x, foldedSetIterable iter X.env x = pure x
  hsl : ∀ j ∈ t.slots, j ∈ ow.map (·.2)
theorem ej_comp {elt tg iter : Expr} {ifs : List Expr} {scope : Scope} {pos : Pos} {ow : List (Str × Nat)} {t : Tg} {mi : MI} {cs : MEs} {me : ME} (hc : X.calm = true) (hN : X.N.Nodup) (h : CompOk X CM own W C elt tg iter ifs scope ow t mi cs me) :
    EJ X CM own W C (.ListComp elt [⟨tg, iter, ifs, 0⟩] scope pos) (.comp me t mi cs (ow.map (·.2))) :=
  TG.imp (pe_lc (g := tT X.K own t) (tt := tG X.K CM own W0 rT (tsts C cs)) (te := tG X.K CM own W0 (rV X.K) (ev C me)) hc hN h.hi h.ok h.hg h.ht h.he h.hs) (comp_read h.hsl)
theorem ef_comp {elt tg iter : Expr} {ifs : List Expr} {scope : Scope} {pos : Pos} {ow : List (Str × Nat)} {t : Tg} {mi : MI} {cs : MEs} {me : ME} (hc : X.calm = true) (hN : X.N.Nodup) (h : CompOk X CM own W C elt tg iter ifs scope ow t mi cs me) :
    EF X CM own W C (.ListComp elt [⟨tg, iter, ifs, 0⟩] scope pos) (.comp me t mi cs (ow.map (·.2))) :=
  TG.imp (pe_lc (g := tT X.K own t) (tt := tG X.K CM own W0 rT (tsts C cs)) (te := tG X.K CM own W0 (rV X.K) (ev C me)) hc hN h.hi h.ok h.hg h.ht h.he h.hs) (comp_readF h.hsl)
end
end Mi

set_option Elab.async false
set_option linter.all false
set_option maxRecDepth 100000
set_option maxHeartbeats 4000000
/-! Mi over the hand layer: calls. -/
namespace Mi
open PySem PySem.Spec PyProof.Rows L2
/-- owners that matter no more to a value -/
structure LessF (O O' : OM) : Prop where
  fz : ∀ a, Fz O a → Fz O' a
  obj : ∀ i a, O (.obj i) = some a → O' (.obj i) = some a
section
variable {K : PySem.W.Frag} {CM : Str → Option Addr} {H H' : Hp} {O O' : OM} {h : AH}
mutual
theorem Rp.lessF (l : LessF O O') : ∀ {v : V} {d : D}, Rp K H O v d → Rp K H O' v d
  | _, _, .non => .non
  | _, _, .bl b => .bl b
  | _, _, .int i => .int i
  | _, _, .str x => .str x
  | _, _, .tup t r => .tup (t.elim (fun h => .inl ⟨h.1, l.fz _ h.2⟩) .inr) (Rps.lessF l r)
  | _, _, .lst t r => .lst ⟨t.1, l.fz _ t.2⟩ (Rps.lessF l r)
  | _, _, .fz t r => .fz (t.elim (fun ⟨o, h, f⟩ => .inl ⟨o, h, l.fz _ f⟩) .inr) (Rps.lessF l r)
  | _, _, .ref e => .ref (l.obj _ _ e)
  | _, _, .dK h f e r => .dK h (l.fz _ f) e (Rps.lessF l r)
  | _, _, .dT h f e r => .dT h (l.fz _ f) e (Rps.lessF l r)
theorem Rps.lessF (l : LessF O O') : ∀ {vs : List V} {ds : List D}, Rps K H O vs ds → Rps K H O' vs ds
  | _, _, .nil => .nil
  | _, _, .cons r t => .cons (Rp.lessF l r) (Rps.lessF l t)
end
theorem OwnAt.lessF (l : LessF O O') {a : Addr} {d : D} : OwnAt K H O a d → OwnAt K H O' a d
  | .lst h r => .lst h (r.lessF l)
  | .dK h e r => .dK h e (r.lessF l)
  | .dT h e r => .dT h e (r.lessF l)
theorem RpF.lessF (l : LessF O O') : ∀ {vs ds}, RpF K H O vs ds → RpF K H O' vs ds
  | _, _, .nil => .nil
  | _, _, .cons r t => .cons (r.lessF l) (RpF.lessF l t)
theorem XRp.lessF (l : LessF O O') {c fs cls dd} : XRp K CM H O c fs cls dd → XRp K CM H O' c fs cls dd := fun ⟨C, h1, h2, h3⟩ => ⟨C, h1, h2, h3.imp id fun ⟨d, fvs, a, b, f, r⟩ => ⟨d, fvs, a, b, l.fz _ f, r.lessF l⟩⟩
theorem RpO.lessF (l : LessF O O') {a : Addr} {o : AO} (r : RpO K H O a o) : RpO K H O' a o := by
  cases o with
  | lst ds => obtain ⟨vs, q, t⟩ := r; exact ⟨vs, q, t.lessF l⟩
  | ins c fs => exact r
/-- the owners as a callee sees them: its caller's are kept aside -/
noncomputable def cO (O : OM) : OM := fun w => match w with
  | .slot _ => none
  | .tmp b => open Classical in if ∃ w, w.isObj = false ∧ O w = some b then some b else none
  | .obj i => O (.obj i)
theorem cO_tmp {b a : Addr} (h : cO O (.tmp b) = some a) : a = b ∧ ∃ w, w.isObj = false ∧ O w = some a := by
  simp only [cO] at h
  split at h
  · rename_i q; cases h; exact ⟨rfl, q⟩
  · cases h
theorem cO_of {w : Ow} {b : Addr} (hw : w.isObj = false) (h : O w = some b) : cO O (.tmp b) = some b := by
  simp only [cO]
  rw [if_pos ⟨w, hw, h⟩]
theorem cO_some {w : Ow} {a : Addr} (h : cO O w = some a) : ∃ w', O w' = some a := by
  cases w with
  | slot i => cases h
  | tmp b => obtain ⟨_, w, _, q⟩ := cO_tmp h; exact ⟨w, q⟩
  | obj i => exact ⟨_, h⟩
theorem cO_less : LessF O (cO O) := ⟨fun a f w e => by obtain ⟨w', q⟩ := cO_some e; exact f w' q, fun _ _ e => e⟩
theorem RepH.cO (r : RepH K H O h) : RepH K H (cO O) h := by
  refine ⟨fun w w' a e e' => ?_, fun i o e => ?_, fun i a e => r.lim i a e, fun w a e => ?_, fun b a e => (cO_tmp e).1⟩
  · cases w with
    | slot i => cases e
    | tmp b =>
      obtain ⟨rfl, w1, n1, q1⟩ := cO_tmp e
      cases w' with
      | slot i => cases e'
      | tmp b' => obtain ⟨rfl, _⟩ := cO_tmp e'; rfl
      | obj i => have := r.inj _ _ _ q1 e'; subst this; cases n1
    | obj i =>
      cases w' with
      | slot j => cases e'
      | tmp b' => obtain ⟨rfl, w1, n1, q1⟩ := cO_tmp e'; have := r.inj _ _ _ q1 e; subst this; cases n1
      | obj j => exact r.inj _ _ _ e e'
  · obtain ⟨a, e1, e2⟩ := r.hp i o e
    exact ⟨a, e1, e2.lessF cO_less⟩
  · obtain ⟨w', q⟩ := cO_some e
    exact r.dom w' a q
/-- behind the call: the caller's own, the callee's objects -/
def mO (O O' : OM) : OM := fun w => if w.isObj = true then O' w else O w
theorem mO_obj {i : Nat} : mO O O' (.obj i) = O' (.obj i) := rfl
theorem mO_non {w : Ow} (hw : w.isObj = false) : mO O O' w = O w := by unfold mO; rw [if_neg (by rw [hw]; exact Bool.false_ne_true)]
theorem mO_less (s : Step (cO O) H O' H') : LessF O' (mO O O') := ⟨fun a f w e => by
  cases hw : w.isObj with
  | true => unfold mO at e; rw [if_pos hw] at e; exact f w e
  | false => rw [mO_non hw] at e; exact f _ (s.loc _ _ rfl (cO_of hw e)), fun _ _ e => e⟩
theorem mO_step (rh : RepH K H O h) (s : Step (cO O) H O' H') : Step O H (mO O O') H' := by
  refine ⟨fun a o e f => s.keep a o e (cO_less.fz a f), fun w a p e => by rw [mO_non p]; exact e, fun w a o p e e' => ?_, fun i a e => s.obj i a e, fun w a e => ?_, s.live⟩
  · exact s.sk _ _ _ rfl (cO_of p e) e'
  · cases hw : w.isObj with
    | true =>
      unfold mO at e; rw [if_pos hw] at e
      rcases s.new w a e with q | q
      · cases w with
        | obj i => exact .inl q
        | slot i => cases hw
        | tmp i => cases hw
      · exact .inr q
    | false => rw [mO_non hw] at e; exact .inl e
theorem mO_rep {h' : AH} (rh : RepH K H O h) (s : Step (cO O) H O' H') (r : RepH K H' O' h') : RepH K H' (mO O O') h' := by
  have key : ∀ {i : Nat} {w : Ow} {a : Addr}, O' (.obj i) = some a → w.isObj = false → O w = some a → False := fun {i w a} e hw q => by
    have := r.inj _ _ _ e (s.loc _ _ rfl (cO_of hw q))
    cases this
  refine ⟨fun w w' a e e' => ?_, fun i o e => ?_, fun i a e => r.lim i a e, fun w a e => ?_, fun b a e => rh.tmp b a e⟩
  · cases hw : w.isObj with
    | true =>
      cases w with
      | obj i =>
        cases hw' : w'.isObj with
        | true => cases w' with
          | obj j => exact r.inj _ _ _ e e'
          | slot _ => cases hw'
          | tmp _ => cases hw'
        | false => rw [mO_non hw'] at e'; exact (key e hw' e').elim
      | slot _ => cases hw
      | tmp _ => cases hw
    | false =>
      rw [mO_non hw] at e
      cases hw' : w'.isObj with
      | true => cases w' with
        | obj j => exact (key e' hw e).elim
        | slot _ => cases hw'
        | tmp _ => cases hw'
      | false => rw [mO_non hw'] at e'; exact rh.inj _ _ _ e e'
  · obtain ⟨a, e1, e2⟩ := r.hp i o e
    exact ⟨a, e1, e2.lessF (mO_less s)⟩
  · cases hw : w.isObj with
    | true => unfold mO at e; rw [if_pos hw] at e; exact r.dom w a e
    | false =>
      rw [mO_non hw] at e
      obtain ⟨o, q⟩ := rh.dom w a e
      exact s.live a o q
end
/-- what a def promises: the evaluator's answer -/
def spF (K : PySem.W.Frag) (CM : Str → Option Addr) (c : List D → M D) (np : Nat) : Sp := fun vs H Q E => vs.length = np ∧ ∃ (O : OM) (h : AH) (ds : List D), (∀ n, O (.slot n) = none) ∧ RepH K H O h ∧ Rps K H O vs ds ∧ match c ds h with
  | some (.ok d h') => ∀ v H' O', Step O H O' H' → RepH K H' O' h' → Rp K H' O' v d → Q v H'
  | some (.exc x fs h') => ∀ cls dd H' O', Step O H O' H' → RepH K H' O' h' → XRp K CM H' O' x fs cls dd → E cls dd H'
  | none => False
section
variable {X : Cx} {CM : Str → Option Addr} {own : Nat → Bool} {W : WX} {C : Nat → List D → M D}
theorem ej_call {i k np : Nat} {f : Addr} {fd : FuncData} {ps : List Str} {x : Str} {p pos : Pos} {e : Expr} {es : List Expr} {m : MEs} (F : FnOk X.prog X.w X.K X.mg X.base (L2.CX X.prog X.w) k f fd ps (spF X.K CM (C i) np)) (hC : ∀ ds h, C i ds h ≠ none → ds.length = np)
    (hr : Room k X.A) (hg : Gl X x) (hm : X.mg x = some (.ref f)) (hk : PySem.W.keepIn X.K (.ref f) = true) (hb : Binds X.K fd ps []) (tk : Takes X W)
    (ha : EJs X CM own W C (e :: es) m) (hdb : (x == ("__debug__" : Str)) = false) (he : starEach (e :: es) X.env = (false, eval e X.env) :: starEach es X.env) (hpl : (backTo pos (starEach es X.env)).any (·.1) = false) :
    EJ X CM own W C (.Call (.Name x p) (e :: es) [] pos) (.call i m) :=
  TG.imp (pe_callS (E := WE W) F hr hg hm hk hb (fun σ => passAt tk σ) ha hdb he hpl) fun σ H Q ⟨ρ, O, hp, re, rh, pp⟩ => by
    simp only [ev] at pp
    refine ⟨ρ, O, hp, re, rh, (EvG.bind pp).imp fun vs H1 ⟨O1, h1, ds, s1, rh1, r1, p1⟩ => ?_⟩
    cases q : C i ds h1 with
    | none => rw [q] at p1; exact p1.elim
    | some y =>
      have hl := hC ds h1 (by rw [q]; exact fun z => nomatch z)
      refine ⟨by rw [r1.length]; exact hl, cO O1, h1, ds, fun _ => rfl, rh1.cO, r1.lessF cO_less, ?_⟩
      rw [q] at p1 ⊢
      cases y with
      | ok d h' => exact fun v H' O' s rh' rv => p1 v H' (mO O1 O') (mO_step rh1 s) (mO_rep rh1 s rh') (rv.lessF (mO_less s))
      | exc c fs h' => exact fun cls dd H' O' s rh' xr => p1 cls dd H' (mO O1 O') (mO_step rh1 s) (mO_rep rh1 s rh') (xr.lessF (mO_less s))
end
end Mi

set_option Elab.async false
set_option linter.all false
set_option maxRecDepth 100000
set_option maxHeartbeats 4000000
/-! Mi over the hand layer: statements. -/
namespace Mi
open PySem PySem.Spec PyProof.Rows L2
/-- the slots that a statement may turn -/
def Pm (S : Nat → Bool) : Ow → Bool
  | .slot i => S i
  | .tmp _ => false
  | .obj _ => true
abbrev Pall : Ow → Bool := Pm fun _ => true
theorem Pm.step {S : Nat → Bool} {O O' : OM} {H H' : Hp} (s : Step O H O' H') : StP (Pm S) O H O' H' := s.mono fun w h => by cases w with
  | obj i => cases h
  | slot i => rfl
  | tmp i => rfl
theorem Pm.all {S : Nat → Bool} {O O' : OM} {H H' : Hp} (s : StP (Pm S) O H O' H') : StP Pall O H O' H' := s.mono fun w h => by cases w with
  | obj i => cases h
  | slot i => cases h
  | tmp i => rfl
theorem Pm.sub {S T : Nat → Bool} (hST : ∀ i, S i = true → T i = true) {O O' : OM} {H H' : Hp} (s : StP (Pm S) O H O' H') : StP (Pm T) O H O' H' := s.mono fun w h => by cases w with
  | obj i => cases h
  | slot i =>
    have h' : T i = false := h
    show S i = false
    cases q : S i with
    | false => rfl
    | true => rw [hST i q] at h'; cases h'
  | tmp i => rfl
section
variable (K : PySem.W.Frag) (CM : Str → Option Addr) (own : Nat → Bool) (W : WX) (S : Nat → Bool)
def EvS (O : OM) (H : Hp) (r : Option SR) (D : Ends) : Prop := match r with
  | some (.nx ρ h) => ∀ σ' H' O', StP (Pm S) O H O' H' → RepH K H' O' h → RepE K H' O' own σ' ρ → D.nx σ' H'
  | some (.rt d h) => ∀ v H' O', StP Pall O H O' H' → RepH K H' O' h → Rp K H' O' v d → D.rt v H'
  | some (.bk ρ h) => ∀ σ' H' O', StP (Pm S) O H O' H' → RepH K H' O' h → RepE K H' O' own σ' ρ → D.bk σ' H'
  | some (.ct ρ h) => ∀ σ' H' O', StP (Pm S) O H O' H' → RepH K H' O' h → RepE K H' O' own σ' ρ → D.ct σ' H'
  | some (.ex c fs ρ h) => ∀ cls dd σ' H' O', StP (Pm S) O H O' H' → RepH K H' O' h → RepE K H' O' own σ' ρ → XRp K CM H' O' c fs cls dd → W cls dd σ' H'
  | none => False
def tS (m : Env → AH → Option SR) : TS := fun D σ H => ∃ (ρ : Env) (O : OM) (h : AH), RepE K H O own σ ρ ∧ RepH K H O h ∧ EvS K CM own W S O H (m ρ h) D
end
section
variable {K : PySem.W.Frag} {CM : Str → Option Addr} {own : Nat → Bool} {W : WX} {S : Nat → Bool} {O O1 : OM} {H H1 : Hp} {σ : L2.St} {ρ : Env} {h : AH} {D : Ends}
theorem EvS.on {r : Option SR} (p : EvS K CM own W S O H r D) (s : StP (Pm S) O H O1 H1) : EvS K CM own W S O1 H1 r D := by
  cases r with
  | none => exact p
  | some x =>
    cases x with
    | nx ρ h => exact fun σ' H' O' t rh re => p σ' H' O' (s.trans t) rh re
    | rt d h => exact fun v H' O' t rh rv => p v H' O' ((Pm.all s).trans t) rh rv
    | bk ρ h => exact fun σ' H' O' t rh re => p σ' H' O' (s.trans t) rh re
    | ct ρ h => exact fun σ' H' O' t rh re => p σ' H' O' (s.trans t) rh re
    | ex c fs ρ h => exact fun cls dd σ' H' O' t rh re xr => p cls dd σ' H' O' (s.trans t) rh re xr
/-- the ends of a first part -/
def Ends.to (D : Ends) (nx : L2.St → Hp → Prop) : Ends := { D with nx := nx }
theorem EvS.sq {r : Option SR} {f : Env → AH → Option SR} (p : EvS K CM own W S O H (SR.sq r f) D) : EvS K CM own W S O H r { D with nx := fun σ' H' => tS K CM own W S f D σ' H' } := by
  cases r with
  | none => exact p
  | some x =>
    cases x with
    | nx ρ h => exact fun σ' H' O' t rh re => ⟨ρ, O', h, re, rh, EvS.on (show EvS K CM own W S O H (f ρ h) D from p) t⟩
    | rt d h => exact p
    | bk ρ h => exact p
    | ct ρ h => exact p
    | ex c fs ρ h => exact p
/-- an expression ahead of a statement -/
theorem EvS.bd {α β : Type} {rel : Hp → OM → β → α → Prop} {r : Option (ER α)} {f : α → AH → Option SR} (re : RepE K H O own σ ρ) (p : EvS K CM own W S O H (SR.bd ρ r f) D) :
    EvG K CM W rel O H σ r fun v H1 => ∃ O1 h1 d, Step O H O1 H1 ∧ RepH K H1 O1 h1 ∧ rel H1 O1 v d ∧ EvS K CM own W S O1 H1 (f d h1) D := by
  cases r with
  | none => exact p
  | some x =>
    cases x with
    | ok d h' => exact fun v H' O' s rh rl => ⟨O', h', d, s, rh, rl, EvS.on (show EvS K CM own W S O H (f d h') D from p) (Pm.step s)⟩
    | exc c fs h' => exact fun cls dd H' O' s rh xr => p cls dd σ H' O' (Pm.step s) rh (re.step s) xr
end
section
variable {X : Cx} {CM : Str → Option Addr} {own : Nat → Bool} {W : WX} {C : Nat → List D → M D} {G : List XC} {S : Nat → Bool}
theorem TSt.imp {st : Stmt} {t t' : TS} (h : PS X st t) (i : ∀ D σ H, t' D σ H → t D σ H) : PS X st t' := ⟨fun pins s σ H D I q => h.run pins s σ H D I (i D σ H q)⟩
theorem TSs2.imp {st : List Stmt} {t t' : TS} (h : PSs X st t) (i : ∀ D σ H, t' D σ H → t D σ H) : PSs X st t' := ⟨fun pins s σ H D I q => h.run pins s σ H D I (i D σ H q)⟩
/-- a statement's judgement, a block's -/
abbrev SJ (X : Cx) (CM : Str → Option Addr) (own : Nat → Bool) (W : WX) (S : Nat → Bool) (C : Nat → List D → M D) (G : List XC) (st : Stmt) (m : MS) : Prop := PS X st (tS X.K CM own W S (exc C G m))
abbrev SJs (X : Cx) (CM : Str → Option Addr) (own : Nat → Bool) (W : WX) (S : Nat → Bool) (C : Nat → List D → M D) (G : List XC) (st : List Stmt) (m : MSs) : Prop := PSs X st (tS X.K CM own W S (exs C G m))
theorem sjs_nil : SJs X CM own W S C G [] .nil := TSs2.imp pss_nil fun D σ H ⟨ρ, O, h, re, rh, p⟩ => by
  simp only [exs] at p
  exact p σ H O (StP.refl _ _ _) rh re
theorem sjs_cons {st : Stmt} {sts : List Stmt} {m : MS} {ms : MSs} (h1 : SJ X CM own W S C G st m) (h2 : SJs X CM own W S C G sts ms) : SJs X CM own W S C G (st :: sts) (.cons m ms) :=
  TSs2.imp (pss_cons h1 h2) fun D σ H ⟨ρ, O, h, re, rh, p⟩ => by
    simp only [exs] at p
    exact ⟨ρ, O, h, re, rh, EvS.sq p⟩
theorem sj_expr {e : Expr} {m : ME} {pos : Pos} (h : EJ X CM own W C e m) (hs : swapsWith e none pos.line X.env = pure false) : SJ X CM own W S C G (.Expr e pos) (.expr m) :=
  TSt.imp (ps_expr h hs) fun D σ H ⟨ρ, O, hp, re, rh, p⟩ => by
    simp only [exc] at p
    refine ⟨ρ, O, hp, re, rh, (EvS.bd re p).imp fun v H1 ⟨O1, h1, d, s1, rh1, rv, p1⟩ => ?_⟩
    exact p1 σ H1 O1 (StP.refl _ _ _) rh1 (re.step s1)
theorem sj_pass {pos : Pos} : SJ X CM own W S C G (.Pass pos) .pas := TSt.imp ps_pass fun D σ H ⟨ρ, O, hp, re, rh, p⟩ => by
  simp only [exc] at p
  exact p σ H O (StP.refl _ _ _) rh re
theorem sj_break {pos : Pos} : SJ X CM own W S C G (.Break pos) .brk := TSt.imp ps_break fun D σ H ⟨ρ, O, hp, re, rh, p⟩ => by
  simp only [exc] at p
  exact p σ H O (StP.refl _ _ _) rh re
theorem sj_cont {pos : Pos} : SJ X CM own W S C G (.Continue pos) .cnt := TSt.imp ps_continue fun D σ H ⟨ρ, O, hp, re, rh, p⟩ => by
  simp only [exc] at p
  exact p σ H O (StP.refl _ _ _) rh re
theorem sj_retN {pos : Pos} : SJ X CM own W S C G (.Return none pos) .retN := TSt.imp ps_retN fun D σ H ⟨ρ, O, hp, re, rh, p⟩ => by
  simp only [exc] at p
  exact p .non H O (StP.refl _ _ _) rh .non
/-! return: the frame's own lists are given out -/
def rO (O : OM) : OM := fun w => match w with
  | .slot _ => none
  | w => O w
theorem rO_some {O : OM} {w : Ow} {a : Addr} (h : rO O w = some a) : O w = some a ∧ ∀ i, w ≠ .slot i := by
  cases w with
  | slot i => cases h
  | tmp b => exact ⟨h, fun i z => nomatch z⟩
  | obj i => exact ⟨h, fun i z => nomatch z⟩
theorem rO_less {O : OM} : Less O (rO O) := ⟨fun w a e => (rO_some e).1, fun _ _ e => e⟩
theorem Less.F {O O' : OM} (l : Less O O') : LessF O O' := ⟨fun a f => l.fz f, l.obj⟩
theorem rO_env {K : PySem.W.Frag} {H : Hp} {O : OM} {σ : L2.St} {ρ : Env} {h : AH} (rh : RepH K H O h) (r : RepE K H O own σ ρ) : RepE K H (rO O) (fun _ => false) σ ρ := by
  refine ⟨r.len, fun i d e _ => ?_, fun i d e o => by cases o⟩
  cases q : own i with
  | false =>
    obtain ⟨v, h1, h2⟩ := r.val i d e q
    exact ⟨v, h1, h2.lessF rO_less.F⟩
  | true =>
    obtain ⟨a, h2, h3, h4⟩ := r.lst i d e q
    have f : Fz (rO O) a := fun w e' => by
      obtain ⟨e1, e2⟩ := rO_some e'
      exact e2 i (rh.inj _ _ _ e1 h3)
    refine ⟨_, h2, ?_⟩
    cases h4 with
    | lst h r => exact .lst ⟨h, f⟩ (r.lessF rO_less.F)
    | dK h e2 r => exact .dK (.inl h) f e2 (r.lessF rO_less.F)
    | dT h e2 r => exact .dT (.inl h) f e2 (r.lessF rO_less.F)
theorem rO_step {O : OM} {H : Hp} : StP Pall O H (rO O) H := by
  refine ⟨fun _ _ e _ => .inl e, fun w a p e => ?_, fun _ _ _ _ _ e => e, fun _ _ e => e, fun w a e => .inl (rO_some e).1, fun _ o e => ⟨o, e⟩⟩
  cases w with
  | slot i => cases p
  | tmp b => exact e
  | obj i => cases p
theorem sj_ret {e : Expr} {m : ME} {pos : Pos} (h : EJ X CM own W C e m) : SJ X CM own W S C G (.Return (some e) pos) (.ret m) :=
  TSt.imp (ps_ret h) fun D σ H ⟨ρ, O, hp, re, rh, p⟩ => by
    simp only [exc] at p
    exact ⟨ρ, O, hp, re, rh, (EvS.bd re p).imp fun v H1 ⟨O1, h1, d, s1, rh1, rv, p1⟩ => p1 v H1 O1 (StP.refl _ _ _) rh1 rv⟩
theorem sj_retO {e : Expr} {m : ME} {pos : Pos} (h : EJ X CM (fun _ => false) W C e m) : SJ X CM own W S C G (.Return (some e) pos) (.retO m) :=
  TSt.imp (ps_ret h) fun D σ H ⟨ρ, O, hp, re, rh, p⟩ => by
    simp only [exc] at p
    refine ⟨ρ, rO O, hp, rO_env rh re, rh.less rO_less, ?_⟩
    rcases nox_cases (ev C m ρ) hp with q | ⟨d, h', q⟩
    · rw [q] at p; exact p.elim
    · rw [q] at p
      unfold M.nox at q
      cases w : ev C m ρ hp with
      | none => rw [w] at q; cases q
      | some y =>
        rw [w] at q
        cases y with
        | exc c fs h2 => cases q
        | ok b h2 =>
          cases q
          exact fun v H' O' s rh' rv => p v H' O' (rO_step.trans (Pm.step s)) rh' rv
theorem sj_if {c : Expr} {a b : List Stmt} {mc : ME} {ma mb : MSs} {pos : Pos} (hc : ET X CM own W C c mc) (ha : SJs X CM own W S C G a ma) (hb : SJs X CM own W S C G b mb) : SJ X CM own W S C G (.If c a b pos) (.ife mc ma mb) :=
  TSt.imp (ps_if hc ha hb) fun D σ H ⟨ρ, O, hp, re, rh, p⟩ => by
    simp only [exc] at p
    refine ⟨ρ, O, hp, re, rh, (EvS.bd re p).imp fun k H1 ⟨O1, h1, k', s1, rh1, r1, p1⟩ => ?_⟩
    subst r1
    cases k with
    | true => rw [if_pos rfl] at p1 ⊢; exact ⟨ρ, O1, h1, re.step s1, rh1, p1⟩
    | false => rw [if_neg Bool.false_ne_true] at p1 ⊢; exact ⟨ρ, O1, h1, re.step s1, rh1, p1⟩
/-! stores -/
theorem sj_set {i : Nat} {x : Str} {e : Expr} {m : ME} {pos' pos : Pos} (hN : X.N.Nodup) (hi : X.N[i]? = some x) (hx : Loc X.env.scope x) (he : EJ X CM own W C e m) (hs : swapsWith e (some (.Name x pos')) pos.line X.env = pure false) (hf : X.fn x = true ∨ X.env.scope.names.lookup x = some .local) (ho : own i = false) :
    SJ X CM own W S C G (.Assign [.Name x pos'] e pos) (.asg (.name i) m) :=
  TSt.imp (ps_set hN hi hx he hs hf) fun D σ H ⟨ρ, O, hp, re, rh, p⟩ => by
    simp only [exc] at p
    exact ⟨ρ, O, hp, re, rh, (EvS.bd re p).imp fun v H1 ⟨O1, h1, d, s1, rh1, rv, p1⟩ => p1 _ H1 O1 (StP.refl _ _ _) rh1 ((re.step s1).set ho rv)⟩
theorem sj_setLc {i : Nat} {y : Str} {py : Pos} {elt tg iter : Expr} {ifs : List Expr} {scope : Scope} {pos spos : Pos} {ow : List (Str × Nat)} {t : Tg} {mi : MI} {cs : MEs} {me : ME} (hc : X.calm = true) (hN : X.N.Nodup) (hy : X.N[i]? = some y) (hyl : X.env.scope.names.lookup y = some .local)
    (hsw : swapsWith (.ListComp elt [⟨tg, iter, ifs, 0⟩] scope pos) (some (.Name y py)) spos.line X.env = pure true) (h : CompOk X CM own W C elt tg iter ifs scope ow t mi cs me) (ho : own i = false) :
    SJ X CM own W S C G (.Assign [.Name y py] (.ListComp elt [⟨tg, iter, ifs, 0⟩] scope pos) spos) (.asg (.name i) (.comp me t mi cs (ow.map (·.2)))) :=
  TSt.imp (ps_setLc (g := tT X.K own t) (tt := tG X.K CM own W0 rT (tsts C cs)) (te := tG X.K CM own W0 (rV X.K) (ev C me)) hc hN hy hyl hsw h.hi h.ok h.hg h.ht h.he h.hs) fun D σ H ⟨ρ, O, hp, re, rh, p⟩ => by
    simp only [exc] at p
    exact comp_read h.hsl _ _ _ ⟨ρ, O, hp, re, rh, (EvS.bd re p).imp fun v H1 ⟨O1, h1, d, s1, rh1, rv, p1⟩ => p1 _ H1 O1 (StP.refl _ _ _) rh1 ((re.step s1).set ho rv)⟩
theorem sj_asg {tg e : Expr} {t : Tg} {m : ME} {pos : Pos} (he : EJ X CM own W C e m) (hg : GJ X own tg t) (hs : swapsWithSole [tg] e pos.line X.env = pure false) (hw : swappedStores [tg] e X.env = pure none) (h1 : (assignEach [tg] X.env).map (·.2) = [assign tg X.env]) :
    SJ X CM own W S C G (.Assign [tg] e pos) (.asg t m) :=
  TSt.imp (ps_asg he hg hs hw h1) fun D σ H ⟨ρ, O, hp, re, rh, p⟩ => by
    simp only [exc] at p
    refine ⟨ρ, O, hp, re, rh, (EvS.bd re p).imp fun v H1 ⟨O1, h1, d, s1, rh1, rv, p1⟩ => ?_⟩
    cases q : t.set d ρ with
    | none => rw [q] at p1; exact p1.elim
    | some ρ' =>
      rw [q] at p1
      exact ⟨ρ, O1, h1, d, ρ', re.step s1, rh1, rv, q, fun σ' af => p1 σ' H1 O1 (StP.refl _ _ _) rh1 af.1⟩
theorem sj_par {i j : Nat} {x y : Str} {a b : Expr} {ma mb : ME} {px py pt : Pos} {kt k2 pt2 pos} (hc : X.calm = true) (hN : X.N.Nodup) (hi : X.N[i]? = some x) (hj : X.N[j]? = some y) (hij : i ≠ j)
    (hx : X.env.scope.names.lookup x = some .local) (hy : X.env.scope.names.lookup y = some .local) (ha : EJ X CM own W C a ma) (hb : EJ X CM own W C b mb)
    (hw : swappedStores [.Tuple [.Name x px, .Name y py] kt pt] (.Tuple [a, b] k2 pt2) X.env = pure (some [x, y]))
    (hs : swapsWithSole [.Tuple [.Name x px, .Name y py] kt pt] (.Tuple [a, b] k2 pt2) pos.line X.env = pure false) (h1 : starEach [a, b] X.env = (false, eval a X.env) :: starEach [b] X.env) (h2 : starEach [b] X.env = (false, eval b X.env) :: starEach [] X.env) (hoi : own i = false) (hoj : own j = false) :
    SJ X CM own W S C G (.Assign [.Tuple [.Name x px, .Name y py] kt pt] (.Tuple [a, b] k2 pt2) pos) (.par i j ma mb) :=
  TSt.imp (ps_par hc hN hi hj hij hx hy (pa_cons ha (pa_cons hb pa_nil h2) h1) hw hs) fun D σ H ⟨ρ, O, hp, re, rh, p⟩ => by
    simp only [exc] at p
    refine ⟨ρ, O, hp, re, rh, (EvS.bd re p).imp fun v H1 ⟨O1, h1, d, s1, rh1, rv, p1⟩ => ⟨ρ, O1, h1, re.step s1, rh1, (EvS.bd (re.step s1) p1).imp fun w H2 ⟨O2, h2, e, s2, rh2, rw', p2⟩ => ?_⟩⟩
    exact ⟨v, w, rfl, p2 _ H2 O2 (StP.refl _ _ _) rh2 ((((re.step s1).step s2).set hoi (rv.step s2)).set hoj rw')⟩
/-! loops -/
/-- a while by its number of turns -/
def itW (c : Env → M Bool) (b : Env → AH → Option SR) : Nat → Env → AH → Option SR
  | 0, _, _ => none
  | n + 1, ρ, h => match c ρ h with
    | none => none
    | some (.exc c fs h) => some (.ex c fs ρ h)
    | some (.ok false h) => some (.nx ρ h)
    | some (.ok true h) => match b ρ h with
      | some (.nx ρ' h') => itW c b n ρ' h'
      | some (.ct ρ' h') => itW c b n ρ' h'
      | some (.bk ρ' h') => some (.nx ρ' h')
      | r => r
theorem whl_it {c : Env → M Bool} {b : Env → AH → Option SR} : ∀ (ρ : Env) (h : AH) (r : SR), whlL c b ρ h = some r → ∃ n, itW c b n ρ h = some r := by
  refine whlL.partial_correctness c b (fun ρ h r => ∃ n, itW c b n ρ h = some r) fun f ih ρ h r e => ?_
  cases q : c ρ h with
  | none => simp only [q] at e; cases e
  | some x =>
    cases x with
    | exc c' fs h' =>
      simp only [q] at e
      exact ⟨1, by simp only [itW, q]; exact e⟩
    | ok k h' =>
      cases k with
      | false =>
        simp only [q] at e
        exact ⟨1, by simp only [itW, q]; exact e⟩
      | true =>
        simp only [q] at e
        cases q2 : b ρ h' with
        | none => simp only [q2] at e; cases e
        | some y =>
          cases y with
          | nx ρ' h'' =>
            simp only [q2] at e
            obtain ⟨n, hn⟩ := ih _ _ _ e
            exact ⟨n + 1, by simp only [itW, q, q2]; exact hn⟩
          | ct ρ' h'' =>
            simp only [q2] at e
            obtain ⟨n, hn⟩ := ih _ _ _ e
            exact ⟨n + 1, by simp only [itW, q, q2]; exact hn⟩
          | bk ρ' h'' => simp only [q2] at e; exact ⟨1, by simp only [itW, q, q2]; exact e⟩
          | rt d h'' => simp only [q2] at e; exact ⟨1, by simp only [itW, q, q2]; exact e⟩
          | ex c' fs ρ' h'' => simp only [q2] at e; exact ⟨1, by simp only [itW, q, q2]; exact e⟩
theorem sj_while {c : Expr} {body : List Stmt} {mc : ME} {mb : MSs} {pos : Pos} (hp : PassesOwn (model X.prog X.w) X.A X.env X.xe) (hc : ET X CM own W C c mc) (hb : SJs X CM own W S C G body mb) : SJ X CM own W S C G (.While c body [] pos) (.whl mc mb) :=
  TSt.imp (ps_while hp hc hb) fun D σ H ⟨ρ, O, h, re, rh, p⟩ => by
    simp only [exc] at p
    cases q : whlL (tst C mc) (exs C G mb) ρ h with
    | none => rw [q] at p; exact p.elim
    | some r =>
      rw [q] at p
      obtain ⟨n, hn⟩ := whl_it _ _ _ q
      refine ⟨fun m σ H => ∃ (ρ : Env) (O : OM) (h : AH) (r : SR), RepE X.K H O own σ ρ ∧ RepH X.K H O h ∧ itW (tst C mc) (exs C G mb) m ρ h = some r ∧ EvS X.K CM own W S O H (some r) D, ⟨n, ρ, O, h, r, re, rh, hn, p⟩, ?_⟩
      clear q hn p re rh
      rintro m σ H ⟨ρ, O, h, r, re, rh, e, p⟩
      cases m with
      | zero => cases e
      | succ n =>
        refine ⟨ρ, O, h, re, rh, ?_⟩
        cases q : tst C mc ρ h with
        | none => simp only [itW, q] at e; cases e
        | some x =>
          cases x with
          | exc c' fs h' =>
            simp only [itW, q] at e
            cases e
            exact fun cls dd H' O' s rh' xr => p cls dd σ H' O' (Pm.step s) rh' (re.step s) xr
          | ok k h' =>
            cases k with
            | false =>
              simp only [itW, q] at e
              cases e
              intro v H' O' s rh' ev'
              have ev' : v = false := ev'
              subst ev'
              rw [if_neg Bool.false_ne_true]
              exact p σ H' O' (Pm.step s) rh' (re.step s)
            | true =>
              simp only [itW, q] at e
              intro v H' O' s rh' ev'
              have ev' : v = true := ev'
              subst ev'
              rw [if_pos rfl]
              refine ⟨fun σ H => ∃ (ρ : Env) (O : OM) (h : AH) (r : SR), RepE X.K H O own σ ρ ∧ RepH X.K H O h ∧ itW (tst C mc) (exs C G mb) n ρ h = some r ∧ EvS X.K CM own W S O H (some r) D, fun σ' H' w => ⟨n, Nat.lt_succ_self n, w⟩, ρ, O', h', re.step s, rh', ?_⟩
              have p' := EvS.on p (Pm.step s)
              cases q2 : exs C G mb ρ h' with
              | none => simp only [q2] at e; cases e
              | some y =>
                cases y with
                | nx ρ' h'' =>
                  simp only [q2] at e
                  exact fun σ' H2 O2 t rh2 re2 => ⟨ρ', O2, h'', r, re2, rh2, e, EvS.on p' t⟩
                | ct ρ' h'' =>
                  simp only [q2] at e
                  exact fun σ' H2 O2 t rh2 re2 => ⟨ρ', O2, h'', r, re2, rh2, e, EvS.on p' t⟩
                | bk ρ' h'' => simp only [q2] at e; cases e; exact fun σ' H2 O2 t rh2 re2 => p' σ' H2 O2 t rh2 re2
                | rt d h'' => simp only [q2] at e; cases e; exact p'
                | ex c' fs ρ' h'' => simp only [q2] at e; cases e; exact p'
theorem sj_for {tg iter : Expr} {body : List Stmt} {t : Tg} {mi : MI} {mb : MSs} {pos : Pos} (hp : PassesOwn (model X.prog X.w) X.A X.env X.xe) (hc : X.calm = true) (hi : II (Pm S) X CM own W C tg iter mi) (hg : GJ X own tg t) (hb : SJs X CM own W S C G body mb)
    (hs : ∀ x, foldedSetIterable iter X.env x = pure x) : SJ X CM own W S C G (.For tg iter body [] pos) (.for t mi mb) :=
  TSt.imp (ps_for hp hc hi hg hb hs) fun D σ H ⟨ρ, O, h, re, rh, p⟩ => by
    simp only [exc] at p
    refine ⟨ρ, O, h, re, rh, (EvS.bd re p).imp fun J H1 ⟨O1, h1, ds, s1, rh1, src, p1⟩ => ?_⟩
    generalize hbody : (fun x ρ1 h1 => match t.set x ρ1 with | some ρ2 => exs C G mb ρ2 h1 | none => none) = bd at p1
    cases q : forL bd ds ρ h1 with
    | none => rw [q] at p1; exact p1.elim
    | some r =>
      rw [q] at p1
      refine ⟨fun i m σ H => ∃ (ρ : Env) (O' : OM) (h : AH) (r : SR), StP (Pm S) O1 H1 O' H ∧ RepE X.K H O' own σ ρ ∧ RepH X.K H O' h ∧ i ≤ ds.length ∧ m = ds.length - i ∧ forL bd (ds.drop i) ρ h = some r ∧ EvS X.K CM own W S O' H (some r) D,
        ⟨ds.length, ρ, O1, h1, r, StP.refl _ _ _, re.step s1, rh1, Nat.zero_le _, rfl, by rw [List.drop_zero]; exact q, p1⟩, ?_⟩
      clear q p1
      rintro i m σ H ⟨ρ, O', h, r, st, re, rh, hi', em, e, p⟩
      by_cases hlt : i < ds.length
      · refine .inr ⟨src.go _ _ st i hlt, fun σ H => ∃ (ρ : Env) (O' : OM) (h : AH) (r : SR), StP (Pm S) O1 H1 O' H ∧ RepE X.K H O' own σ ρ ∧ RepH X.K H O' h ∧ i + 1 ≤ ds.length ∧ m - 1 = ds.length - (i + 1) ∧ forL bd (ds.drop (i + 1)) ρ h = some r ∧ EvS X.K CM own W S O' H (some r) D,
          fun σ' H' w => ⟨m - 1, by omega, w⟩, fun x H' y => ?_⟩
        obtain ⟨d, ed, st2, rh2, rx⟩ := src.yld _ _ _ st rh i x H' hlt y
        rw [List.drop_eq_getElem_cons hlt] at e
        have ed' : ds[i] = d := by rw [List.getElem?_eq_getElem hlt] at ed; exact Option.some.inj ed
        rw [ed'] at e
        simp only [forL] at e
        have p' := EvS.on p (Pm.step st2)
        cases q : t.set d ρ with
        | none => rw [← hbody] at e; simp only [q] at e; cases e
        | some ρ2 =>
          have eb : bd d ρ h = exs C G mb ρ2 h := by rw [← hbody]; simp only [q]
          rw [eb] at e
          refine ⟨ρ, O', h, d, ρ2, re.step st2, rh2, rx, q, fun σ' af => ⟨ρ2, O', h, af.1, rh2, ?_⟩⟩
          have stA : StP (Pm S) O1 H1 O' H' := st.trans (Pm.step st2)
          cases q2 : exs C G mb ρ2 h with
          | none => rw [q2] at e; cases e
          | some y =>
            rw [q2] at e
            cases y with
            | nx ρ' h'' => exact fun σ' H2 O2 t rh2 re2 => ⟨ρ', O2, h'', r, stA.trans t, re2, rh2, hlt, by omega, e, EvS.on p' t⟩
            | ct ρ' h'' => exact fun σ' H2 O2 t rh2 re2 => ⟨ρ', O2, h'', r, stA.trans t, re2, rh2, hlt, by omega, e, EvS.on p' t⟩
            | bk ρ' h'' => cases e; exact fun σ' H2 O2 t rh2 re2 => p' σ' H2 O2 t rh2 re2
            | rt d h'' => cases e; exact p'
            | ex c' fs ρ' h'' => cases e; exact p'
      · have ei : i = ds.length := by omega
        rw [ei, List.drop_length] at e
        simp only [forL] at e
        cases e
        exact .inl ⟨by rw [ei]; exact src.stop _ _ st, p σ H O' (StP.refl _ _ _) rh re⟩
end
end Mi

set_option Elab.async false
set_option linter.all false
set_option maxRecDepth 100000
set_option maxHeartbeats 4000000
/-! Mi over the hand layer: lists that are changed. -/
namespace Mi
open PySem PySem.Spec PyProof.Rows L2
section
variable {K : PySem.W.Frag} {H : Hp} {O : OM} {own : Nat → Bool} {h : AH} {S : Nat → Bool}
theorem Pm.chg {i : Nat} {a : Addr} {o : HO} (rh : RepH K H O h) (hi : O (.slot i) = some a) (hS : S i = true) : StP (Pm S) O H O (upd H a o) := (StP.chg rh hi).mono fun w hw => by
  cases w with
  | obj j => cases hw
  | tmp b => simp [Ow.isObj]
  | slot j =>
    have : S j = false := hw
    simp only [Ow.isObj, Bool.false_or, decide_eq_false_iff_not, Ow.slot.injEq]
    rintro rfl
    rw [hS] at this; cases this
theorem RepE.chgOwn {σ : L2.St} {ρ : Env} {i : Nat} {a : Addr} {vs' : List V} {ds' : List D} (r : RepE K H O own σ ρ) (rh : RepH K H O h) (ho : own i = true) (hO : O (.slot i) = some a) (hσ : σ[i]? = some (some (V.ref a))) (rs : Rps K H O vs' ds') :
    RepE K (upd H a (.lst vs')) O own σ (ρ.set i (some (.lst ds'))) := by
  have st := StP.chg (o := .lst vs') rh hO
  refine ⟨by rw [List.length_set]; exact r.len, fun j e hj oj => ?_, fun j e hj oj => ?_⟩
  · by_cases hij : i = j
    · subst hij; rw [ho] at oj; cases oj
    · rw [set_get_ne _ _ hij] at hj
      obtain ⟨v, h1, h2⟩ := r.val j e hj oj
      exact ⟨v, h1, h2.step st⟩
  · by_cases hij : i = j
    · subst hij
      by_cases hl : i < ρ.length
      · rw [List.getElem?_set_self hl] at hj
        cases hj
        exact ⟨a, hσ, hO, .lst upd_same (rs.step st)⟩
      · rw [List.getElem?_eq_none (by rw [List.length_set]; omega)] at hj; cases hj
    · rw [set_get_ne _ _ hij] at hj
      obtain ⟨b, h2, h3, h4⟩ := r.lst j e hj oj
      have hb : b ≠ a := fun z => by
        subst z
        have := rh.inj _ _ _ h3 hO
        simp only [Ow.slot.injEq] at this
        exact hij this.symm
      exact ⟨b, h2, h3, h4.step st fun o q => by rw [upd_ne hb]; exact q⟩
/-- a slot takes a new list over -/
def tkO (O : OM) (a : Addr) (i : Nat) : OM := (O.del (.tmp a)).put (.slot i) a
theorem tkO_some {a b : Addr} {i : Nat} {w : Ow} (e : tkO O a i w = some b) : (w = .slot i ∧ b = a) ∨ (w ≠ .slot i ∧ w ≠ .tmp a ∧ O w = some b) := by
  unfold tkO at e
  by_cases hw : w = .slot i
  · subst hw; rw [OM.put_same] at e; cases e; exact .inl ⟨rfl, rfl⟩
  · rw [OM.put_ne hw] at e
    obtain ⟨h1, h2⟩ := OM.del_of e
    exact .inr ⟨hw, h1, h2⟩
theorem tkO_ne {a : Addr} {i : Nat} {w : Ow} (h1 : w ≠ .slot i) (h2 : w ≠ .tmp a) : tkO O a i w = O w := by
  unfold tkO
  rw [OM.put_ne h1, OM.del_ne h2]
theorem tkO_less {a : Addr} {i : Nat} (ha : O (.tmp a) = some a) : LessF O (tkO O a i) := ⟨fun b f w e => by
  rcases tkO_some e with ⟨_, rfl⟩ | ⟨_, _, e⟩
  · exact f _ ha
  · exact f _ e, fun j b e => by rw [tkO_ne (by simp) (by simp)]; exact e⟩
theorem tkO_rep {a : Addr} {i : Nat} (rh : RepH K H O h) (ha : O (.tmp a) = some a) : RepH K H (tkO O a i) h := by
  have only : ∀ {w : Ow}, w ≠ .tmp a → O w ≠ some a := fun hw e => hw (rh.inj _ _ _ e ha)
  refine ⟨fun w w' b e e' => ?_, fun j o e => ?_, fun j b e => ?_, fun w b e => ?_, fun c b e => ?_⟩
  · rcases tkO_some e with ⟨w1, b1⟩ | ⟨_, h2, f⟩
    · rcases tkO_some e' with ⟨w2, _⟩ | ⟨_, h2', f'⟩
      · rw [w1, w2]
      · rw [b1] at f'; exact absurd f' (only h2')
    · rcases tkO_some e' with ⟨w2, b2⟩ | ⟨_, h2', f'⟩
      · rw [b2] at f; exact absurd f (only h2)
      · exact rh.inj _ _ _ f f'
  · obtain ⟨b, e1, e2⟩ := rh.hp j o e
    exact ⟨b, by rw [tkO_ne (by simp) (by simp)]; exact e1, e2.lessF (tkO_less ha)⟩
  · rw [tkO_ne (by simp) (by simp)] at e; exact rh.lim j b e
  · rcases tkO_some e with ⟨_, rfl⟩ | ⟨_, _, e⟩
    · exact rh.dom _ _ ha
    · exact rh.dom _ _ e
  · rcases tkO_some e with ⟨h1, _⟩ | ⟨_, _, e⟩
    · cases h1
    · exact rh.tmp c b e
theorem tkO_step {O0 : OM} {H0 : Hp} {a : Addr} {i : Nat} {h0 : AH} (s : StP (Pm S) O0 H0 O H) (r0 : RepH K H0 O0 h0) (ha : O (.tmp a) = some a) (hn : H0 a = none) (hS : S i = true) : StP (Pm S) O0 H0 (tkO O a i) H := by
  refine ⟨s.keep, fun w b p e => ?_, s.sk, fun j b e => ?_, fun w b e => ?_, s.live⟩
  · have e' := s.loc w b p e
    rw [tkO_ne]
    · exact e'
    · rintro rfl
      have : S i = false := p
      rw [hS] at this; cases this
    · rintro rfl
      rw [ha] at e'; cases e'
      obtain ⟨u, q⟩ := r0.dom _ _ e
      rw [hn] at q; cases q
  · rw [tkO_ne (by simp) (by simp)]; exact s.obj j b e
  · rcases tkO_some e with ⟨_, rfl⟩ | ⟨_, _, e⟩
    · exact .inr hn
    · exact s.new w b e
theorem RepE.tk {σ : L2.St} {ρ : Env} {i : Nat} {a : Addr} {vs : List V} {ds : List D} (r : RepE K H O own σ ρ) (rh : RepH K H O h) (ha : O (.tmp a) = some a) (eH : H a = some (.lst vs)) (rs : Rps K H O vs ds) (ho : own i = true) :
    RepE K H (tkO O a i) own (σ.set i (some (.ref a))) (ρ.set i (some (.lst ds))) := by
  have less := tkO_less (i := i) ha
  refine ⟨by rw [List.length_set, List.length_set, r.len], fun j e hj oj => ?_, fun j e hj oj => ?_⟩
  · by_cases hij : i = j
    · subst hij; rw [ho] at oj; cases oj
    · rw [set_get_ne _ _ hij] at hj ⊢
      obtain ⟨v, h1, h2⟩ := r.val j e hj oj
      exact ⟨v, h1, h2.lessF less⟩
  · by_cases hij : i = j
    · subst hij
      by_cases hl : i < ρ.length
      · rw [List.getElem?_set_self hl] at hj
        cases hj
        refine ⟨a, by rw [List.getElem?_set_self (by rw [r.len]; exact hl)], ?_, .lst eH (rs.lessF less)⟩
        unfold tkO; exact OM.put_same
      · rw [List.getElem?_eq_none (by rw [List.length_set]; omega)] at hj; cases hj
    · rw [set_get_ne _ _ hij] at hj ⊢
      obtain ⟨b, h2, h3, h4⟩ := r.lst j e hj oj
      exact ⟨b, h2, by rw [tkO_ne (by simpa using Ne.symm hij) (by simp)]; exact h3, h4.lessF less⟩
/-- an object of the heap is changed -/
theorem Step.chgObj {i : Nat} {a : Addr} {o : HO} (rh : RepH K H O h) (hi : O (.obj i) = some a) : Step O H O (upd H a o) := (StP.chg rh hi).mono fun w hw => by
  cases w with
  | obj j => cases hw
  | tmp b => simp [Ow.isObj]
  | slot j => simp [Ow.isObj]
theorem RepH.chgObj {i : Nat} {a : Addr} {vs : List V} {ds : List D} (rh : RepH K H O h) (hi : O (.obj i) = some a) (rs : Rps K H O vs ds) : RepH K (upd H a (.lst vs)) O (h.set i (.lst ds)) := by
  have st := Step.chgObj (o := .lst vs) rh hi
  refine ⟨rh.inj, fun j u e => ?_, fun j b e => by rw [List.length_set]; exact rh.lim j b e, fun w b e => ?_, rh.tmp⟩
  · by_cases hij : i = j
    · subst hij
      rw [List.getElem?_set_self (rh.lim i a hi)] at e
      cases e
      exact ⟨a, hi, vs, upd_same, rs.step st⟩
    · rw [set_get_ne _ _ hij] at e
      obtain ⟨b, e1, e2⟩ := rh.hp j u e
      have nb : b ≠ a := fun z => by
        subst z
        have := rh.inj _ _ _ e1 hi
        simp only [Ow.obj.injEq] at this
        exact hij this.symm
      exact ⟨b, e1, e2.step st fun x q => by rw [upd_ne nb]; exact q⟩
  · by_cases hb : b = a
    · subst hb; exact ⟨_, upd_same⟩
    · obtain ⟨u, q⟩ := rh.dom w b e
      exact ⟨u, by rw [upd_ne hb]; exact q⟩
end
section
variable {X : Cx} {CM : Str → Option Addr} {own : Nat → Bool} {W : WX} {C : Nat → List D → M D} {G : List XC} {S : Nat → Bool}
theorem ef_lst {es : List Expr} {ms : MEs} {pos : Pos} (h : EJs X CM own W C es ms) : EF X CM own W C (.List es pos) (.lst ms) :=
  TG.imp (pe_lst h) fun σ H Q ⟨ρ, O, hp, re, rh, p⟩ => by
    simp only [ev] at p
    refine ⟨ρ, O, hp, re, rh, (EvF.bind p).imp fun xs H1 ⟨O1, h1, ds, s1, rh1, r1, p1⟩ => ?_⟩
    split at p1
    · rename_i hl
      refine ⟨by rw [r1.length]; exact hl, fun q hq => ?_⟩
      have st : Step O1 H1 (O1.put (.tmp q) q) (upd H1 q (.lst xs)) := Step.new_own rh1 hq
      exact p1 q xs ds _ _ rfl hq st (rh1.new_own hq) OM.put_same upd_same (r1.step st)
    · exact p1.elim
/-- a new list is stored in a slot that owns it -/
theorem sj_setO {i : Nat} {x : Str} {e : Expr} {m : ME} {pos' pos : Pos} (hN : X.N.Nodup) (hi : X.N[i]? = some x) (hx : Loc X.env.scope x) (he : EF X CM own W C e m) (hs : swapsWith e (some (.Name x pos')) pos.line X.env = pure false) (hf : X.fn x = true ∨ X.env.scope.names.lookup x = some .local) (ho : own i = true) (hS : S i = true) :
    SJ X CM own W S C G (.Assign [.Name x pos'] e pos) (.asg (.name i) m) :=
  TSt.imp (ps_set hN hi hx he hs hf) fun D σ H ⟨ρ, O, hp, re, rh, p⟩ => by
    simp only [exc] at p
    refine ⟨ρ, O, hp, re, rh, ?_⟩
    cases q : ev C m ρ hp with
    | none => rw [q] at p; exact p.elim
    | some y =>
      rw [q] at p
      cases y with
      | exc c fs h' => exact fun cls dd H' O' s rh' xr => p cls dd σ H' O' (Pm.step s) rh' (re.step s) xr
      | ok d h' =>
        intro a vs ds H' O' ed hn s rh' oa ea rs
        subst ed
        exact p _ H' (tkO O' a i) (tkO_step (Pm.step s) rh oa hn hS) (tkO_rep rh' oa) ((re.step s).tk rh' oa ea rs ho)
/-! a slot's list is changed -/
theorem own_read {K : PySem.W.Frag} {H : Hp} {O : OM} {σ : L2.St} {ρ : Env} {i : Nat} {d : D} (re : RepE K H O own σ ρ) (ho : own i = true) (e : Env.get ρ i = some d) : ∃ a, σ[i]? = some (some (V.ref a)) ∧ O (.slot i) = some a ∧ OwnAt K H O a d := by
  unfold Env.get at e
  split at e
  · rename_i d' q
    cases e
    exact re.lst i _ q ho
  · cases e
theorem sj_app {i : Nat} {x : Str} {e : Expr} {m : ME} {p apos cpos pos : Pos} (hi : X.N[i]? = some x) (hv : Vis X.env.scope x) (hd : (x == ("__debug__" : Str)) = false) (hcd : (x == ("__classdict__" : Str)) = false) (he : EJ X CM own W C e m) (ho : own i = true) (hS : S i = true)
    (hline : (apos.endLine == cpos.line) = true) (hs : starEach [e] X.env = (false, eval e X.env) :: starEach [] X.env)
    (hfew : ((backTo cpos (starEach [e] X.env)).all (fun x => !x.1) && (backToKw cpos (keywordEach [] X.env)).all (fun x => x.1.isSome) && decide ([e].length + ([] : List Keyword).length + (if ([] : List Keyword).isEmpty then 0 else 1) < 30)) = true)  :
    SJ X CM own W S C G (.Expr (.Call (.Attribute (.Name x p) "append" apos) [e] [] cpos) pos) (.app i m) :=
  TSt.imp (ps_expr (pe_bm PySem.F.plainAttrs_list PySem.F.slot_list_append PySem.F.type_list_append mt_append (pe_var hi hv hd hcd) (pa_cons he pa_nil hs) rfl hfew hline hs rfl) rfl) fun D σ H ⟨ρ, O, hp, re, rh, pp⟩ => by
    simp only [exc] at pp
    cases q : Env.get ρ i with
    | none => rw [q] at pp; exact pp.elim
    | some l =>
      rw [q] at pp
      obtain ⟨a, hσ, hO, oa⟩ := own_read re ho q
      cases l with
      | lst ds =>
       obtain ⟨vs, eH, rs⟩ : ∃ vs, H a = some (.lst vs) ∧ Rps X.K H O vs ds := by cases oa with | lst h r => exact ⟨_, h, r⟩
       refine ⟨.ref a, hσ, .inl ⟨rfl, vs, .inl (.inl eH)⟩, ρ, O, hp, re, rh, (EvS.bd re pp).imp fun v H1 ⟨O1, h1, d, s1, rh1, rv, p1⟩ => ?_⟩
       have hO1 : O1 (.slot i) = some a := s1.loc _ _ rfl hO
       have eH1 : H1 a = some (.lst vs) := s1.sk _ _ _ rfl hO eH
       simp only [appD] at p1
       split at p1
       · rename_i hl
         refine ⟨a, vs, v, rfl, rfl, eH1, by rw [rs.length]; exact hl, ?_⟩
         have rsA : Rps X.K H1 O1 (vs ++ [v]) (ds ++ [d]) := (rs.step s1).append (.cons rv .nil)
         exact p1 σ _ O1 (Pm.chg rh1 hO1 hS) (rh1.chg hO1 rfl) ((re.step s1).chgOwn rh1 ho hO1 hσ rsA)
       · exact p1.elim
      | _ => exact pp.elim
theorem sj_setx {i : Nat} {x : Str} {ix e : Expr} {mi m : ME} {p spos pos : Pos} (hi : X.N[i]? = some x) (hv : Vis X.env.scope x) (hd : (x == ("__debug__" : Str)) = false) (hcd : (x == ("__classdict__" : Str)) = false) (hix : EB X CM own W C ix mi) (he : EJ X CM own W C e m) (ho : own i = true) (hS : S i = true)
    (ha : ∀ v, assign (.Subscript (.Name x p) ix spos) X.env v = (do
      let ov ← holding [v] (eval (.Name x p) X.env)
      let iv ← holding [v, ov] (eval ix X.env)
      standAt spos
      holding [v, ov, iv] (setItem ov iv v)
      release [v, ov, iv] [])) (hs : swapsWithSole [.Subscript (.Name x p) ix spos] e pos.line X.env = pure false) :
    SJ X CM own W S C G (.Assign [.Subscript (.Name x p) ix spos] e pos) (.setx i mi m) :=
  TSt.imp (ps_asg he (pg_sub (pe_var hi hv hd hcd) hix set_list ha) hs rfl rfl) fun D σ H ⟨ρ, O, hp, re, rh, pp⟩ => by
    simp only [exc] at pp
    cases q : Env.get ρ i with
    | none => rw [q] at pp; exact pp.elim
    | some l =>
      rw [q] at pp
      obtain ⟨a, hσ, hO, oa⟩ := own_read re ho q
      refine ⟨ρ, O, hp, re, rh, (EvS.bd re pp).imp fun v H1 ⟨O1, h1, d, s1, rh1, rv, p1⟩ => ⟨.ref a, hσ, ρ, O1, h1, re.step s1, rh1, (EvS.bd (re.step s1) p1).imp fun k H2 ⟨O2, h2, dk, s2, rh2, rk, p2⟩ => ?_⟩⟩
      have hO2 : O2 (.slot i) = some a := s2.loc _ _ rfl (s1.loc _ _ rfl hO)
      have oa2 : OwnAt X.K H2 O2 a l := (oa.step s1 fun _ => s1.sk _ _ _ rfl hO).step s2 fun _ => s2.sk _ _ _ rfl (s1.loc _ _ rfl hO)
      cases l with
      | lst ds =>
       obtain ⟨vs, eH2, rs2⟩ : ∃ vs, H2 a = some (.lst vs) ∧ Rps X.K H2 O2 vs ds := by cases oa2 with | lst h r => exact ⟨_, h, r⟩
       cases dk with
       | int z =>
         simp only [setIx] at p2
         cases q2 : ixN ds.length z with
         | none => rw [q2] at p2; exact p2.elim
         | some j =>
           rw [q2] at p2
           refine ⟨a, vs, z, j, rfl, rk.int, eH2, by rw [rs2.length]; exact q2, ?_⟩
           exact p2 σ _ O2 (Pm.chg rh2 hO2 hS) (rh2.chg hO2 rfl) (((re.step s1).step s2).chgOwn rh2 ho hO2 hσ (Rps.set (rv.step s2) j rs2))
       | _ => exact p2.elim
      | _ => exact p2.elim
/-! a heap list is changed -/
theorem sj_hset {o ix e : Expr} {mo mi m : ME} {spos pos : Pos} (hob : EJ X CM own W C o mo) (hix : EB X CM own W C ix mi) (he : EJ X CM own W C e m)
    (ha : ∀ v, assign (.Subscript o ix spos) X.env v = (do
      let ov ← holding [v] (eval o X.env)
      let iv ← holding [v, ov] (eval ix X.env)
      standAt spos
      holding [v, ov, iv] (setItem ov iv v)
      release [v, ov, iv] [])) (hs : swapsWithSole [.Subscript o ix spos] e pos.line X.env = pure false) :
    SJ X CM own W S C G (.Assign [.Subscript o ix spos] e pos) (.hset mo mi m) :=
  TSt.imp (ps_asg he (pg_sub hob hix set_list ha) hs rfl rfl) fun D σ H ⟨ρ, O, hp, re, rh, pp⟩ => by
    simp only [exc] at pp
    refine ⟨ρ, O, hp, re, rh, (EvS.bd re pp).imp fun v H1 ⟨O1, h1, d, s1, rh1, rv, p1⟩ => ⟨ρ, O1, h1, re.step s1, rh1, (EvS.bd (re.step s1) p1).imp fun x H2 ⟨O2, h2, dx, s2, rh2, rx, p2⟩ => ⟨ρ, O2, h2, (re.step s1).step s2, rh2, (EvS.bd ((re.step s1).step s2) p2).imp fun k H3 ⟨O3, h3, dk, s3, rh3, rk, p3⟩ => ?_⟩⟩⟩
    cases dx with
    | ref r =>
      cases q : h3[r]? with
      | none => simp only [q] at p3; exact p3.elim
      | some u =>
        cases u with
        | ins c fs => simp only [q] at p3; exact p3.elim
        | lst ds =>
          simp only [q] at p3
          cases dk with
          | int z =>
            simp only [setIx] at p3
            cases q2 : ixN ds.length z with
            | none => rw [q2] at p3; exact p3.elim
            | some j =>
              rw [q2] at p3
              simp only [Option.map_some] at p3
              obtain ⟨a, rfl, ea⟩ := (RpB.rp rx).ref
              obtain ⟨a', e', vs, h4, h5⟩ := rh3.hp r _ q
              rw [s3.obj _ _ ea] at e'; cases e'
              refine ⟨a, vs, z, j, rfl, rk.int, h4, by rw [h5.length]; exact q2, ?_⟩
              have ea3 := s3.obj _ _ ea
              have st := Step.chgObj (o := .lst (vs.set j v)) rh3 ea3
              exact p3 σ _ O3 (Pm.step st) (rh3.chgObj ea3 (Rps.set ((rv.step s2).step s3) j h5)) ((((re.step s1).step s2).step s3).step st)
          | _ => exact p3.elim
    | _ => exact p3.elim
theorem ref_list {K : PySem.W.Frag} {H : Hp} {O : OM} {h : AH} {r : Nat} {a : Addr} (rh : RepH K H O h) (ea : O (.obj r) = some a) : ∃ vs, H a = some (.lst vs) := by
  have hlt := rh.lim r a ea
  obtain ⟨a', e', ro⟩ := rh.hp r h[r] (List.getElem?_eq_getElem hlt)
  rw [ea] at e'; cases e'
  cases q : h[r] with
  | lst ds => rw [q] at ro; obtain ⟨vs, h4, _⟩ := ro; exact ⟨vs, h4⟩
  | ins c fs => rw [q] at ro; exact ro.elim
theorem sj_happ {o e : Expr} {mo m : ME} {apos cpos pos : Pos} (hob : EJ X CM own W C o mo) (he : EJ X CM own W C e m) (hbase : attributeBase o "append" X.env (eval o X.env) = eval o X.env) (hline : (apos.endLine == cpos.line) = true) (hs : starEach [e] X.env = (false, eval e X.env) :: starEach [] X.env)
    (hfew : ((backTo cpos (starEach [e] X.env)).all (fun x => !x.1) && (backToKw cpos (keywordEach [] X.env)).all (fun x => x.1.isSome) && decide ([e].length + ([] : List Keyword).length + (if ([] : List Keyword).isEmpty then 0 else 1) < 30)) = true) :
    SJ X CM own W S C G (.Expr (.Call (.Attribute o "append" apos) [e] [] cpos) pos) (.happ mo m) :=
  TSt.imp (ps_expr (pe_bm PySem.F.plainAttrs_list PySem.F.slot_list_append PySem.F.type_list_append mt_append hob (pa_cons he pa_nil hs) hbase hfew hline hs rfl) rfl) fun D σ H ⟨ρ, O, hp, re, rh, pp⟩ => by
    simp only [exc] at pp
    refine ⟨ρ, O, hp, re, rh, (EvS.bd re pp).imp fun x H1 ⟨O1, h1, dx, s1, rh1, rx, p1⟩ => ?_⟩
    cases dx with
    | ref r =>
      obtain ⟨a, rfl, ea⟩ := (RpB.rp rx).ref
      obtain ⟨vs0, hvs0⟩ := ref_list rh1 ea
      refine ⟨.inl ⟨rfl, vs0, .inl (.inl hvs0)⟩, ρ, O1, h1, re.step s1, rh1, (EvS.bd (re.step s1) p1).imp fun v H2 ⟨O2, h2, d, s2, rh2, rv, p2⟩ => ?_⟩
      cases q : h2[r]? with
      | none => simp only [q] at p2; exact p2.elim
      | some u =>
        cases u with
        | ins c fs => simp only [q] at p2; exact p2.elim
        | lst ds =>
          simp only [q] at p2
          split at p2
          · rename_i hl
            obtain ⟨a', e', vs, h4, h5⟩ := rh2.hp r _ q
            have ea2 := s2.obj _ _ ea
            rw [ea2] at e'; cases e'
            have st := Step.chgObj (o := .lst (vs ++ [v])) rh2 ea2
            exact ⟨a, vs, v, rfl, rfl, h4, by rw [h5.length]; exact hl, p2 σ _ O2 (Pm.step st) (rh2.chgObj ea2 (h5.append (.cons rv .nil))) (((re.step s1).step s2).step st)⟩
          · exact p2.elim
    | _ => exact p1.elim
theorem sj_hpop {o e : Expr} {mo m : ME} {apos cpos pos : Pos} (hob : EJ X CM own W C o mo) (he : EJ X CM own W C e m) (hbase : attributeBase o "pop" X.env (eval o X.env) = eval o X.env) (hline : (apos.endLine == cpos.line) = true) (hs : starEach [e] X.env = (false, eval e X.env) :: starEach [] X.env)
    (hfew : ((backTo cpos (starEach [e] X.env)).all (fun x => !x.1) && (backToKw cpos (keywordEach [] X.env)).all (fun x => x.1.isSome) && decide ([e].length + ([] : List Keyword).length + (if ([] : List Keyword).isEmpty then 0 else 1) < 30)) = true) :
    SJ X CM own W S C G (.Expr (.Call (.Attribute o "pop" apos) [e] [] cpos) pos) (.hpop mo m) :=
  TSt.imp (ps_expr (pe_bm PySem.F.plainAttrs_list PySem.F.slot_list_pop PySem.F.type_list_pop mt_popAt hob (pa_cons he pa_nil hs) hbase hfew hline hs rfl) rfl) fun D σ H ⟨ρ, O, hp, re, rh, pp⟩ => by
    simp only [exc] at pp
    refine ⟨ρ, O, hp, re, rh, (EvS.bd re pp).imp fun x H1 ⟨O1, h1, dx, s1, rh1, rx, p1⟩ => ?_⟩
    cases dx with
    | ref r =>
      obtain ⟨a, rfl, ea⟩ := (RpB.rp rx).ref
      obtain ⟨vs0, hvs0⟩ := ref_list rh1 ea
      refine ⟨.inl ⟨rfl, vs0, .inl (.inl hvs0)⟩, ρ, O1, h1, re.step s1, rh1, (EvS.bd (re.step s1) p1).imp fun v H2 ⟨O2, h2, d, s2, rh2, rv, p2⟩ => ?_⟩
      cases d with
      | int z =>
        cases q : h2[r]? with
        | none => simp only [q] at p2; exact p2.elim
        | some u =>
          cases u with
          | ins c fs => simp only [q] at p2; exact p2.elim
          | lst ds =>
            simp only [q] at p2
            cases q2 : ixN ds.length z with
            | none => rw [q2] at p2; exact p2.elim
            | some j =>
              rw [q2] at p2
              simp only at p2
              split at p2
              · rename_i hb
                simp only [Bool.and_eq_true, decide_eq_true_eq] at hb
                have ev' := (RpB.rp rv).int
                subst ev'
                obtain ⟨a', e', vs, h4, h5⟩ := rh2.hp r _ q
                have ea2 := s2.obj _ _ ea
                rw [ea2] at e'; cases e'
                obtain ⟨hsq, hj, _⟩ := ixN_seq q2
                have hj' : j < vs.length := by rw [h5.length]; exact hj
                have st := Step.chgObj (o := .lst (vs.eraseIdx j)) rh2 ea2
                exact ⟨a, vs, z, j, vs[j], rfl, rfl, h4, hb.1, hb.2, by rw [h5.length]; exact hsq, List.getElem?_eq_getElem hj', p2 σ _ O2 (Pm.step st) (rh2.chgObj ea2 (h5.eraseIdx j)) (((re.step s1).step s2).step st)⟩
              · exact p2.elim
      | _ => simp only at p2; exact p2.elim
    | _ => exact p1.elim
/-! in place -/
theorem ip_aug {op : Operator} {o : BOp} (hb : (op = .Add ∧ o = .add) ∨ (op = .Sub ∧ o = .sub) ∨ (op = .Mult ∧ o = .mul) ∨ (op = .FloorDiv ∧ o = .fdiv) ∨ (op = .Mod ∧ o = .mod)) :
    PIp X op fun x y H Q => ∃ (O : OM) (dx dy z : D) (v : V), RpB X.K H O x dx ∧ RpB X.K H O y dy ∧ augD o dx dy = some z ∧ (∀ H O, Rp X.K H O v z) ∧ Q v H := by
  intro pins s σ H x y v u Q I rx ry ⟨O, dx, dy, z, w, bx, by_, e, rz, q⟩
  have intsA : ∀ {i j : Int} {f : Int → Int → Int} {c : Int → Int → Prop}, OpR X (inplaceOp op) (rI c fun i j => .int (f i j)) → dx = .int i → dy = .int j → c i j → z = .int (f i j) → wpAny (model X.prog X.w) X.A (inplaceOp op v u) (EP X pins σ Q) X.xe s := fun {i j f c} hf e1 e2 hc e3 => by
    subst e1; subst e2; subst e3
    have ex := bx.int; have ey := by_.int
    subst ex; subst ey
    have ew : w = .int (f i j) := by cases rz H O; rfl
    subst ew
    exact hf pins s σ H _ _ v u Q I rx ry ⟨i, j, rfl, rfl, hc, q⟩
  rcases hb with ⟨rfl, rfl⟩ | ⟨rfl, rfl⟩ | ⟨rfl, rfl⟩ | ⟨rfl, rfl⟩ | ⟨rfl, rfl⟩
  · cases dx with
    | int i => cases dy with
      | int j => cases e; exact intsA (f := fun i j => i + j) (c := fun _ _ => True) (OpR.at iop_add fun x y H Q ⟨i, j, h1, h2, _, q⟩ => ⟨i, j, h1, h2, q⟩) rfl rfl trivial rfl
      | _ => cases e
    | str a => cases dy with
      | str b =>
        simp only [augD] at e
        split at e
        · rename_i hl
          cases e
          have ex := bx.str; have ey := by_.str
          subst ex; subst ey
          have ew : w = .str (a ++ b) := by cases rz H O; rfl
          subst ew
          exact iop_add_str pins s σ H _ _ v u Q I rx ry ⟨a, b, rfl, rfl, hl, q⟩
        · cases e
      | _ => cases e
    | _ => cases e
  · cases dx with
    | int i => cases dy with
      | int j => cases e; exact intsA (f := fun i j => i - j) (c := fun _ _ => True) (OpR.at iop_sub fun x y H Q ⟨i, j, h1, h2, _, q⟩ => ⟨i, j, h1, h2, q⟩) rfl rfl trivial rfl
      | _ => cases e
    | _ => cases e
  · cases dx with
    | int i => cases dy with
      | int j =>
        simp only [augD] at e
        split at e
        · rename_i hc
          cases e
          exact intsA (f := fun i j => i * j) (c := fun i j => mulOk i j = true) (opI fun _ _ _ _ _ _ _ hc q => imul_int q (mulOk_int hc)) rfl rfl hc rfl
        · cases e
      | _ => cases e
    | _ => cases e
  · cases dx with
    | int i => cases dy with
      | int j =>
        simp only [augD] at e
        split at e
        · rename_i hc
          cases e
          exact intsA (f := fun i j => i.fdiv j) (c := fun i j => divOk j = true) (opI fun a b _ _ _ _ _ hc q => ifloordiv_int (divOk_int (i := a) hc).1 q (.inl (divOk_int hc).2)) rfl rfl hc rfl
        · cases e
      | _ => cases e
    | _ => cases e
  · cases dx with
    | int i => cases dy with
      | int j =>
        simp only [augD] at e
        split at e
        · rename_i hc
          cases e
          exact intsA (f := fun i j => i.fmod j) (c := fun i j => j ≠ 0) (opI fun _ _ _ _ _ _ _ hc q => imod_int hc q) rfl rfl (of_decide_eq_true hc) rfl
        · cases e
      | _ => cases e
    | _ => cases e
theorem augD_flat {o : BOp} {x y z : D} (e : augD o x y = some z) : ∃ v, ∀ K H O, Rp K H O v z := by
  cases o <;> cases x <;> cases y <;> simp only [augD] at e <;> first
    | cases e; done
    | (cases e; exact ⟨_, fun _ _ _ => .int _⟩)
    | (split at e <;> first | (cases e; done) | (cases e; exact ⟨_, fun _ _ _ => .int _⟩) | (cases e; exact ⟨_, fun _ _ _ => .str _⟩))
theorem sj_aug {i : Nat} {x : Str} {e : Expr} {m : ME} {op : Operator} {o : BOp} {pos' pos : Pos} (hN : X.N.Nodup) (hi : X.N[i]? = some x) (hx : Loc X.env.scope x) (he : EJ X CM own W C e m)
    (hb : (op = .Add ∧ o = .add) ∨ (op = .Sub ∧ o = .sub) ∨ (op = .Mult ∧ o = .mul) ∨ (op = .FloorDiv ∧ o = .fdiv) ∨ (op = .Mod ∧ o = .mod)) (hf : X.fn x = true ∨ X.env.scope.names.lookup x = some .local) (ho : own i = false) :
    SJ X CM own W S C G (.AugAssign (.Name x pos') op e pos) (.aug i o m) :=
  TSt.imp (ps_aug hN hi hx he (ip_aug hb) hf) fun D σ H ⟨ρ, O, hp, re, rh, pp⟩ => by
    simp only [exc] at pp
    cases q : Env.get ρ i with
    | none => rw [q] at pp; exact pp.elim
    | some d =>
      rw [q] at pp
      have q' : ρ[i]? = some (some d) := by
        unfold Env.get at q
        split at q
        · rename_i d' w; cases q; exact w
        · cases q
      obtain ⟨v, h1, h2⟩ := re.val i d q' ho
      refine ⟨v, h1, ρ, O, hp, re, rh, (EvS.bd re pp).imp fun w H1 ⟨O1, h1, dy, s1, rh1, rw', p1⟩ => ?_⟩
      cases q2 : augD o d dy with
      | none => rw [q2] at p1; exact p1.elim
      | some z =>
        rw [q2] at p1
        obtain ⟨vz, hz⟩ := augD_flat q2
        exact ⟨O1, d, dy, z, vz, .rp (h2.step s1), .rp rw', q2, fun H O => hz _ H O, p1 _ H1 O1 (StP.refl _ _ _) rh1 ((re.step s1).set ho (hz _ _ _))⟩
end
end Mi

set_option Elab.async false
set_option linter.all false
set_option maxRecDepth 100000
set_option maxHeartbeats 4000000
/-! Mi over the hand layer: more of lists, of stores. -/
namespace Mi
open PySem PySem.Spec PyProof.Rows L2
section
variable {K : PySem.W.Frag} {H H' : Hp} {O O' : OM} {h h' : AH}
/-- a new list becomes an object of the heap -/
def thO (O : OM) (a : Addr) (n : Nat) : OM := (O.del (.tmp a)).put (.obj n) a
theorem thO_some {a b : Addr} {n : Nat} {w : Ow} (e : thO O a n w = some b) : (w = .obj n ∧ b = a) ∨ (w ≠ .obj n ∧ w ≠ .tmp a ∧ O w = some b) := by
  unfold thO at e
  by_cases hw : w = .obj n
  · subst hw; rw [OM.put_same] at e; cases e; exact .inl ⟨rfl, rfl⟩
  · rw [OM.put_ne hw] at e
    obtain ⟨h1, h2⟩ := OM.del_of e
    exact .inr ⟨hw, h1, h2⟩
theorem thO_ne {a : Addr} {n : Nat} {w : Ow} (h1 : w ≠ .obj n) (h2 : w ≠ .tmp a) : thO O a n w = O w := by
  unfold thO
  rw [OM.put_ne h1, OM.del_ne h2]
theorem thO_lt {a b : Addr} {i : Nat} (rh : RepH K H O h) (e : O (.obj i) = some b) : thO O a h.length (.obj i) = some b := by
  have := rh.lim i b e
  rw [thO_ne (by simp only [ne_eq, Ow.obj.injEq]; omega) (by simp)]
  exact e
theorem thO_less {a : Addr} (rh : RepH K H O h) (ha : O (.tmp a) = some a) : LessF O (thO O a h.length) := ⟨fun b f w e => by
  rcases thO_some e with ⟨_, rfl⟩ | ⟨_, _, e⟩
  · exact f _ ha
  · exact f _ e, fun j b e => thO_lt rh e⟩
theorem thO_rep {a : Addr} {vs : List V} {ds : List D} (rh : RepH K H O h) (ha : O (.tmp a) = some a) (eH : H a = some (.lst vs)) (rs : Rps K H O vs ds) : RepH K H (thO O a h.length) (h ++ [.lst ds]) := by
  have only : ∀ {w : Ow}, w ≠ .tmp a → O w ≠ some a := fun hw e => hw (rh.inj _ _ _ e ha)
  have less := thO_less rh ha
  refine ⟨fun w w' b e e' => ?_, fun j o e => ?_, fun j b e => ?_, fun w b e => ?_, fun c b e => ?_⟩
  · rcases thO_some e with ⟨w1, b1⟩ | ⟨_, h2, f⟩
    · rcases thO_some e' with ⟨w2, _⟩ | ⟨_, h2', f'⟩
      · rw [w1, w2]
      · rw [b1] at f'; exact absurd f' (only h2')
    · rcases thO_some e' with ⟨w2, b2⟩ | ⟨_, h2', f'⟩
      · rw [b2] at f; exact absurd f (only h2)
      · exact rh.inj _ _ _ f f'
  · by_cases hj : j < h.length
    · rw [List.getElem?_append_left hj] at e
      obtain ⟨b, e1, e2⟩ := rh.hp j o e
      exact ⟨b, thO_lt rh e1, e2.lessF less⟩
    · have : j = h.length := by
        have := (List.getElem?_eq_some_iff.mp e).1
        simp only [List.length_append, List.length_cons, List.length_nil] at this
        omega
      subst this
      rw [List.getElem?_append_right (Nat.le_refl _), Nat.sub_self] at e
      cases e
      exact ⟨a, OM.put_same, vs, eH, rs.lessF less⟩
  · simp only [List.length_append, List.length_cons, List.length_nil]
    rcases thO_some e with ⟨e1, _⟩ | ⟨_, _, e⟩
    · simp only [Ow.obj.injEq] at e1
      omega
    · have := rh.lim j b e
      omega
  · rcases thO_some e with ⟨_, rfl⟩ | ⟨_, _, e⟩
    · exact rh.dom _ _ ha
    · exact rh.dom _ _ e
  · rcases thO_some e with ⟨h1, _⟩ | ⟨_, _, e⟩
    · cases h1
    · exact rh.tmp c b e
theorem thO_step {a : Addr} (s : Step O H O' H') (r0 : RepH K H O h) (r1 : RepH K H' O' h') (ha : O' (.tmp a) = some a) (hn : H a = none) : Step O H (thO O' a h'.length) H' := by
  refine ⟨s.keep, fun w b p e => ?_, s.sk, fun j b e => thO_lt r1 (s.obj j b e), fun w b e => ?_, s.live⟩
  · have e' := s.loc w b p e
    rw [thO_ne]
    · exact e'
    · rintro rfl
      cases p
    · rintro rfl
      rw [ha] at e'; cases e'
      obtain ⟨u, q⟩ := r0.dom _ _ e
      rw [hn] at q; cases q
  · rcases thO_some e with ⟨_, rfl⟩ | ⟨_, _, e⟩
    · exact .inr hn
    · exact s.new w b e
end
section
variable {X : Cx} {CM : Str → Option Addr} {own : Nat → Bool} {W : WX} {C : Nat → List D → M D} {G : List XC} {S : Nat → Bool}
theorem ej_thaw {e : Expr} {m : ME} (h : EF X CM own W C e m) : EJ X CM own W C e (.thaw m) := TG.imp h fun σ H Q ⟨ρ, O, hp, re, rh, p⟩ => by
  simp only [ev] at p
  refine ⟨ρ, O, hp, re, rh, ?_⟩
  cases q : ev C m ρ hp with
  | none => rw [M.bind_def, q] at p; exact p
  | some x =>
    cases x with
    | exc c fs h' => rw [M.bind_def, q] at p; exact p
    | ok d h' =>
      rw [M.bind_def, q, M.bd_ok] at p
      intro a vs ds H' O' ed hn s rh' oa ea rs
      subst ed
      exact p _ H' (thO O' a h'.length) (thO_step s rh rh' oa hn) (thO_rep rh' oa ea rs) (.ref OM.put_same)
/-! new lists by list(..), by * -/
theorem ef_bi {f : Bi} {T : String} {x : Str} {e : Expr} {es : List Expr} {m : MEs} {p pos : Pos} (hf : ∀ (CM : Str → Option Addr) (W : WX) (O : OM) (hp : AH) (σ : L2.St) (ds : List D), CallR X (.type T) fun xs H Q => RepH X.K H O hp ∧ RpBs X.K H O xs ds ∧ EvF X.K CM W O H σ (biOf f ds hp) Q)
    (hg : Gl X x) (hm : X.mg x = none) (hv : bootBuiltins x = some (.type T)) (ha : EBs X CM own W C (e :: es) m) (hn : x ≠ "__name__") (hdb : (x == ("__debug__" : Str)) = false)
    (he : starEach (e :: es) X.env = (false, eval e X.env) :: starEach es X.env) (hpl : (backTo pos (starEach es X.env)).any (·.1) = false) : EF X CM own W C (.Call (.Name x p) (e :: es) [] pos) (.bi f m) := by
  have hc : CallR X (.type T) fun xs H Q => ∃ (CM : Str → Option Addr) (W : WX) (O : OM) (hp : AH) (σ : L2.St) (ds : List D), RepH X.K H O hp ∧ RpBs X.K H O xs ds ∧ EvF X.K CM W O H σ (biOf f ds hp) Q :=
    fun pins s σ H xs us Q I r ⟨CM, W, O, hp, σ', ds, q⟩ => hf CM W O hp σ' ds pins s σ H xs us Q I r q
  exact TG.imp (pe_callTy hc hg hm hv ha hn hdb he hpl) fun σ H Q ⟨ρ, O, hp, re, rh, p⟩ => by
    simp only [ev] at p
    exact ⟨ρ, O, hp, re, rh, (EvF.bind p).imp fun xs H1 ⟨O1, h1, ds, s1, rh1, r1, p1⟩ => ⟨CM, W, O1, h1, σ, ds, rh1, r1, p1⟩⟩
theorem fd_list (CM : Str → Option Addr) (W : WX) (O : OM) (hp : AH) (σ' : L2.St) (ds : List D) : CallR X (.type "list") fun xs H Q => RepH X.K H O hp ∧ RpBs X.K H O xs ds ∧ EvF X.K CM W O H σ' (biOf .list ds hp) Q := by
  intro pins s σ H xs us Q I r ⟨rh, rs, p⟩
  rcases ds with _ | ⟨d, _ | ⟨_, _⟩⟩
  · exact p.elim
  · obtain ⟨w, rfl, b⟩ := rs.one
    have key : ∀ (es : List D) (a : Addr) (vs : List V), d.seq? hp = some es → biOf .list [d] hp = some (.ok (.lst es) hp) → w = .ref a → (SqL X.K H a vs ∨ SqT X.K H a vs) → Rps X.K H O vs es → wpAny (model X.prog X.w) X.A (call (.type "list") us) (EP X pins σ Q) X.xe s := by
      intro es a vs _ eb ew sq rr
      subst ew
      refine call_list_of pins s σ H _ us Q I r ⟨a, vs, rfl, sq, fun l hl => ?_⟩
      rw [eb] at p
      exact p l vs es _ _ rfl hl (Step.new_own rh hl) (rh.new_own hl) OM.put_same upd_same (rr.step (Step.new_own rh hl))
    cases d with
    | lst es => obtain ⟨a, vs, e, t, rr⟩ := b.list; exact key es a vs rfl rfl e (.inl (.inl (.inl t))) rr
    | tup es => obtain ⟨a, vs, e, t, rr⟩ := b.tup; exact key es a vs rfl rfl e (.inr t.sq) rr
    | _ => exact p.elim
  · cases d <;> exact p.elim
/-! new lists by +, by * -/
theorem of_add : OpR X (binaryOp .Add) fun x y H Q => ∃ (CM : Str → Option Addr) (W : WX) (O : OM) (hp : AH) (σ : L2.St) (dx dy : D), RepH X.K H O hp ∧ RpB X.K H O x dx ∧ RpB X.K H O y dy ∧ EvF X.K CM W O H σ (M.bd (M.lift (D.bop .add dx dy) hp) islM) Q := by
  intro pins s σ H x y v u Q I rx ry ⟨CM, W, O, hp, σ', dx, dy, rh, bx, by_, p⟩
  cases dx with
  | lst xs =>
    cases dy with
    | lst ys =>
      obtain ⟨a, vs, rfl, ha, ra⟩ := bx.list
      obtain ⟨b, ws, rfl, hb, rb⟩ := by_.list
      simp only [D.bop] at p
      split at p
      · rename_i hl
        refine op_cat pins s σ H _ _ v u Q I rx ry ⟨a, b, vs, ws, rfl, rfl, ha, hb, by rw [ra.length, rb.length]; exact hl, fun q hq => ?_⟩
        exact p q (vs ++ ws) (xs ++ ys) _ _ rfl hq (Step.new_own rh hq) (rh.new_own hq) OM.put_same upd_same ((ra.append rb).step (Step.new_own rh hq))
      · exact p.elim
    | _ => exact p.elim
  | str a =>
    cases dy with
    | str b =>
      simp only [D.bop] at p
      split at p <;> exact p.elim
    | _ => exact p.elim
  | tup a =>
    cases dy with
    | tup b =>
      simp only [D.bop] at p
      split at p <;> exact p.elim
    | _ => exact p.elim
  | int i => cases dy <;> exact p.elim
  | _ => exact p.elim
theorem of_mul : OpR X (binaryOp .Mult) fun x y H Q => ∃ (CM : Str → Option Addr) (W : WX) (O : OM) (hp : AH) (σ : L2.St) (dx dy : D), RepH X.K H O hp ∧ RpB X.K H O x dx ∧ RpB X.K H O y dy ∧ EvF X.K CM W O H σ (M.bd (M.lift (D.bop .mul dx dy) hp) islM) Q := by
  intro pins s σ H x y v u Q I rx ry ⟨CM, W, O, hp, σ', dx, dy, rh, bx, by_, p⟩
  cases dx with
  | lst xs =>
    cases dy with
    | int k =>
      obtain ⟨a, vs, rfl, ha, ra⟩ := bx.list
      have ey := by_.int
      subst ey
      simp only [D.bop] at p
      split at p
      · rename_i hl
        simp only [Bool.and_eq_true, decide_eq_true_eq] at hl
        refine op_rep pins s σ H _ _ v u Q I rx ry ⟨a, k, vs, rfl, rfl, ha, hl.1.1, hl.1.2, by rw [ra.length]; exact hl.2, fun q hq => ?_⟩
        exact p q _ _ _ _ rfl hq (Step.new_own rh hq) (rh.new_own hq) OM.put_same upd_same ((ra.flat k.toNat).step (Step.new_own rh hq))
      · exact p.elim
    | _ => exact p.elim
  | int a =>
    cases dy with
    | int b =>
      simp only [D.bop] at p
      split at p <;> exact p.elim
    | _ => exact p.elim
  | tup a =>
    cases dy with
    | int b =>
      simp only [D.bop] at p
      split at p <;> exact p.elim
    | _ => exact p.elim
  | _ => exact p.elim
theorem ef_op {op : Operator} {o : BOp} {a b : Expr} {ma mb : ME} {pos : Pos} (ho : OpR X (binaryOp op) fun x y H Q => ∃ (CM : Str → Option Addr) (W : WX) (O : OM) (hp : AH) (σ : L2.St) (dx dy : D), RepH X.K H O hp ∧ RpB X.K H O x dx ∧ RpB X.K H O y dy ∧ EvF X.K CM W O H σ (M.bd (M.lift (D.bop o dx dy) hp) islM) Q)
    (ha : EB X CM own W C a ma) (hb : EB X CM own W C b mb) : EF X CM own W C (.BinOp a op b pos) (.isl (.bin o ma mb)) :=
  TG.imp (pe_op ho ha hb) fun σ H Q ⟨ρ, O, hp, re, rh, p⟩ => by
    have e : ev C (.isl (.bin o ma mb)) ρ hp = M.bd (ev C ma ρ hp) fun x => M.bind (ev C mb ρ) fun y => M.bind (M.lift (D.bop o x y)) islM := by
      simp only [ev, M.bind_def]
      cases ev C ma ρ hp with
      | none => rfl
      | some r =>
        cases r with
        | exc c fs h' => rfl
        | ok x h1 =>
          simp only [M.bd_ok, M.bind_def]
          cases ev C mb ρ h1 with
          | none => rfl
          | some r =>
            cases r with
            | exc c fs h' => rfl
            | ok y h2 => rfl
    rw [e] at p
    exact ⟨ρ, O, hp, re, rh, (EvF.bind p).imp fun x H1 ⟨O1, h1, dx, s1, rh1, r1, p1⟩ => ⟨ρ, O1, h1, re.step s1, rh1, (EvF.bind p1).imp fun y H2 ⟨O2, h2, dy, s2, rh2, r2, p2⟩ => ⟨CM, W, O2, h2, σ, dx, dy, rh2, r1.step s2, r2, p2⟩⟩⟩
/-! a new list of a comprehension, in a slot that owns it -/
theorem sj_setOLc {i : Nat} {y : Str} {py : Pos} {elt tg iter : Expr} {ifs : List Expr} {scope : Scope} {pos spos : Pos} {ow : List (Str × Nat)} {t : Tg} {mi : MI} {cs : MEs} {me : ME} (hc : X.calm = true) (hN : X.N.Nodup) (hy : X.N[i]? = some y) (hyl : X.env.scope.names.lookup y = some .local)
    (hsw : swapsWith (.ListComp elt [⟨tg, iter, ifs, 0⟩] scope pos) (some (.Name y py)) spos.line X.env = pure true) (h : CompOk X CM own W C elt tg iter ifs scope ow t mi cs me) (ho : own i = true) (hS : S i = true) :
    SJ X CM own W S C G (.Assign [.Name y py] (.ListComp elt [⟨tg, iter, ifs, 0⟩] scope pos) spos) (.asg (.name i) (.comp me t mi cs (ow.map (·.2)))) :=
  TSt.imp (ps_setLc (g := tT X.K own t) (tt := tG X.K CM own W0 rT (tsts C cs)) (te := tG X.K CM own W0 (rV X.K) (ev C me)) hc hN hy hyl hsw h.hi h.ok h.hg h.ht h.he h.hs) fun D σ H ⟨ρ, O, hp, re, rh, p⟩ => by
    simp only [exc] at p
    refine comp_readF h.hsl _ _ _ ⟨ρ, O, hp, re, rh, ?_⟩
    cases q : ev C (.comp me t mi cs (ow.map (·.2))) ρ hp with
    | none => rw [q] at p; exact p.elim
    | some y =>
      rw [q] at p
      cases y with
      | exc c fs h' => exact fun cls dd H' O' s rh' xr => p cls dd σ H' O' (Pm.step s) rh' (re.step s) xr
      | ok d h' =>
        intro a vs ds H' O' ed hn s rh' oa ea rs
        subst ed
        exact p _ H' (tkO O' a i) (tkO_step (Pm.step s) rh oa hn hS) (tkO_rep rh' oa) ((re.step s).tk rh' oa ea rs ho)
/-! fewer slots are turned -/
theorem EvS.sub {K : PySem.W.Frag} {T : Nat → Bool} (hST : ∀ i, S i = true → T i = true) {O : OM} {H : Hp} {r : Option SR} {D : Ends} (p : EvS K CM own W T O H r D) : EvS K CM own W S O H r D := by
  cases r with
  | none => exact p
  | some x =>
    cases x with
    | nx ρ h => exact fun σ' H' O' s rh re => p σ' H' O' (Pm.sub hST s) rh re
    | bk ρ h => exact fun σ' H' O' s rh re => p σ' H' O' (Pm.sub hST s) rh re
    | ct ρ h => exact fun σ' H' O' s rh re => p σ' H' O' (Pm.sub hST s) rh re
    | rt d h => exact p
    | ex c fs ρ h => exact fun cls dd σ' H' O' s rh re xr => p cls dd σ' H' O' (Pm.sub hST s) rh re xr
theorem sj_sub {T : Nat → Bool} (hST : ∀ i, S i = true → T i = true) {st : Stmt} {m : MS} (h : SJ X CM own W S C G st m) : SJ X CM own W T C G st m := TSt.imp h fun D σ H ⟨ρ, O, hp, re, rh, p⟩ => ⟨ρ, O, hp, re, rh, p.sub hST⟩
/-! three at once -/
theorem bd_repr : BiD X (.builtin "repr") (biOf .repr) := by
  intro CM W O hp σ' ds pins s σ H xs us Q I r ⟨rh, rs, p⟩
  rcases ds with _ | ⟨d, _ | ⟨_, _⟩⟩
  · exact p.elim
  · cases d with
    | bl b =>
      obtain ⟨v, rfl, bb⟩ := rs.one
      have ex := bb.bl
      subst ex
      obtain ⟨u, rfl, e⟩ := vals1 r
      cases e
      exact PySem.P.repr_of_bool ⟨.str _, H, I.tok _, ⟨_, rfl⟩, EvG.ok p rh (by cases b <;> exact .str _)⟩
    | _ => exact p.elim
  · cases d <;> exact p.elim
theorem pairs_K {K : PySem.W.Frag} {H : Hp} {O : OM} : ∀ (ds : List D) (xs : List V) (kvs0 : List (L2.Key × V)) (vs0 ks vs : List D), Rps K H O xs ds → Rps K H O (kvs0.map Prod.snd) vs0 → pairsD false ds (kvs0.map fun p => Kd p.1) vs0 = some (ks, vs) →
    ∃ (ps : List Addr) (kvs : List (L2.Key × V)), xs = ps.map V.ref ∧ Paired (fun p kv => SqT K H p [kV kv.1, kv.2]) ps kvs ∧ ks = (mergeK kvs0 kvs).map (fun p => Kd p.1) ∧ Rps K H O ((mergeK kvs0 kvs).map Prod.snd) vs
  | [], _, kvs0, vs0, ks, vs, .nil, r0, e => by
    cases e
    exact ⟨[], [], rfl, .nil, rfl, r0⟩
  | d :: ds, _, kvs0, vs0, ks, vs, .cons (v := v) (vs := xs) r rs, r0, e => by
    cases d with
    | tup es =>
      match es, r, e with
      | [dk, dv], r, e =>
        simp only [pairsD] at e
        split at e
        · rename_i ok
          obtain ⟨_, k, ek⟩ := keyOk_K ok
          obtain ⟨a, ws, rfl, t, rr⟩ := (RpB.rp r).tup
          cases rr with
          | cons rk rr =>
            cases rr with
            | cons rv rr =>
              cases rr
              obtain ⟨rfl, rfl⟩ := key_val (.rp rk) ek
              have pk := put_K k _ dv rv kvs0 vs0 r0
              rw [pk.1] at e
              obtain ⟨ps, kvs, rfl, pp, h1, h2⟩ := pairs_K ds xs (putK kvs0 k _) _ ks vs rs pk.2 e
              exact ⟨a :: ps, (k, _) :: kvs, rfl, .cons t.sq pp, h1, h2⟩
        · cases e
      | [], _, e => simp [pairsD] at e
      | [_], _, e => simp [pairsD] at e
      | _ :: _ :: _ :: _, _, e => simp [pairsD] at e
    | _ => simp [pairsD] at e
theorem bd_dictK (hc : X.calm = true) : BiD X (.type "dict") (biOf .dictK) := by
  intro CM W O hp σ' ds pins s σ H xs us Q I r ⟨rh, rs, p⟩
  rcases ds with _ | ⟨d, _ | ⟨_, _⟩⟩
  · exact p.elim
  · obtain ⟨v, rfl, b⟩ := rs.one
    cases d with
    | lst es =>
      obtain ⟨a, vs, rfl, t, rr⟩ := b.list
      simp only [biOf] at p
      cases q : pairsD false es [] [] with
      | none => rw [q] at p; exact p.elim
      | some kv =>
        rw [q] at p
        obtain ⟨ps, kvs, rfl, pp, h1, h2⟩ := pairs_K es vs [] [] kv.1 kv.2 rr .nil q
        refine call_dictP hc pins s σ H _ us Q I r ⟨a, ps, kvs, rfl, .inl (.inl t), pp, fun l hl => ?_⟩
        have st : Step O H O (upd H l (.dK (mergeK [] kvs))) := Step.new_tup (xs := []) rh hl _
        exact EvG.okn p rh hl (.dK (.inl upd_same) (rh.fresh hl) h1 (h2.step st))
    | _ => exact p.elim
  · cases d <;> exact p.elim
end
end Mi

set_option Elab.async false
set_option linter.all false
set_option maxRecDepth 100000
set_option maxHeartbeats 4000000
/-! Mi over the hand layer: try, raise. -/
namespace Mi
open PySem PySem.Spec PyProof.Rows L2
/-- a clause: its class, the slot of its name, its suite's reading -/
abbrev Cl := Value × Option Nat × (Addr → Value → Option Addr → TS)
def clS (o : Option Nat) (a : Addr) (σ : L2.St) : L2.St := match o with
  | none => σ
  | some i => σ.set i (some (V.ref a))
def clD (o : Option Nat) (D : Ends) : Ends := match o with
  | none => D
  | some i => { nx := fun σ H => D.nx (σ.set i none) H, rt := D.rt, bk := fun σ H => D.bk (σ.set i none) H, ct := fun σ H => D.ct (σ.set i none) H }
def wHs (K : PySem.W.Frag) (Wo : WX) (D : Ends) : List Cl → WX
  | [] => Wo
  | (c, o, ts) :: r => fun cls d σ H => ∃ b, PySem.W.exmOne K cls c = some b ∧ (b = true → ∀ a, H a = none → ts a cls d (clD o D) (clS o a σ) H) ∧ (b = false → wHs K Wo D r cls d σ H)
def SuiteOk (X : Cx) (ss : List Stmt) (ts : Addr → Value → Option Addr → TS) : Prop := ∀ (a : Addr) (oe : Obj) (cls : Value) (d : Option Addr) (pn : List (Addr × Obj)), Zc cls d oe → (∃ vs, oe.data = .fields vs) → PSs (X.suite a ((a, oe) :: pn)) ss (ts a cls d)
inductive HsOk (X : Cx) : List ExceptHandler → List Cl → Prop
  | nil : HsOk X [] []
  | one {x : Str} {c : Value} {ts} {st : Stmt} {ss : List Stmt} {p1 p2 : Pos} {hs : List ExceptHandler} {l : List Cl} (hc : Names X x c) (hsu : SuiteOk X (st :: ss) ts) (r : HsOk X hs l) : HsOk X (.ExceptHandler (some (.Name x p1)) none (st :: ss) p2 :: hs) ((c, none, ts) :: l)
  | nam {x n : Str} {i : Nat} {c : Value} {ts} {st : Stmt} {ss : List Stmt} {p1 p2 : Pos} {hs : List ExceptHandler} {l : List Cl} (hc : Names X x c) (hN : X.N.Nodup) (hi : X.N[i]? = some n) (hl : X.env.kindOf n = some .local) (hsu : SuiteOk X (st :: ss) ts) (r : HsOk X hs l) :
      HsOk X (.ExceptHandler (some (.Name x p1)) (some n) (st :: ss) p2 :: hs) ((c, some i, ts) :: l)
section
variable {X : Cx} {body : List Stmt} {hd : ExceptHandler} {hds : List ExceptHandler} {l : List Cl} {pos : Pos} {tb : WX → TS} {Wo : WX}
theorem ps_tryH (sk : X.stack = X.env :: X.outer) (fr : X.env.frame = some X.env.locals) (tk : Takes X Wo)
    (hb : ∀ (W : WX) (pn : List (Addr × Obj)) (xe : Value → Shared → Prop), Takes (X.tr pn xe) W → PassesOwn (model X.prog X.w) X.A X.env xe → PSs (X.tr pn xe) body (tb W))
    (hh : HsOk X (hd :: hds) l) : PS X (.Try body (hd :: hds) [] [] pos) (fun D σ H => tb (wHs X.K Wo D l) D σ H) := by
  refine ⟨fun pins s0 σ0 H0 D I0 pre => ?_⟩
  have okX := I0.ok
  have frA : X.A.frames = some (X.env :: X.outer) := by rw [okX.frames, sk]
  refine wpAny_Try_except ?_
  have bod := (hb (wHs X.K Wo D l) (X.pn ++ pins) (fun e z1 => wpAny (model X.prog X.w) X.A (noteFrame e X.env) (fun _ z2 => wpAny (model X.prog X.w) X.A (setFlight e none) (fun _ z3 => wpAny (model X.prog X.w) X.A (handleBy e X.env (hd :: hds)) (SP X pins D) X.xe z3) X.xe z2) X.xe z1) (fun u z xx => ?_) PassesOwn.looking).run [] s0 σ0 H0 D (I0.toTry _) pre
  · refine wpAny_mono bod (fun fl z1 ends => ?_) (fun _ _ y => y)
    cases fl with
    | next => obtain ⟨σ1, H1, J1, q1⟩ := ends; exact wpAny_execs_nil ⟨σ1, H1, J1.ofTry okX, q1⟩
    | brk => obtain ⟨σ1, H1, J1, q1⟩ := ends; exact ⟨σ1, H1, J1.ofTry okX, q1⟩
    | cont => obtain ⟨σ1, H1, J1, q1⟩ := ends; exact ⟨σ1, H1, J1.ofTry okX, q1⟩
    | ret u => obtain ⟨v1, σ1, H1, J1, r1, q1⟩ := ends; exact ⟨v1, σ1, H1, J1.ofTry okX, r1, q1⟩
  · obtain ⟨a, B, sJ, ps1, σ1, H1, cls, d, rfl, J0, nb, up0, sky0, na, os0, ag0, wish⟩ := xx
    have J : Inv X pins σ1 H1 sJ := J0.ofTry okX
    have skyA : Sky B (X.env :: X.outer) a (Zc cls d) X.env.locals z.heap := by rw [← sk]; exact sky0
    show wpAny (model X.prog X.w) X.A (noteFrame (.ref a) X.env) _ _ _
    refine Sky.land Zc.steady frA fr skyA fun g3 fly3 up3 => ?_
    have J3 : Inv X pins σ1 H1 { z with heap := g3 } := J.landed nb fly3.1 (up0.trans up3) os0 ag0
    obtain ⟨o3, v3, at3, zc3, da3⟩ := fly3.there
    have apart : ∀ {g : Heap} {o : Obj} {vs : Array Value}, g.FunFrames B (X.env :: X.outer) → g.get? a = some o → o.data = .fields vs → a ∉ frs (X.env :: X.outer) := fun {g o vs} ff e1 e2 hm => by
      obtain ⟨_, o1, e3, nf⟩ := ff.mem hm
      rw [e1] at e3; cases e3
      exact nf _ e2
    have offF := apart fly3.2.2.1 at3 da3
    have offL : a ≠ X.env.locals := fun y => offF (List.mem_filterMap.mpr ⟨X.env, List.mem_cons_self, by rw [fr, y]⟩)
    have offO : a ∉ X.fs := fun hm => by
      obtain ⟨e1, m1, q1⟩ := List.mem_filterMap.mp hm
      exact offF (List.mem_filterMap.mpr ⟨e1, List.mem_cons_of_mem _ m1, q1⟩)
    have S3 := J3.suite at3 da3 na offL offO
    have go : ∀ {hs : List ExceptHandler} {m : List Cl}, HsOk X hs m → wHs X.K Wo D m cls d σ1 H1 → wpAny (model X.prog X.w) X.A (handleBy (.ref a) X.env hs) (SP X pins D) X.xe { z with heap := g3 } := by
      intro hs m hk
      have test : ∀ {x : Str} {c : Value} {p1 : Pos} {Q : Value → Shared → Prop} {E : Value → Shared → Prop}, Names X x c → Q c { z with heap := g3 } → wpAny (model X.prog X.w) (X.A.mark (some (.ref a))) (eval (.Name x p1) X.env) Q E { z with heap := g3 } := fun {x c p1 Q E} hc q => by
        obtain ⟨n1, n2, n3 | ⟨n3, n4, n5⟩⟩ := hc
        · exact ld_glob (X := X.suite a ((a, o3) :: (X.pn ++ pins))) S3 n1 n3 q n2
        · exact ld_blt (X := X.suite a ((a, o3) :: (X.pn ++ pins))) S3 n1 n3 n4 q n5 n2
      have LT : PySem.W.Looks (model X.prog X.w) g3 (typeOf (.ref a)) cls := fun A Q E y kk q => wpAny_typeOf_ref (kk _ _ at3) (by rw [zc3.1]; exact q)
      induction hk with
      | nil =>
        intro w1
        refine wpAny_handleBy_nil ?_
        obtain ⟨k1, k2, k3, o4, v4, T, oT, t4, at4, zc4, da4, h14, hr4⟩ := id fly3
        unfold PySem.passOn
        refine wpAny_bind (wpAny_field at4 da4 h14 ?_)
        rw [if_neg (show ¬ ((Value.ref T == Value.none) = true) from by simp)]
        have fin : wpAny (model X.prog X.w) X.A (setFlight (.ref a) X.env.frame) (fun _ y => wpAny (model X.prog X.w) X.A (throw (.ref a) : Sem Flow) (SP X pins D) X.xe y) X.xe { z with heap := g3 } := by
          rw [fr]
          refine HandSPX.setFlight_upZ fly3 fun g4 held4 up4 => wpAny_throw (tk _ _ ?_)
          exact ⟨a, B, sJ, pins, σ1, H1, cls, d, rfl, J, nb, (up0.trans up3).trans up4, .inr (.inr (by rw [sk]; exact held4)), na, os0, ag0, w1⟩
        first
          | exact wpAny_bind (wpAny_pure (wpAny_bind fin))
          | exact wpAny_bind fin
      | @one x c ts st ss p1 p2 hs2 l2 hc hsu r ih =>
        intro w1
        obtain ⟨b, hb1, yes, no⟩ := w1
        refine wpAny_handleBy_cons (codeAny_handlers_test ?_) (fun q => nomatch q)
        have LM := PySem.W.exm_one (M := model X.prog X.w) J3.kIn LT hb1
        refine test hc (LM.here ?_)
        cases b with
        | false =>
          show wpAny _ X.A (handleBy (.ref a) X.env hs2) _ _ _
          exact ih (no rfl)
        | true =>
          refine codeAny_handlers_suite ?_
          refine HandSPX.lands_againZ fly3 fun g4 fly4 up4 => ?_
          have J4 : Inv X pins σ1 H1 { z with heap := g4 } := J.landed nb fly4.1 ((up0.trans up3).trans up4) os0 ag0
          obtain ⟨o4, v4, at4, zc4, da4⟩ := fly4.there
          have S4 := J4.suite at4 da4 na offL offO
          refine wpAny_mono ((hsu a o4 cls d (X.pn ++ pins) zc4 ⟨_, da4⟩).run [] _ _ H1 _ S4 (yes rfl a na)) (fun fl z6 ends => ?_) (fun _ _ y => False.elim y)
          cases fl with
          | next => obtain ⟨σ6, H6, S6, q6⟩ := ends; exact ⟨_, _, S6.unsuite okX, q6⟩
          | brk => obtain ⟨σ6, H6, S6, q6⟩ := ends; exact ⟨_, _, S6.unsuite okX, q6⟩
          | cont => obtain ⟨σ6, H6, S6, q6⟩ := ends; exact ⟨_, _, S6.unsuite okX, q6⟩
          | ret u => obtain ⟨v6, σ6, H6, S6, r6, q6⟩ := ends; exact ⟨_, _, _, S6.unsuite okX, r6, q6⟩
      | @nam x n i c ts st ss p1 p2 hs2 l2 hc hN hi hl hsu r ih =>
        intro w1
        obtain ⟨b, hb1, yes, no⟩ := w1
        refine wpAny_handleBy_cons (codeAny_handlers_test ?_) (fun q => nomatch q)
        have LM := PySem.W.exm_one (M := model X.prog X.w) J3.kIn LT hb1
        refine test hc (LM.here ?_)
        cases b with
        | false =>
          show wpAny _ X.A (handleBy (.ref a) X.env hs2) _ _ _
          exact ih (no rfl)
        | true =>
          refine codeAny_handlers_suite_as ?_
          refine HandSPX.lands_againZ fly3 fun g4 fly4 up4 => ?_
          have J4 : Inv X pins σ1 H1 { z with heap := g4 } := J.landed nb fly4.1 ((up0.trans up3).trans up4) os0 ag0
          obtain ⟨o4, v4, at4, zc4, da4⟩ := fly4.there
          have S4 := J4.suite at4 da4 na offL offO
          refine store_ok (X := X.suite a ((a, o4) :: (X.pn ++ pins))) (v := .ref a) S4 hN hi (.inl hl) rfl (fun z5 S5 => ?_) (.inr hl)
          refine wpAny_mono ((hsu a o4 cls d (X.pn ++ pins) zc4 ⟨_, da4⟩).run [] z5 _ H1 _ S5 (yes rfl a na)) (fun fl z6 ends => ?_) (fun _ _ y => False.elim y)
          have gone : ∀ {σ6 : L2.St} {H6 : Hp} {Q : Shared → Prop}, Inv (X.suite a ((a, o4) :: (X.pn ++ pins))) [] σ6 H6 z6 → (∀ z7, Inv X pins (σ6.set i none) H6 z7 → Q z7) →
              wpAny (model X.prog X.w) X.A (do bindName X.env n .none; unbindBehindTheSuite X.env n p2) (fun _ z7 => Q z7) X.xe z6 := fun {σ6 H6 Q} S6 hq => gone_ok (S6.unsuite okX) hN hi hl hq
          cases fl with
          | next => obtain ⟨σ6, H6, S6, q6⟩ := ends; exact gone S6 fun z7 J7 => ⟨_, _, J7, q6⟩
          | brk => obtain ⟨σ6, H6, S6, q6⟩ := ends; exact gone S6 fun z7 J7 => ⟨_, _, J7, q6⟩
          | cont => obtain ⟨σ6, H6, S6, q6⟩ := ends; exact gone S6 fun z7 J7 => ⟨_, _, J7, q6⟩
          | ret u => obtain ⟨v6, σ6, H6, S6, r6, q6⟩ := ends; exact gone S6 fun z7 J7 => ⟨_, _, _, J7, r6, q6⟩
    exact go hh wish
end

theorem base_plain (n : Str) (p : Pos) (at_ : Str) {env : PySem.Env} {wh : Sem Value} : attributeBase (.Name n p) at_ env wh = wh := rfl
theorem cx_no {P : Program} {w : World} {ou : List PySem.Env} {H : Hp} {s : Shared} {e : Value} {s' : Shared} (h : L2.CX P w ou H s (fun _ _ _ => False) e s') : False := by
  obtain ⟨_, _, _, _, _, _, _, _, _, _, _, _, z⟩ := h
  exact z
/-! ### the classes of exceptions -/
/-- what an __init__ that stores its parameters promises -/
def spI (C : Addr) (fs : List Str) : Sp := fun vs H Q _ => ∃ (a : Addr) (ys : List V), vs = .ref a :: ys ∧ ys.length = fs.length ∧ H a = some (exo a C none) ∧ ∀ (d : Addr) (H2 : Hp), H d = none → d ≠ a → H2 a = some (exo a C (some d)) → H2 d = some (exd d (fs.zip ys).reverse) → (∀ b, b ≠ a → b ≠ d → H2 b = H b) → Q .non H2
abbrev veTail : List Value := [.type "ValueError", .type "Exception", .type "BaseException", .type "object"]
/-- a class as the written part has it -/
structure XcAt (P : Program) (w : World) (K : PySem.W.Frag) (mg : Str → Option Value) (base : Heap) (CM : Str → Option Addr) (k : XC) (C : Addr) : Prop where
  cm : CM k.name = some C
  gl : mg k.name = some (.ref C)
  kp : PySem.W.keepIn K (.ref C) = true
  sub : PySem.W.subIn K (.ref C) (.type "BaseException") = some true
  typ : PySem.W.typeIn K (.ref C) = some (.type "type")
  made : (k.fs = [] ∧ PySem.W.excIn K C veTail "ValueError.__new__" = true) ∨ (k.fs ≠ [] ∧ k.fs.length ≤ 9 ∧ OexC K C ∧ XfC K C ∧ (∀ f ∈ k.fs, PySem.W.findIn K (.ref C) f = some none) ∧ ∃ (fI : Addr) (fd : FuncData) (ps : List Str), PySem.W.findIn K (.ref C) "__init__" = some (some (.ref fI)) ∧
    PySem.W.typeIn K (.ref fI) = some (.type "function") ∧ Binds K fd ps [] ∧ FnOk P w K mg base (L2.CX P w) 1 fI fd ps (spI C k.fs))
structure XsOk (P : Program) (w : World) (K : PySem.W.Frag) (mg : Str → Option Value) (base : Heap) (CM : Str → Option Addr) (G : List XC) : Prop where
  has : ∀ k ∈ G, ∃ C, XcAt P w K mg base CM k C
  ex : ∀ k ∈ G, ∀ m ∈ G, ∀ C D, CM k.name = some C → CM m.name = some D → PySem.W.exmOne K (.ref C) (.ref D) = some (takes G k.name m.name)
  only : ∀ c C, CM c = some C → ∃ k ∈ G, k.name = c
/-- a body's place -/
structure Gs (CM : Str → Option Addr) (G : List XC) (X : Cx) : Prop where
  xs : XsOk X.prog X.w X.K X.mg X.base CM G
  room : Room 3 X.A
  sk : X.stack = X.env :: X.outer
  fr : X.env.frame = some X.env.locals
  hp : PassesOwn (model X.prog X.w) X.A X.env X.xe
theorem Gs.tr {CM : Str → Option Addr} {G : List XC} {X : Cx} (g : Gs CM G X) (pn : List (Addr × Obj)) (xe : Value → Shared → Prop) (hp : PassesOwn (model X.prog X.w) X.A X.env xe) : Gs CM G (X.tr pn xe) := ⟨g.xs, g.room, g.sk, g.fr, hp⟩
section
variable {X : Cx} {CM : Str → Option Addr} {own : Nat → Bool} {W : WX} {C : Nat → List D → M D} {G : List XC} {S : Nat → Bool}
theorem pmk_own0 {C : Addr} {x : Str} {p pos : Pos} (q : PySem.W.excIn X.K C veTail "ValueError.__new__" = true) (gC : X.mg x = some (.ref C)) (kC : PySem.W.keepIn X.K (.ref C) = true) (r : Raises X (.ref C)) (hg : Gl X x) (hdb : (x == ("__debug__" : Str)) = false) :
    PMk X (.Call (.Name x p) [] [] pos) (fun _ H Q => Q (.ref C) none H) := by
  intro pins s σ H Q I h
  refine wpAny_Call_Name_kw (ld_glob I hg gC ?_ hdb)
  refine PySem.W.callWith_K0 (first := []) I.kIn kC ?_
  show wpAny _ _ (call (.ref C) []) _ _ _
  obtain ⟨c1, c2, c3, c4, c5, c6, c7, c8, c9, c10, c11, c12, c13, c14, c15, c16, c17, hC, hN, hni, T⟩ := exc_obj I.kIn q
  refine wpAny_call_exc_subT PySem.F.excBase_ValueError T hC hN hni (fun h' e hm => ?_) (by show 0 ≤ sizeLine; exact Nat.zero_le _)
  exact mk_of I hm r h (I.hok.gone hm.new)
theorem find_mem {x : Str} {k : XC} (e : G.find? (fun k => k.name == x) = some k) : k ∈ G ∧ k.name = x := ⟨List.mem_of_find?_eq_some e, by simpa using List.find?_some e⟩
theorem sj_raise0 {x : Str} {p pos pos2 : Pos} {k : XC} (hc : X.calm = true) (tk : Takes X W) (gs : Gs CM G X) (hk : G.find? (fun k => k.name == x) = some k) (hf : k.fs = []) (hg : Gl X x) (hdb : (x == ("__debug__" : Str)) = false) :
    SJ X CM own W S C G (.Raise (some (.Call (.Name x p) [] [] pos)) none pos2) (.raise x .nil) := by
  obtain ⟨hm, hn⟩ := find_mem hk
  obtain ⟨Ca, xa⟩ := gs.xs.has k hm
  subst hn
  have q : PySem.W.excIn X.K Ca veTail "ValueError.__new__" = true := by
    rcases xa.made with ⟨_, q⟩ | ⟨q, _⟩
    · exact q
    · exact absurd hf q
  refine TSt.imp (ps_raise hc tk (pmk_own0 q xa.gl xa.kp (raises_own xa.sub xa.typ) hg hdb)) fun D σ H ⟨ρ, O, h, re, rh, pp⟩ => ?_
  simp only [exc, evs, M.ret_def, SR.bd_ok, madeX, hk, hf] at pp
  exact pp (.ref Ca) none σ H O (StP.refl _ _ _) rh re ⟨Ca, xa.cm, rfl, .inl ⟨rfl, rfl⟩⟩
theorem RpF.app {K : PySem.W.Frag} {H : Hp} {O : OM} : ∀ {vs vs2 ds ds2}, RpF K H O vs ds → RpF K H O vs2 ds2 → RpF K H O (vs ++ vs2) (ds ++ ds2)
  | _, _, _, _, .nil, q => q
  | _, _, _, _, .cons r t, q => .cons r (RpF.app t q)
theorem RpF.rev {K : PySem.W.Frag} {H : Hp} {O : OM} : ∀ {vs ds}, RpF K H O vs ds → RpF K H O vs.reverse ds.reverse
  | _, _, .nil => .nil
  | _, _, .cons r t => by
    rw [List.reverse_cons, List.reverse_cons]
    exact RpF.app (RpF.rev t) (.cons r .nil)
theorem RpF.zip {K : PySem.W.Frag} {H : Hp} {O : OM} : ∀ (fs : List Str) {vs : List V} {ds : List D}, Rps K H O vs ds → RpF K H O (fs.zip vs) (fs.zip ds)
  | [], _, _, _ => by simp; exact .nil
  | _ :: _, _, _, .nil => .nil
  | f :: fs, _, _, .cons r t => .cons r (RpF.zip fs t)
theorem sj_raiseN {x : Str} {e : Expr} {es : List Expr} {m : ME} {ms : MEs} {p pos pos2 : Pos} {k : XC} (hc : X.calm = true) (tk : Takes X W) (gs : Gs CM G X) (hk : G.find? (fun k => k.name == x) = some k) (hf : k.fs ≠ []) (hg : Gl X x) (hdb : (x == ("__debug__" : Str)) = false)
    (ha : EJs X CM own W C (e :: es) (.cons m ms)) (he : starEach (e :: es) X.env = (false, eval e X.env) :: starEach es X.env) (hpl : (backTo pos (starEach es X.env)).any (·.1) = false) :
    SJ X CM own W S C G (.Raise (some (.Call (.Name x p) (e :: es) [] pos)) none pos2) (.raise x (.cons m ms)) := by
  obtain ⟨hm, hn⟩ := find_mem hk
  obtain ⟨Ca, xa⟩ := gs.xs.has k hm
  subst hn
  rcases xa.made with ⟨q, _⟩ | ⟨_, hl9, ox, xf, hno, fI, fd, ps, iC, tI, hb, F1⟩
  · exact absurd q hf
  refine TSt.imp (ps_raise hc tk (pmk_oex (dvs := []) (ds := []) ox iC tI F1 (gs.room.mono (by decide)) hb .nil (fun pins σ H s u s' I cx => (cx_no cx).elim) hg xa.gl ha hdb he hpl)) fun D σ H ⟨ρ, O, h, re, rh, pp⟩ => ?_
  simp only [exc] at pp
  refine ⟨ρ, O, h, re, rh, (EvS.bd re pp).imp fun vs H1 ⟨O1, h1, ds, s1, rh1, r1, p1⟩ => ?_⟩
  simp only [madeX, hk] at p1
  split at p1
  · rename_i hlen
    have hvl : vs.length = k.fs.length := by rw [r1.length, hlen]
    refine ⟨by rw [hvl]; omega, fun a ha' => ⟨a, vs, by rw [List.append_nil], hvl, upd_same, fun d H2 hd hda e1 e2 hrest => ?_⟩⟩
    have hd1 : H1 d = none := by rw [upd_ne hda] at hd; exact hd
    refine ⟨rfl, d, _, e1, e2, hd1, ?_⟩
    have eH : upd (L2.del H2 a) d (.xd (k.fs.zip vs).reverse) = upd H1 d (.xd (k.fs.zip vs).reverse) := by
      funext b
      by_cases hb : b = d
      · subst hb; rw [upd_same, upd_same]
      · rw [upd_ne hb, upd_ne hb]
        by_cases hba : b = a
        · subst hba; rw [del_same, ha']
        · rw [del_ne hba, hrest b hba hb, upd_ne hba]
    rw [eH]
    have st : Step O1 H1 O1 (upd H1 d (.xd (k.fs.zip vs).reverse)) := Step.new_tup (xs := []) rh1 hd1 _
    exact p1 (.ref Ca) (some d) σ _ O1 (Pm.step st) (rh1.upd_new hd1 _) ((re.step s1).step st) ⟨Ca, xa.cm, rfl, .inr ⟨d, _, rfl, upd_same, rh1.fresh hd1, (RpF.zip k.fs (r1.step st)).rev⟩⟩
  · exact p1.elim
/-! ### clauses -/
/-- a clause's judgement -/
inductive HJ (X : Cx) (CM : Str → Option Addr) (G : List XC) : List ExceptHandler → List (Str × Hd) → Prop
  | nil : HJ X CM G [] []
  | con {x : Str} {p1 p2 p3 p4 : Pos} {c : Const} {kk : Nat} {d : D} {v : V} {hs l} (hx : Names X x (X.mg x |>.getD .none)) (hG : (G.find? (fun k => k.name == x)).isSome = true) (hv : ∀ X' : Cx, PE X' (.Constant c kk p4) (tC v)) (rv : ∀ H O, Rp X.K H O v d) (r : HJ X CM G hs l) :
      HJ X CM G (.ExceptHandler (some (.Name x p1)) none [.Return (some (.Constant c kk p4)) p3] p2 :: hs) ((x, .con d) :: l)
  | cnt {x : Str} {p1 p2 p3 : Pos} {hs l} (hx : Names X x (X.mg x |>.getD .none)) (hG : (G.find? (fun k => k.name == x)).isSome = true) (r : HJ X CM G hs l) :
      HJ X CM G (.ExceptHandler (some (.Name x p1)) none [.Continue p3] p2 :: hs) ((x, .cnt) :: l)
  | fld {x n f : Str} {i : Nat} {p1 p2 p3 p4 p5 : Pos} {k : XC} {hs l} (hx : Names X x (X.mg x |>.getD .none)) (hG : G.find? (fun k => k.name == x) = some k) (hlast : (G.all fun m => !m.up.contains x) = true) (hf : f ∈ k.fs) (hN : X.N.Nodup) (hi : X.N[i]? = some n) (hl : X.env.kindOf n = some .local)
      (h1 : (n == ("__debug__" : Str)) = false) (h2 : (n == ("__classdict__" : Str)) = false) (r : HJ X CM G hs l) :
      HJ X CM G (.ExceptHandler (some (.Name x p1)) (some n) [.Return (some (.Attribute (.Name n p4) f p5)) p3] p2 :: hs) ((x, .fld i f) :: l)
  | fld2 {x n f f2 : Str} {i kk : Nat} {p1 p2 p3 p4 p5 p6 p7 p8 : Pos} {k : XC} {hs l} (hx : Names X x (X.mg x |>.getD .none)) (hG : G.find? (fun k => k.name == x) = some k) (hlast : (G.all fun m => !m.up.contains x) = true) (hf : f ∈ k.fs) (hf2 : f2 ∈ k.fs) (hN : X.N.Nodup) (hi : X.N[i]? = some n) (hl : X.env.kindOf n = some .local)
      (h1 : (n == ("__debug__" : Str)) = false) (h2 : (n == ("__classdict__" : Str)) = false) (r : HJ X CM G hs l) :
      HJ X CM G (.ExceptHandler (some (.Name x p1)) (some n) [.Return (some (.Tuple [.Attribute (.Name n p4) f p5, .Attribute (.Name n p6) f2 p7] kk p8)) p3] p2 :: hs) ((x, .flds i [f, f2]) :: l)
theorem takes_last {x c : Str} (hlast : (G.all fun m => !m.up.contains c) = true) (h : takes G x c = true) : x = c := by
  unfold takes at h
  simp only [Bool.or_eq_true, beq_iff_eq] at h
  rcases h with h | h
  · exact h
  · split at h
    · rename_i k e
      have := List.all_eq_true.mp hlast k (List.mem_of_find?_eq_some e)
      rw [h] at this; cases this
    · cases h
theorem RpF.look {K : PySem.W.Frag} {H : Hp} {O : OM} {f : Str} : ∀ {vs ds} {d : D}, RpF K H O vs ds → ds.lookup f = some d → ∃ v, vs.lookup f = some v ∧ Rp K H O v d
  | _, _, _, .nil, e => by cases e
  | _, _, d, @RpF.cons _ _ _ g v d' vs ds r t, e => by
    rw [List.lookup_cons] at e ⊢
    cases q : f == g with
    | true => rw [q] at e; cases e; exact ⟨v, rfl, r⟩
    | false => rw [q] at e; exact RpF.look t e
theorem hj_ok (gs : Gs CM G X) : ∀ {hs : List ExceptHandler} {l : List (Str × Hd)}, HJ X CM G hs l → ∃ m : List Cl, HsOk X hs m ∧ ∀ (Wo : WX) (D : Ends) (k : Str) (fs : List (Str × Mi.D)) (ρ : Env) (h : AH) (O : OM) (H : Hp) (σ : L2.St) (cls : Value) (dd : Option Addr),
    RepH X.K H O h → RepE X.K H O own σ ρ → XRp X.K CM H O k fs cls dd → EvS X.K CM own Wo S O H (match l.find? fun p => takes G k p.1 with
      | some p => hdl p.2 fs ρ h
      | none => some (.ex k fs ρ h)) D → wHs X.K Wo D m cls dd σ H := by
  intro hs l hj
  have ex : ∀ {x k : Str} {kx : XC} {C1 : Addr}, G.find? (fun k => k.name == x) = some kx → CM k = some C1 → ∃ Cx, X.mg x = some (.ref Cx) ∧ CM x = some Cx ∧ PySem.W.exmOne X.K (.ref C1) (.ref Cx) = some (takes G k x) := fun {x k kx C1} e e1 => by
    obtain ⟨m1, n1⟩ := find_mem e
    obtain ⟨Cx, xa⟩ := gs.xs.has kx m1
    obtain ⟨k2, m2, n2⟩ := gs.xs.only k C1 e1
    subst n1; subst n2
    exact ⟨Cx, xa.gl, xa.cm, gs.xs.ex k2 m2 kx m1 _ _ e1 xa.cm⟩
  induction hj with
  | nil =>
    refine ⟨[], .nil, fun Wo D k fs ρ h O H σ cls dd rh re xr p => ?_⟩
    exact p cls dd σ H O (StP.refl _ _ _) rh re xr
  | @con x p1 p2 p3 p4 c kk d v hs l hx hG hv rv r ih =>
    obtain ⟨m, hm, hw⟩ := ih
    refine ⟨(_, none, fun _ _ _ => tRet (tC v)) :: m, .one hx (fun a oe cls d pn _ _ => pss_one (ps_ret (hv _))) hm, fun Wo D k fs ρ h O H σ cls dd rh re xr p => ?_⟩
    obtain ⟨kx, ekx⟩ := Option.isSome_iff_exists.mp hG
    obtain ⟨C1, c1, rfl, _⟩ := id xr
    obtain ⟨Cx, g1, g2, g3⟩ := ex ekx c1
    refine ⟨takes G k x, by rw [g1]; exact g3, fun ht a na => ?_, fun ht => ?_⟩
    · simp only [List.find?_cons, ht] at p
      exact p v H O (StP.refl _ _ _) rh (rv H O)
    · simp only [List.find?_cons, ht] at p
      exact hw Wo D k fs ρ h O H σ _ dd rh re xr p
  | @cnt x p1 p2 p3 hs l hx hG r ih =>
    obtain ⟨m, hm, hw⟩ := ih
    refine ⟨(_, none, fun _ _ _ => tCont) :: m, .one hx (fun a oe cls d pn _ _ => pss_one ps_continue) hm, fun Wo D k fs ρ h O H σ cls dd rh re xr p => ?_⟩
    obtain ⟨kx, ekx⟩ := Option.isSome_iff_exists.mp hG
    obtain ⟨C1, c1, rfl, _⟩ := id xr
    obtain ⟨Cx, g1, g2, g3⟩ := ex ekx c1
    refine ⟨takes G k x, by rw [g1]; exact g3, fun ht a na => ?_, fun ht => ?_⟩
    · simp only [List.find?_cons, ht] at p
      exact p σ H O (StP.refl _ _ _) rh re
    · simp only [List.find?_cons, ht] at p
      exact hw Wo D k fs ρ h O H σ _ dd rh re xr p
  | @fld x n f i p1 p2 p3 p4 p5 kx hs l hx hG hlast hf hN hi hl h1 h2 r ih =>
    obtain ⟨m, hm, hw⟩ := ih
    obtain ⟨m1, n1⟩ := find_mem hG
    obtain ⟨Ca, xa⟩ := gs.xs.has kx m1
    subst n1
    rcases xa.made with ⟨q, _⟩ | ⟨_, _, ox, xf, hno, _⟩
    · rw [q] at hf; cases hf
    refine ⟨(_, some i, fun a cls d => tRet (tXf a cls d Ca f (tVar i))) :: m, .nam hx hN hi hl (fun a oe cls d pn hz hd => pss_one (ps_ret (pe_xf xf (hno f hf) hz hd (pe_var hi (.inl hl) h1 h2) (base_plain _ _ _)))) hm, fun Wo D k fs ρ h O H σ cls dd rh re xr p => ?_⟩
    obtain ⟨C1, c1, rfl, hx2⟩ := id xr
    obtain ⟨Cx, g1, g2, g3⟩ := ex hG c1
    refine ⟨takes G k kx.name, by rw [g1]; exact g3, fun ht a na => ?_, fun ht => ?_⟩
    · simp only [List.find?_cons, ht, hdl] at p
      have ek := takes_last hlast ht
      subst ek
      rw [xa.cm] at c1; cases c1
      split at p
      case isFalse => exact p.elim
      rename_i hlt
      rw [← re.len] at hlt
      cases el : fs.lookup f with
      | none => rw [el] at p; exact p.elim
      | some d =>
        rw [el] at p
        rcases hx2 with ⟨e1, _⟩ | ⟨dx, fvs, e1, e2, fz, rf⟩
        · rw [e1] at el; cases el
        · obtain ⟨v, ev, rv⟩ := rf.look el
          exact ⟨.ref a, by show (σ.set i (some (V.ref a)))[i]? = _; rw [List.getElem?_set_self hlt], rfl, rfl, dx, fvs, v, e1, e2, ev, p v H O (StP.refl _ _ _) rh rv⟩
    · simp only [List.find?_cons, ht] at p
      exact hw Wo D k fs ρ h O H σ _ dd rh re xr p
  | @fld2 x n f f2 i kk p1 p2 p3 p4 p5 p6 p7 p8 kx hs l hx hG hlast hf hf2 hN hi hl h1 h2 r ih =>
    obtain ⟨m, hm, hw⟩ := ih
    obtain ⟨m1, n1⟩ := find_mem hG
    obtain ⟨Ca, xa⟩ := gs.xs.has kx m1
    subst n1
    rcases xa.made with ⟨q, _⟩ | ⟨_, _, ox, xf, hno, _⟩
    · rw [q] at hf; cases hf
    refine ⟨(_, some i, fun a cls d => tRet (tTup (tCons (tXf a cls d Ca f (tVar i)) (tCons (tXf a cls d Ca f2 (tVar i)) tNil)))) :: m, .nam hx hN hi hl (fun a oe cls d pn hz hd => pss_one (ps_ret (pe_tup (pa_cons (pe_xf xf (hno f hf) hz hd (pe_var hi (.inl hl) h1 h2) (base_plain _ _ _)) (pa_cons (pe_xf xf (hno f2 hf2) hz hd (pe_var hi (.inl hl) h1 h2) (base_plain _ _ _)) pa_nil))))) hm, fun Wo D k fs ρ h O H σ cls dd rh re xr p => ?_⟩
    obtain ⟨C1, c1, rfl, hx2⟩ := id xr
    obtain ⟨Cx, g1, g2, g3⟩ := ex hG c1
    refine ⟨takes G k kx.name, by rw [g1]; exact g3, fun ht a na => ?_, fun ht => ?_⟩
    · simp only [List.find?_cons, ht, hdl] at p
      have ek := takes_last hlast ht
      subst ek
      rw [xa.cm] at c1; cases c1
      split at p
      case isFalse => exact p.elim
      rename_i hlt
      rw [← re.len] at hlt
      simp only [fldsOf] at p
      cases el : fs.lookup f with
      | none => simp only [el] at p; exact p.elim
      | some d =>
        cases el2 : fs.lookup f2 with
        | none => simp only [el, el2] at p; exact p.elim
        | some d2 =>
          simp only [el, el2] at p
          rcases hx2 with ⟨e1, _⟩ | ⟨dx, fvs, e1, e2, fz, rf⟩
          · rw [e1] at el; cases el
          · obtain ⟨v, ev, rv⟩ := rf.look el
            obtain ⟨v2, ev2, rv2⟩ := rf.look el2
            have es : (σ.set i (some (V.ref a)))[i]? = some (some (V.ref a)) := List.getElem?_set_self hlt
            refine ⟨.ref a, es, rfl, rfl, dx, fvs, v, e1, e2, ev, .ref a, es, rfl, rfl, dx, fvs, v2, e1, e2, ev2, by show 2 ≤ sizeLine; decide, fun q nq => ?_⟩
            have st : Step O H O (upd H q (.tup [v, v2])) := Step.new_tup (xs := []) rh nq _
            exact p (.ref q) _ O (Pm.all (Pm.step (S := S) st)) (rh.upd_new nq _) (.tup (.inl ⟨.inl upd_same, rh.fresh nq⟩) (.cons (rv.step st) (.cons (rv2.step st) .nil)))
    · simp only [List.find?_cons, ht] at p
      exact hw Wo D k fs ρ h O H σ _ dd rh re xr p
theorem sj_try {body : List Stmt} {hd : ExceptHandler} {hds : List ExceptHandler} {pos : Pos} {mb : MSs} {l : List (Str × Hd)} (gs : Gs CM G X) (tk : Takes X W) (hj : HJ X CM G (hd :: hds) l)
    (hb : ∀ (W' : WX) (pn : List (Addr × Obj)) (xe : Value → Shared → Prop), Takes (X.tr pn xe) W' → PassesOwn (model X.prog X.w) X.A X.env xe → SJs (X.tr pn xe) CM own W' S C G body mb) : SJ X CM own W S C G (.Try body (hd :: hds) [] [] pos) (.tryH mb l) := by
  obtain ⟨m, hm, hw⟩ := hj_ok (own := own) (S := S) gs hj
  refine TSt.imp (ps_tryH (tb := fun W' => tS X.K CM own W' S (exs C G mb)) gs.sk gs.fr tk hb hm) fun D σ H ⟨ρ, O, h, re, rh, p⟩ => ?_
  simp only [exc] at p
  refine ⟨ρ, O, h, re, rh, ?_⟩
  cases q : exs C G mb ρ h with
  | none => rw [q] at p; exact p
  | some r =>
    rw [q] at p
    cases r with
    | nx ρ' h' => exact p
    | rt d h' => exact p
    | bk ρ' h' => exact p
    | ct ρ' h' => exact p
    | ex k fs ρ' h' =>
      intro cls dd σ' H' O' st rh' re' xr
      exact hw W D k fs ρ' h' O' H' σ' cls dd rh' re' xr (EvS.on p st)
end
end Mi

set_option Elab.async false
set_option linter.all false
set_option maxRecDepth 100000
set_option maxHeartbeats 4000000
/-! Mi: from the program's tree to Mi's, expressions. -/
namespace Mi
open PySem PySem.Spec PyProof.Rows L2

/-! ### tests and values -/
theorem truthy_heap {d : D} {h : AH} {r : ER Bool} (e : truthy d h = some r) : ∃ k, r = .ok k h := by
  cases d with
  | str x =>
    simp only [truthy] at e
    split at e
    · cases e; exact ⟨_, rfl⟩
    · cases e
  | ref i =>
    simp only [truthy] at e
    split at e
    · cases e; exact ⟨_, rfl⟩
    · cases e
  | dct t ks vs => cases e
  | _ => cases e; exact ⟨_, rfl⟩
section
variable {C : Nat → List D → M D}
theorem tst_ev : ∀ (e : ME) (ρ : Env), tst C e ρ = M.bind (ev C e ρ) truthy
  | .and a b, ρ => by
    funext h
    simp only [tst, ev, tst_ev a ρ, tst_ev b ρ, M.bind_def]
    cases ev C a ρ h with
    | none => rfl
    | some r =>
      cases r with
      | exc c fs h' => rfl
      | ok x h1 =>
        simp only [M.bd_ok, M.bind_def]
        cases q : truthy x h1 with
        | none => rfl
        | some t =>
          obtain ⟨k, rfl⟩ := truthy_heap q
          simp only [M.bd_ok]
          cases k with
          | true => simp only [if_true, M.bind_def]
          | false => simp only [Bool.false_eq_true, if_false, M.ret_def, M.bd_ok, q]
  | .or a b, ρ => by
    funext h
    simp only [tst, ev, tst_ev a ρ, tst_ev b ρ, M.bind_def]
    cases ev C a ρ h with
    | none => rfl
    | some r =>
      cases r with
      | exc c fs h' => rfl
      | ok x h1 =>
        simp only [M.bd_ok, M.bind_def]
        cases q : truthy x h1 with
        | none => rfl
        | some t =>
          obtain ⟨k, rfl⟩ := truthy_heap q
          simp only [M.bd_ok]
          cases k with
          | false => simp only [Bool.false_eq_true, if_false, M.bind_def]
          | true => simp only [if_true, M.ret_def, M.bd_ok, q]
  | .not a, ρ => by
    funext h
    simp only [tst, ev, M.bind_def]
    cases tst C a ρ h with
    | none => rfl
    | some r => cases r <;> rfl
  | .cmp o a b, ρ => by
    funext h
    simp only [tst, ev, M.bind_def]
    cases ev C a ρ h with
    | none => rfl
    | some r =>
      cases r with
      | exc c fs h' => rfl
      | ok x h1 =>
        simp only [M.bd_ok, M.bind_def]
        cases ev C b ρ h1 with
        | none => rfl
        | some r =>
          cases r with
          | exc c fs h' => rfl
          | ok y h2 =>
            simp only [M.bd_ok]
            cases D.cop o x y <;> rfl
  | .chn o p a b c, ρ => by
    funext h
    simp only [tst, ev, M.bind_def]
    cases ev C a ρ h with
    | none => rfl
    | some r =>
      cases r with
      | exc c fs h' => rfl
      | ok x h1 =>
        simp only [M.bd_ok, M.bind_def]
        cases ev C b ρ h1 with
        | none => rfl
        | some r =>
          cases r with
          | exc c fs h' => rfl
          | ok y h2 =>
            simp only [M.bd_ok, M.bind_def]
            cases D.cop o x y with
            | none => rfl
            | some k =>
              simp only [M.lift_some, M.bd_ok]
              cases k with
              | false => rfl
              | true =>
                simp only [if_true, M.bind_def]
                cases ev C c ρ h2 with
                | none => rfl
                | some r =>
                  cases r with
                  | exc c fs h' => rfl
                  | ok z h3 =>
                    simp only [M.bd_ok]
                    cases D.cop p y z <;> rfl
  | .var i, ρ => by simp only [tst, ev]
  | .lit d, ρ => by simp only [tst]
  | .bin o a b, ρ => by simp only [tst]
  | .neg a, ρ => by simp only [tst]
  | .ife c a b, ρ => by simp only [tst]
  | .tup es, ρ => by simp only [tst]
  | .lst es, ρ => by simp only [tst]
  | .dnew t, ρ => by simp only [tst]
  | .isl a, ρ => by simp only [tst]
  | .ix a i, ρ => by simp only [tst]
  | .sl a lo hi, ρ => by simp only [tst]
  | .bi f es, ρ => by simp only [tst]
  | .call f es, ρ => by simp only [tst]
  | .isi a ts, ρ => by simp only [tst]
  | .comp elt tg it cs own, ρ => by simp only [tst]
  | .bits a, ρ => by simp only [tst]
  | .thaw a, ρ => by simp only [tst]
end

/-! ### forms of the tree -/
def noStar : Expr → Bool
  | .Starred _ _ => false
  | _ => true
def noSlice : Expr → Bool
  | .Slice _ _ _ _ => false
  | _ => true
def noSet : Expr → Bool
  | .Set _ _ _ => false
  | _ => true
def noCall : Expr → Bool
  | .Call _ _ _ _ => false
  | _ => true
def noComp : Expr → Bool
  | .ListComp _ _ _ _ => false
  | .SetComp _ _ _ _ => false
  | .DictComp _ _ _ _ _ => false
  | _ => true
theorem star_cons {e : Expr} (h : noStar e = true) (es : List Expr) (env : PySem.Env) : starEach (e :: es) env = (false, eval e env) :: starEach es env := by
  cases e <;> first | (cases h; done) | rfl
theorem star_nil (env : PySem.Env) : starEach [] env = [] := rfl
theorem star_back : ∀ {es : List Expr} (h : es.all noStar = true) (pos : Pos) (env : PySem.Env), (backTo pos (starEach es env)).any (·.1) = false
  | [], _, _, _ => rfl
  | e :: es, h, pos, env => by
    simp only [List.all_cons, Bool.and_eq_true] at h
    rw [star_cons h.1]
    show (false || (backTo pos (starEach es env)).any (·.1)) = false
    rw [star_back h.2, Bool.false_or]
theorem plain_ix {i : Expr} (h : noSlice i = true) : PlainIx i := by
  cases i <;> first | (cases h; done) | (intro o i; rfl)
theorem behind_no {b : Expr} (h : noSet b = true) (op : CmpOp) : behindInMarks op b = false := by
  cases b <;> first | (cases h; done) | rfl
theorem folded_no {e : Expr} (h : noSet e = true) (env : PySem.Env) (x : Value) : foldedSetIterable e env x = pure x := by
  cases e <;> first | (cases h; done) | rfl
theorem base_no {o : Expr} (h : noCall o = true) (at_ : Str) (env : PySem.Env) (wh : Sem Value) : attributeBase o at_ env wh = wh := by
  cases o <;> first | (cases h; done) | rfl
theorem swaps_no {e : Expr} (h : noComp e = true) (t : Option Expr) (l : Nat) (env : PySem.Env) : swapsWith e t l env = pure false := by
  cases e <;> first | (cases h; done) | rfl
theorem assign_sub {ix : Expr} (h : noSlice ix = true) (o : Expr) (spos : Pos) (env : PySem.Env) (v : Value) : assign (.Subscript o ix spos) env v = (do
      let ov ← holding [v] (eval o env)
      let iv ← holding [v, ov] (eval ix env)
      standAt spos
      holding [v, ov, iv] (setItem ov iv v)
      release [v, ov, iv] []) := by
  cases ix <;> first | (cases h; done) | rfl
/-- a test that is its value's truth -/
def plainT : Expr → Bool
  | .UnaryOp .Not _ _ => false
  | .BoolOp _ _ _ => false
  | .IfExp _ _ _ _ => false
  | .Compare _ _ _ _ => false
  | _ => true
theorem istrue_plain {e : Expr} (h : plainT e = true) (env : PySem.Env) (wh : Sem Value) : isTrue e env wh = (do let v ← wh; standAt e.pos; holding [v] (PySem.truthy v)) := by
  cases e with
  | UnaryOp op a pos => cases op <;> first | (cases h; done) | rfl
  | BoolOp _ _ _ => cases h
  | IfExp _ _ _ _ => cases h
  | Compare _ _ _ _ => cases h
  | _ => rfl

/-! ### the place -/
structure Wd where
  fns : List (Str × Nat)
  cts : List (Str × D)
  blt : List Str
  xcs : List XC := []
  deriving Inhabited
structure In where
  wd : Wd
  N : List Str
  sc : Scope
  own : List Nat
  frz : List Nat
  top : Bool
  heap : List Pos
  cel : List Str := []
  deriving Inhabited
def In.ow (I : In) : Nat → Bool := fun i => I.own.contains i
def In.S (I : In) : Nat → Bool := fun i => I.own.contains i && !I.frz.contains i
structure Gd (CM : Str → Option Addr) (C : Nat → List D → M D) (I : In) (W : WX) (X : Cx) : Prop where
  N : X.N = I.N
  nd : X.N.Nodup
  sc : X.env.scope = I.sc
  kind : I.sc.kind = .function
  calm : X.calm = true
  un : X.A.units + 65 < cLine
  tk : Takes X W
  top : I.top = true → ∀ x, X.fn x = true
  cel : ∀ x, I.cel.contains x = true → X.fn x = true
  fn : ∀ i x np, I.wd.fns[i]? = some (x, np) → ∃ (k : Nat) (f : Addr) (fd : FuncData) (ps : List Str), FnOk X.prog X.w X.K X.mg X.base (L2.CX X.prog X.w) k f fd ps (spF X.K CM (C i) np) ∧ Room k X.A ∧ X.mg x = some (.ref f) ∧ PySem.W.keepIn X.K (.ref f) = true ∧ Binds X.K fd ps [] ∧ ∀ ds h, C i ds h ≠ none → ds.length = np
  ct : ∀ x d, I.wd.cts.lookup x = some d → ∃ (v : V) (u : Value), X.mg x = some u ∧ RelV v u ∧ ∀ H O, Rp X.K H O v d
  bl : ∀ x, I.wd.blt.contains x = true → X.mg x = none

def ixOf : List Str → Str → Option Nat
  | [], _ => none
  | y :: ys, x => if y = x then some 0 else (ixOf ys x).map (· + 1)
theorem ixOf_get : ∀ {N : List Str} {x : Str} {i : Nat}, ixOf N x = some i → N[i]? = some x
  | [], _, _, h => by cases h
  | y :: ys, x, i, h => by
    unfold ixOf at h
    split at h
    · rename_i e; cases h; simp [e]
    · obtain ⟨j, e, rfl⟩ := Option.map_eq_some_iff.mp h
      simpa using ixOf_get e
def okN (x : Str) : Bool := !(x == ("__debug__" : Str)) && !(x == ("__classdict__" : Str)) && !(x == ("__name__" : Str))
theorem okN_d {x : Str} (h : okN x = true) : (x == ("__debug__" : Str)) = false := by unfold okN at h; simp only [Bool.and_eq_true, Bool.not_eq_true'] at h; exact h.1.1
theorem okN_c {x : Str} (h : okN x = true) : (x == ("__classdict__" : Str)) = false := by unfold okN at h; simp only [Bool.and_eq_true, Bool.not_eq_true'] at h; exact h.1.2
theorem okN_n {x : Str} (h : okN x = true) : x ≠ "__name__" := by unfold okN at h; simp only [Bool.and_eq_true, Bool.not_eq_true', beq_eq_false_iff_ne] at h; exact h.2
def isVis (sc : Scope) (x : Str) : Bool := match sc.names.lookup x with
  | some .local => true
  | some .cell => true
  | some .free => true
  | _ => false
def isLoc (I : In) (x : Str) : Bool := match I.sc.names.lookup x with
  | some .local => true
  | some .cell => I.top || I.cel.contains x
  | _ => false
def isGl (I : In) (x : Str) : Bool := okN x && decide (I.sc.names.lookup x = some .globalImplicit)
def cVar (I : In) (x : Str) : Option Nat := if isVis I.sc x && okN x then ixOf I.N x else none
def cLoc (I : In) (x : Str) : Option Nat := if isLoc I x && okN x then ixOf I.N x else none
section
variable {CM : Str → Option Addr} {C : Nat → List D → M D} {I : In} {W : WX} {X : Cx}
theorem cVar_ok (g : Gd CM C I W X) {x : Str} {i : Nat} (h : cVar I x = some i) : X.N[i]? = some x ∧ Vis X.env.scope x ∧ okN x = true := by
  unfold cVar at h
  split at h
  · rename_i hb
    simp only [Bool.and_eq_true] at hb
    refine ⟨by rw [g.N]; exact ixOf_get h, ?_, hb.2⟩
    rw [g.sc]
    have h1 := hb.1
    unfold isVis at h1
    split at h1
    · exact .inl (by assumption)
    · exact .inr (.inl (by assumption))
    · exact .inr (.inr (by assumption))
    · cases h1
  · cases h
theorem cLoc_ok (g : Gd CM C I W X) {x : Str} {i : Nat} (h : cLoc I x = some i) : X.N[i]? = some x ∧ Loc X.env.scope x ∧ (X.fn x = true ∨ X.env.scope.names.lookup x = some .local) ∧ okN x = true := by
  unfold cLoc at h
  split at h
  · rename_i hb
    simp only [Bool.and_eq_true] at hb
    have h1 := hb.1
    unfold isLoc at h1
    rw [g.sc]
    refine ⟨by rw [g.N]; exact ixOf_get h, ?_, ?_, hb.2⟩
    · split at h1
      · exact .inl (by assumption)
      · exact .inr (by assumption)
      · cases h1
    · split at h1
      · exact .inr (by assumption)
      · rw [Bool.or_eq_true] at h1
        rcases h1 with h1 | h1
        · exact .inl (g.top h1 x)
        · exact .inl (g.cel x h1)
      · cases h1
  · cases h
theorem isGl_ok (g : Gd CM C I W X) {x : Str} (h : isGl I x = true) : Gl X x ∧ okN x = true := by
  unfold isGl at h
  simp only [Bool.and_eq_true, decide_eq_true_eq] at h
  refine ⟨?_, h.1⟩
  show X.env.scope.names.lookup x = _
  rw [g.sc]; exact h.2
end
/-! a block within -/
def In.blk (I : In) (scope : Scope) : In := { I with sc := relS scope I.sc, top := false, frz := [], cel := (scope.names.filter fun y => scope.names.lookup y.1 == some .cell).map (·.1) }
theorem Gd.blk {CM : Str → Option Addr} {C : Nat → List D → M D} {I : In} {W : WX} {X : Cx} (g : Gd CM C I W X) {scope : Scope} (hk : scope.kind = .function) (s : Shared) (H : Hp) (C' : Addr) (cl : List (Str × Addr)) (fp : List Addr) :
    Gd CM C (I.blk scope) W0 (X.blk s H scope (compEnvC scope cl C' X.env) fp) :=
  ⟨g.N, g.nd, by show relabel scope X.env = relS scope I.sc; rw [← g.sc]; rfl, hk, g.calm, g.un, takes0, fun h => (nomatch h), fun x hx => by
    simp only [In.blk, List.contains_eq_mem, List.mem_map, List.mem_filter, decide_eq_true_eq] at hx
    obtain ⟨y, ⟨_, hy⟩, rfl⟩ := hx
    exact hy, g.fn, g.ct, g.bl⟩

/-! ### operators, built-in functions -/
def bopOf : Operator → Option BOp
  | .Add => some .add | .Sub => some .sub | .Mult => some .mul | .FloorDiv => some .fdiv | .Mod => some .mod | .Pow => some .pow
  | .BitAnd => some .band | .BitOr => some .bor | .BitXor => some .bxor | .LShift => some .shl | .RShift => some .shr
  | _ => none
theorem bop_ok {X : Cx} {op : Operator} {o : BOp} (h : bopOf op = some o) : OpD X (binaryOp op) (D.bop o) := by
  cases op <;> cases h
  · exact od_add
  · exact od_sub
  · exact od_mul
  · exact od_mod
  · exact od_pow
  · exact od_shl
  · exact od_shr
  · exact od_bor
  · exact od_bxor
  · exact od_band
  · exact od_fdiv
def copOf : CmpOp → COp
  | .Eq => .eq | .NotEq => .ne | .Lt => .lt | .LtE => .le | .Gt => .gt | .GtE => .ge | .Is => .is | .IsNot => .isnt | .In => .isin | .NotIn => .notin
theorem cop_ok {X : Cx} (hu : X.A.units + 65 < cLine) (op : CmpOp) : CpD X (compareOp op) (D.cop (copOf op)) := by
  cases op
  · exact cd_eq (by omega)
  · exact cd_ne (by omega)
  · exact cd_lt (by omega)
  · exact cd_le
  · exact cd_gt
  · exact cd_ge
  · exact cd_is
  · exact cd_isnt
  · exact cd_isin hu
  · exact cd_notin hu
def biTable : List (Str × Nat × Bi) := [("len", 1, .len), ("abs", 1, .abs), ("max", 2, .max2), ("min", 2, .min2), ("max", 1, .max), ("min", 1, .min), ("sum", 1, .sum), ("any", 1, .any), ("all", 1, .all), ("int", 1, .int), ("bool", 1, .bool), ("tuple", 1, .tuple), ("list", 1, .list), ("repr", 1, .repr), ("dict", 1, .dictK)]
def biTab (x : Str) (n : Nat) : Option Bi := (biTable.find? fun p => p.1 == x && p.2.1 == n).map fun p => p.2.2
theorem biTab_ok {x : Str} {n : Nat} {f : Bi} (h : biTab x n = some f) {X : Cx} (hc : X.calm = true) : (∃ id : String, bootBuiltins x = some (.builtin id) ∧ BiD X (.builtin id) (biOf f)) ∨ ∃ T : String, bootBuiltins x = some (.type T) ∧ BiD X (.type T) (biOf f) := by
  unfold biTab at h
  obtain ⟨⟨y, m, g⟩, e, e2⟩ := Option.map_eq_some_iff.mp h
  have hx := List.find?_some e
  have hm := List.mem_of_find?_eq_some e
  simp only [Bool.and_eq_true, beq_iff_eq] at hx
  obtain ⟨rfl, rfl⟩ := hx
  cases e2
  clear h e
  simp only [biTable, List.mem_cons, Prod.mk.injEq, List.not_mem_nil, or_false] at hm
  rcases hm with ⟨rfl, _, rfl⟩ | ⟨rfl, _, rfl⟩ | ⟨rfl, _, rfl⟩ | ⟨rfl, _, rfl⟩ | ⟨rfl, _, rfl⟩ | ⟨rfl, _, rfl⟩ | ⟨rfl, _, rfl⟩ | ⟨rfl, _, rfl⟩ | ⟨rfl, _, rfl⟩ | ⟨rfl, _, rfl⟩ | ⟨rfl, _, rfl⟩ | ⟨rfl, _, rfl⟩ | ⟨rfl, _, rfl⟩ | ⟨rfl, _, rfl⟩ | ⟨rfl, _, rfl⟩
  · exact .inl ⟨_, by decide +kernel, bd_len⟩
  · exact .inl ⟨_, by decide +kernel, bd_abs⟩
  · exact .inl ⟨_, by decide +kernel, bd_max2 hc⟩
  · exact .inl ⟨_, by decide +kernel, bd_min2 hc⟩
  · exact .inl ⟨_, by decide +kernel, bd_max hc⟩
  · exact .inl ⟨_, by decide +kernel, bd_min hc⟩
  · exact .inl ⟨_, by decide +kernel, bd_sum hc⟩
  · exact .inl ⟨_, by decide +kernel, bd_any hc⟩
  · exact .inl ⟨_, by decide +kernel, bd_all hc⟩
  · exact .inr ⟨_, by decide +kernel, bd_int⟩
  · exact .inr ⟨_, by decide +kernel, bd_bool⟩
  · exact .inr ⟨_, by decide +kernel, bd_tuple⟩
  · exact .inr ⟨_, by decide +kernel, bd_list⟩
  · exact .inl ⟨_, by decide +kernel, bd_repr⟩
  · exact .inr ⟨_, by decide +kernel, bd_dictK hc⟩
def tyTab (x : Str) : Option Ty := if x = "int" then some .int else if x = "bool" then some .bool else if x = "str" then some .str else if x = "tuple" then some .tuple else if x = "list" then some .list else none
theorem tyTab_ok {x : Str} {t : Ty} (h : tyTab x = some t) : bootBuiltins x = some (.type t.s) := by
  unfold tyTab at h
  split at h; · rename_i e; cases h; rw [e]; decide +kernel
  split at h; · rename_i e; cases h; rw [e]; decide +kernel
  split at h; · rename_i e; cases h; rw [e]; decide +kernel
  split at h; · rename_i e; cases h; rw [e]; decide +kernel
  split at h; · rename_i e; cases h; rw [e]; decide +kernel
  cases h
/-- a built-in's name that nothing hides -/
def isBl (I : In) (x : Str) : Bool := isGl I x && I.wd.blt.contains x
def tysOf (I : In) : List Expr → Option (List Ty)
  | [] => some []
  | .Name x _ :: es => if isBl I x then (match tyTab x, tysOf I es with
    | some t, some ts => some (t :: ts)
    | _, _ => none) else none
  | _ => none
section
variable {CM : Str → Option Addr} {C : Nat → List D → M D} {I : In} {W : WX} {X : Cx}
theorem isBl_ok (g : Gd CM C I W X) {x : Str} (h : isBl I x = true) : Gl X x ∧ X.mg x = none ∧ okN x = true := by
  unfold isBl at h
  simp only [Bool.and_eq_true] at h
  obtain ⟨h1, h2⟩ := isGl_ok g h.1
  exact ⟨h1, g.bl x h.2, h2⟩
theorem tysOf_ok (g : Gd CM C I W X) : ∀ {es : List Expr} {ts : List Ty}, tysOf I es = some ts → TyNames X es ts ∧ es.length = ts.length
  | [], _, h => by cases h; exact ⟨.nil, rfl⟩
  | .Name x p :: es, ts, h => by
    simp only [tysOf] at h
    split at h
    · rename_i hb
      obtain ⟨h1, h2, h3⟩ := isBl_ok g hb
      split at h
      · rename_i t ts' e1 e2
        cases h
        obtain ⟨h4, h5⟩ := tysOf_ok g e2
        exact ⟨.cons h1 h2 (tyTab_ok e1) (okN_n h3) (okN_d h3) h4, by simp [h5]⟩
      · cases h
    · cases h
end
def cLit : Const → Option D
  | .none => some .non
  | .bool b => some (.bl b)
  | .int i => some (.int i)
  | .str x => some (.str x)
  | _ => none
theorem cLit_ok {c : Const} {d : D} (h : cLit c = some d) {X : Cx} {CM : Str → Option Addr} {own : Nat → Bool} {W : WX} {C : Nat → List D → M D} {k : Nat} {pos : Pos} : EJ X CM own W C (.Constant c k pos) (.lit d) := by
  cases c <;> cases h
  · exact ej_lit (v := .non) pe_non fun _ _ => .non
  · exact ej_lit (v := .bl _) pe_bl fun _ _ => .bl _
  · exact ej_lit (v := .int _) pe_int fun _ _ => .int _
  · exact ej_lit (v := .str _) pe_str fun _ _ => .str _
def fnIx : List (Str × Nat) → Str → Option (Nat × Nat)
  | [], _ => none
  | (y, np) :: r, x => if y = x then some (0, np) else (fnIx r x).map fun p => (p.1 + 1, p.2)
theorem fnIx_ok : ∀ {l : List (Str × Nat)} {x : Str} {i np : Nat}, fnIx l x = some (i, np) → l[i]? = some (x, np)
  | [], _, _, _, h => by cases h
  | (y, m) :: r, x, i, np, h => by
    unfold fnIx at h
    split at h
    · rename_i e; cases h; simp [e]
    · obtain ⟨⟨j, m'⟩, e, e2⟩ := Option.map_eq_some_iff.mp h
      cases e2
      simpa using fnIx_ok e
def cTgs (I : In) : List Expr → Option (List Nat)
  | [] => some []
  | .Name x _ :: es => match cLoc I x, cTgs I es with
    | some i, some is => if I.ow i then none else some (i :: is)
    | _, _ => none
  | _ => none
def cTg (I : In) : Expr → Option Tg
  | .Name x _ => match cLoc I x with
    | some i => if I.ow i then none else some (.name i)
    | none => none
  | .Tuple es _ _ => (cTgs I es).map .tup
  | _ => none
section
variable {CM : Str → Option Addr} {C : Nat → List D → M D} {I : In} {W : WX} {X : Cx}
theorem cTgs_ok (g : Gd CM C I W X) : ∀ {es : List Expr} {is : List Nat}, cTgs I es = some is → GJs X I.ow es is ∧ es.length = is.length ∧ (assignEach es X.env).length = is.length ∧ (assignEach es X.env).findIdx? (·.1) = none
  | [], is, h => by cases h; exact ⟨gjs_nil, rfl, rfl, rfl⟩
  | .Name x p :: es, is, h => by
    simp only [cTgs] at h
    split at h
    · rename_i i is' e1 e2
      split at h
      · cases h
      · rename_i ho
        cases h
        obtain ⟨h1, h2, h3, _⟩ := cLoc_ok g e1
        obtain ⟨q1, q2, q3, q4⟩ := cTgs_ok g e2
        refine ⟨gjs_cons g.nd h1 h2 h3 (by simpa using ho) q1 rfl, by simp [q2], ?_, ?_⟩
        · show (assignEach es X.env).length + 1 = _
          simp [q3]
        · show List.findIdx? (·.1) ((false, assign (.Name x p) X.env) :: assignEach es X.env) = none
          rw [List.findIdx?_cons]
          simp [q4]
    · cases h
theorem cTg_ok (g : Gd CM C I W X) {e : Expr} {t : Tg} (h : cTg I e = some t) : GJ X I.ow e t := by
  cases e with
  | Name x p =>
    simp only [cTg] at h
    split at h
    · rename_i i e1
      split at h
      · cases h
      · rename_i ho
        cases h
        obtain ⟨h1, h2, h3, _⟩ := cLoc_ok g e1
        exact gj_name g.nd h1 h2 h3 (by simpa using ho)
    · cases h
  | Tuple es k p =>
    simp only [cTg] at h
    obtain ⟨is, e1, rfl⟩ := Option.map_eq_some_iff.mp h
    obtain ⟨q1, q2, q3, q4⟩ := cTgs_ok g e1
    exact gj_tup g.calm q1 q2 q3 q4
  | _ => cases h
end
/-- the block's own names -/
def ownOf (N : List Str) : List (Str × NameKind) → List (Str × Nat)
  | [] => []
  | (x, k) :: r => match k, ixOf N x with
    | .local, some i => (x, i) :: ownOf N r
    | .cell, some i => (x, i) :: ownOf N r
    | _, _ => ownOf N r
end Mi

set_option Elab.async false
set_option linter.all false
set_option maxRecDepth 100000
set_option maxHeartbeats 4000000
/-! Mi: from the program's tree to Mi's, expressions: the translation and its soundness. -/
namespace Mi
open PySem PySem.Spec PyProof.Rows L2
def callOf : Expr → Option (Str × List Expr)
  | .Call (.Name x _) es [] _ => some (x, es)
  | _ => none
theorem callOf_eq {e : Expr} {x : Str} {es : List Expr} (h : callOf e = some (x, es)) : ∃ p pos, e = .Call (.Name x p) es [] pos := by
  unfold callOf at h
  split at h
  · cases h; exact ⟨_, _, rfl⟩
  · cases h
def isTup : Expr → Bool
  | .Tuple _ _ _ => true
  | _ => false
theorem isTup_eq {e : Expr} (h : isTup e = true) : ∃ es k p, e = .Tuple es k p := by
  unfold isTup at h
  split at h
  · exact ⟨_, _, _, rfl⟩
  · cases h
def allowed (fz : Option (List Nat)) (i : Nat) : Bool := match fz with
  | none => true
  | some l => l.contains i
/-- a name's slot -/
def nameOf (I : In) : Expr → Option Nat
  | .Name x _ => cVar I x
  | _ => none
theorem nameOf_eq {I : In} {e : Expr} {i : Nat} (h : nameOf I e = some i) : ∃ x p, e = .Name x p ∧ cVar I x = some i := by
  unfold nameOf at h
  split at h
  · exact ⟨_, _, rfl, h⟩
  · cases h
def glob (I : In) (x : Str) : Option D := if isGl I x then I.wd.cts.lookup x else none
/-- isinstance's second argument -/
def isTys (I : In) : Expr → Option (List Ty)
  | .Name x p => tysOf I [.Name x p]
  | .Tuple es _ _ => match tysOf I es with
    | some (t :: ts) => if ts.length < 1000 then some (t :: ts) else none
    | _ => none
  | _ => none

mutual
def cE : Nat → In → Expr → Option ME
  | 0, _, _ => none
  | n + 1, I, e => if I.heap.contains e.pos then (cF n I e).map .thaw else cV n I e
def cV : Nat → In → Expr → Option ME
  | 0, _, _ => none
  | n + 1, I, e => match e with
    | .Name x _ => match cVar I x with
      | some i => if I.ow i then none else some (.var i)
      | none => (glob I x).map .lit
    | .Constant c _ _ => (cLit c).map .lit
    | .BinOp a op b _ => match bopOf op, cB n I a, cB n I b with
      | some o, some ma, some mb => some (.bin o ma mb)
      | _, _, _ => none
    | .UnaryOp op a _ => match op with
      | .USub => (cE n I a).map .neg
      | .Not => (cB n I a).map .not
      | _ => none
    | .BoolOp op vs _ => cBo n I op vs
    | .Compare a ops cs _ => match ops, cs with
      | [op], [b] => match noSet b, cB n I a, cB n I b with
        | true, some ma, some mb => some (.cmp (copOf op) ma mb)
        | _, _, _ => none
      | [op, op'], [b, c] => match noSet b && noSet c, cB n I a, cB n I b, cB n I c with
        | true, some ma, some mb, some mc => some (.chn (copOf op) (copOf op') ma mb mc)
        | _, _, _, _ => none
      | _, _ => none
    | .IfExp c a b _ => match cT n I c, cE n I a, cE n I b with
      | some mc, some ma, some mb => some (.ife mc ma mb)
      | _, _, _ => none
    | .Tuple es _ _ => (cEs n I es).map .tup
    | .List es _ => (cEs n I es).map .lst
    | .Subscript a i _ => match i with
      | .Slice lo hi none _ => match cB n I a, cSl n I lo, cSl n I hi with
        | some ma, some ml, some mh => some (.sl ma ml mh)
        | _, _, _ => none
      | i => match noSlice i, cB n I a, cB n I i with
        | true, some ma, some mi => some (.ix ma mi)
        | _, _, _ => none
    | .Call f es ks pos => match ks with
      | [] => cC n I f es pos
      | _ => none
    | .ListComp elt gs scope _ => (cL n I elt gs scope).map fun p => .comp p.2.2.2.2 p.2.1 p.2.2.1 p.2.2.2.1 (p.1.map (·.2))
    | _ => none
def cC : Nat → In → Expr → List Expr → Pos → Option ME
  | 0, _, _, _, _ => none
  | n + 1, I, f, es, pos => match f with
    | .Name x _ => if x = "isinstance" then (match es with
        | [e, t] => match noStar e && isBl I x, cB n I e, isTys I t with
          | true, some me, some ts => some (.isi me ts)
          | _, _, _ => none
        | _ => none)
      else (match es with
        | [] => none
        | e :: es => match fnIx I.wd.fns x with
          | some (i, _) => if isGl I x then (cEs n I (e :: es)).map (.call i) else none
          | none => match isBl I x, biTab x (e :: es).length, cBs n I (e :: es) with
            | true, some f, some ms => some (.bi f ms)
            | _, _, _ => none)
    | .Attribute o a ap => if a = "bit_length" then (match es with
        | [] => if (ap.endLine == pos.line) && noCall o then (cE n I o).map .bits else none
        | _ => none) else none
    | _ => none
def cL : Nat → In → Expr → List Comprehension → Scope → Option (List (Str × Nat) × Tg × MI × MEs × ME)
  | 0, _, _, _, _ => none
  | n + 1, I, elt, gs, scope => match gs with
    | [⟨tg, iter, ifs, as⟩] => match cI n I none tg iter, cTg (I.blk scope) tg, cTt n (I.blk scope) ifs, cE n (I.blk scope) elt with
      | some mi, some t, some cs, some me => if as = 0 ∧ blkC I.N I.sc scope (ownOf I.N scope.names) = true ∧ scope.kind = .function ∧ noSet iter = true ∧ (t.slots.all fun j => ((ownOf I.N scope.names).map (·.2)).contains j) = true
        then some (ownOf I.N scope.names, t, mi, cs, me) else none
      | _, _, _, _ => none
    | _ => none
def cB : Nat → In → Expr → Option ME
  | 0, _, _ => none
  | n + 1, I, e => match nameOf I e with
    | some i => some (.var i)
    | none => cE n I e
def cT : Nat → In → Expr → Option ME
  | 0, _, _ => none
  | n + 1, I, e => match e with
    | .UnaryOp .Not a _ => (cT n I a).map .not
    | .BoolOp op vs _ => cW n I op vs
    | .Compare a ops cs _ => match ops, cs with
      | [op], [b] => match noSet b, cB n I a, cB n I b with
        | true, some ma, some mb => some (.cmp (copOf op) ma mb)
        | _, _, _ => none
      | [op, op'], [b, c] => match noSet b && noSet c, cB n I a, cB n I b, cB n I c with
        | true, some ma, some mb, some mc => some (.chn (copOf op) (copOf op') ma mb mc)
        | _, _, _, _ => none
      | _, _ => none
    | e => if plainT e then cB n I e else none
def cW : Nat → In → BoolOp → List Expr → Option ME
  | 0, _, _, _ => none
  | n + 1, I, op, vs => match vs with
    | [] => none
    | [a] => cT n I a
    | a :: b :: r => match cT n I a, cW n I op (b :: r) with
      | some ma, some mb => some (match op with
        | .And => .and ma mb
        | .Or => .or ma mb)
      | _, _ => none
def cBo : Nat → In → BoolOp → List Expr → Option ME
  | 0, _, _, _ => none
  | n + 1, I, op, vs => match vs with
    | [] => none
    | [a] => cE n I a
    | a :: b :: r => match cE n I a, cBo n I op (b :: r) with
      | some ma, some mb => some (match op with
        | .And => .and ma mb
        | .Or => .or ma mb)
      | _, _ => none
def cEs : Nat → In → List Expr → Option MEs
  | 0, _, _ => none
  | n + 1, I, es => match es with
    | [] => some .nil
    | e :: es => match noStar e, cE n I e, cEs n I es with
      | true, some m, some ms => some (.cons m ms)
      | _, _, _ => none
def cBs : Nat → In → List Expr → Option MEs
  | 0, _, _ => none
  | n + 1, I, es => match es with
    | [] => some .nil
    | e :: es => match noStar e, cB n I e, cBs n I es with
      | true, some m, some ms => some (.cons m ms)
      | _, _, _ => none
def cTt : Nat → In → List Expr → Option MEs
  | 0, _, _ => none
  | n + 1, I, es => match es with
    | [] => some .nil
    | [e] => (cT n I e).map fun m => .cons m .nil
    | _ => none
def cSl : Nat → In → Option Expr → Option MEs
  | 0, _, _ => none
  | n + 1, I, o => match o with
    | none => some .nil
    | some e => (cE n I e).map fun m => .cons m .nil
def cF : Nat → In → Expr → Option ME
  | 0, _, _ => none
  | n + 1, I, e => match e with
    | .List es _ => (cEs n I es).map .lst
    | .ListComp elt gs scope _ => (cL n I elt gs scope).map fun p => .comp p.2.2.2.2 p.2.1 p.2.2.1 p.2.2.2.1 (p.1.map (·.2))
    | .Call f es ks pos => match callOf (.Call f es ks pos) with
      | some (x, [e]) => match decide (x = "list") && isBl I x && noStar e, cB n I e with
        | true, some m => some (.bi .list (.cons m .nil))
        | _, _ => none
      | _ => none
    | .BinOp a op b _ => (match op, cB n I a, cB n I b with
      | .Add, some ma, some mb => some (.isl (.bin .add ma mb))
      | .Mult, some ma, some mb => some (.isl (.bin .mul ma mb))
      | _, _, _ => none)
    | _ => none
def cEI : Nat → In → Option (List Nat) → Expr → Option ME
  | 0, _, _, _ => none
  | n + 1, I, fz, e => match nameOf I e with
    | some i => if I.ow i && !allowed fz i then none else some (.var i)
    | none => cE n I e
def cI : Nat → In → Option (List Nat) → Expr → Expr → Option MI
  | 0, _, _, _, _ => none
  | n + 1, I, fz, tg, it => match callOf it with
    | some (x, es) => if isBl I x then
        (if x = "range" then (match es with
          | [a] => match noStar a, cE n I a with
            | true, some m => some (.rng1 m)
            | _, _ => none
          | [a, b] => match noStar a && noStar b, cE n I a, cE n I b with
            | true, some m, some m2 => some (.rng2 m m2)
            | _, _, _ => none
          | _ => none)
        else if x = "zip" then (match es with
          | [a, b] => match noStar a && noStar b && isTup tg, cEI n I fz a, cEI n I fz b with
            | true, some m, some m2 => some (.zip m m2)
            | _, _, _ => none
          | _ => none)
        else if x = "enumerate" then (match es with
          | [a] => match noStar a && isTup tg, cEI n I fz a with
            | true, some m => some (.enum m)
            | _, _ => none
          | _ => none)
        else if x = "reversed" then (match es with
          | [a] => match noStar a, cEI n I fz a with
            | true, some m => some (.rev m)
            | _, _ => none
          | _ => none)
        else (cEI n I fz it).map .seq)
      else (cEI n I fz it).map .seq
    | none => (cEI n I fz it).map .seq
end

/-! ### soundness -/
structure Snd (n : Nat) : Prop where
  e : ∀ {I e m CM C W X}, cE n I e = some m → Gd CM C I W X → EJ X CM I.ow W C e m
  v : ∀ {I e m CM C W X}, cV n I e = some m → Gd CM C I W X → EJ X CM I.ow W C e m
  c : ∀ {I f es pos m CM C W X}, cC n I f es pos = some m → Gd CM C I W X → EJ X CM I.ow W C (.Call f es [] pos) m
  l : ∀ {I elt gs scope p CM C W X}, cL n I elt gs scope = some p → Gd CM C I W X → ∃ tg iter ifs, gs = [⟨tg, iter, ifs, 0⟩] ∧ CompOk X CM I.ow W C elt tg iter ifs scope p.1 p.2.1 p.2.2.1 p.2.2.2.1 p.2.2.2.2
  b : ∀ {I e m CM C W X}, cB n I e = some m → Gd CM C I W X → EB X CM I.ow W C e m
  t : ∀ {I e m CM C W X}, cT n I e = some m → Gd CM C I W X → ET X CM I.ow W C e m
  w : ∀ {I op vs m CM C W X}, cW n I op vs = some m → Gd CM C I W X → ∀ pos, EW X CM I.ow W C (.BoolOp op vs pos) m
  bo : ∀ {I op vs m CM C W X}, cBo n I op vs = some m → Gd CM C I W X → ∀ pos, EJ X CM I.ow W C (.BoolOp op vs pos) m
  es : ∀ {I es m CM C W X}, cEs n I es = some m → Gd CM C I W X → EJs X CM I.ow W C es m ∧ es.all noStar = true
  bs : ∀ {I es m CM C W X}, cBs n I es = some m → Gd CM C I W X → EBs X CM I.ow W C es m ∧ es.all noStar = true
  tt : ∀ {I es m CM C W X}, cTt n I es = some m → Gd CM C I W X → TJ X CM I.ow W C es m
  o : ∀ {I o m CM C W X}, cSl n I o = some m → Gd CM C I W X → EO X CM I.ow W C o m
  f : ∀ {I e m CM C W X}, cF n I e = some m → Gd CM C I W X → EF X CM I.ow W C e m
  ei : ∀ {I fz e m CM C W X}, cEI n I fz e = some m → Gd CM C I W X → ∀ {P : Ow → Bool}, (∀ i, I.ow i = true → allowed fz i = true → P (.slot i) = false) → EI P X CM I.ow W C e m
  i : ∀ {I fz tg e m CM C W X}, cI n I fz tg e = some m → Gd CM C I W X → ∀ {P : Ow → Bool}, (∀ i, I.ow i = true → allowed fz i = true → P (.slot i) = false) → II P X CM I.ow W C tg e m

section
variable {n : Nat} {I : In} {e : Expr} {es : List Expr} {m : ME} {ms : MEs} {CM : Str → Option Addr} {C : Nat → List D → M D} {W : WX} {X : Cx}
theorem cE_ok (ih : Snd n) (h : cE (n + 1) I e = some m) (g : Gd CM C I W X) : EJ X CM I.ow W C e m := by
  simp only [cE] at h
  split at h
  · obtain ⟨m', h1, rfl⟩ := Option.map_eq_some_iff.mp h
    exact ej_thaw (ih.f h1 g)
  · exact ih.v h g
theorem cB_ok (ih : Snd n) (h : cB (n + 1) I e = some m) (g : Gd CM C I W X) : EB X CM I.ow W C e m := by
  simp only [cB] at h
  split at h
  · rename_i i h1
    cases h
    obtain ⟨x, p, rfl, h2⟩ := nameOf_eq h1
    obtain ⟨q1, q2, q3⟩ := cVar_ok g h2
    exact eb_var q1 q2 (okN_d q3) (okN_c q3)
  · exact (ih.e h g).b
theorem cEI_ok {fz : Option (List Nat)} (ih : Snd n) (h : cEI (n + 1) I fz e = some m) (g : Gd CM C I W X) {P : Ow → Bool} (hP : ∀ i, I.ow i = true → allowed fz i = true → P (.slot i) = false) : EI P X CM I.ow W C e m := by
  simp only [cEI] at h
  split at h
  · rename_i i h1
    split at h
    · cases h
    · rename_i hn
      cases h
      obtain ⟨x, p, rfl, h2⟩ := nameOf_eq h1
      obtain ⟨q1, q2, q3⟩ := cVar_ok g h2
      refine ei_var q1 q2 (fun ho => hP i ho ?_) (okN_d q3) (okN_c q3)
      rw [ho] at hn
      simpa using hn
  · exact (ih.e h g).i
theorem cEs_ok (ih : Snd n) (h : cEs (n + 1) I es = some ms) (g : Gd CM C I W X) : EJs X CM I.ow W C es ms ∧ es.all noStar = true := by
  simp only [cEs] at h
  split at h
  · cases h; exact ⟨ejs_nil, rfl⟩
  · split at h
    · rename_i h1 h2 h3
      cases h
      obtain ⟨q1, q2⟩ := ih.es h3 g
      exact ⟨ejs_cons (ih.e h2 g) q1 (star_cons h1 _ _), by rw [List.all_cons, h1, q2]; rfl⟩
    · cases h
theorem cBs_ok (ih : Snd n) (h : cBs (n + 1) I es = some ms) (g : Gd CM C I W X) : EBs X CM I.ow W C es ms ∧ es.all noStar = true := by
  simp only [cBs] at h
  split at h
  · cases h; exact ⟨ebs_nil, rfl⟩
  · split at h
    · rename_i h1 h2 h3
      cases h
      obtain ⟨q1, q2⟩ := ih.bs h3 g
      exact ⟨ebs_cons (ih.b h2 g) q1 (star_cons h1 _ _), by rw [List.all_cons, h1, q2]; rfl⟩
    · cases h
theorem cTt_ok (ih : Snd n) (h : cTt (n + 1) I es = some ms) (g : Gd CM C I W X) : TJ X CM I.ow W C es ms := by
  simp only [cTt] at h
  split at h
  · cases h; exact tj_nil
  · obtain ⟨m', h1, rfl⟩ := Option.map_eq_some_iff.mp h
    exact tj_one (ih.t h1 g)
  · cases h
theorem cSl_ok {o : Option Expr} (ih : Snd n) (h : cSl (n + 1) I o = some ms) (g : Gd CM C I W X) : EO X CM I.ow W C o ms := by
  simp only [cSl] at h
  split at h
  · cases h; exact eo_none
  · obtain ⟨m', h1, rfl⟩ := Option.map_eq_some_iff.mp h
    exact eo_some (ih.e h1 g)
theorem cBo_ok {op : BoolOp} (ih : Snd n) (h : cBo (n + 1) I op es = some m) (g : Gd CM C I W X) (pos : Pos) : EJ X CM I.ow W C (.BoolOp op es pos) m := by
  simp only [cBo] at h
  split at h
  · cases h
  · exact ej_one (ih.e h g)
  · split at h
    · rename_i h1 h2
      cases h
      cases op
      · exact ej_and (ih.e h1 g) (ih.bo h2 g pos)
      · exact ej_or (ih.e h1 g) (ih.bo h2 g pos)
    · cases h
theorem cW_ok {op : BoolOp} (ih : Snd n) (h : cW (n + 1) I op es = some m) (g : Gd CM C I W X) (pos : Pos) : EW X CM I.ow W C (.BoolOp op es pos) m := by
  simp only [cW] at h
  split at h
  · cases h
  · cases op
    · exact ew_and1 (ih.t h g)
    · exact ew_or1 (ih.t h g)
  · split at h
    · rename_i h1 h2
      cases h
      cases op
      · exact ew_and (ih.t h1 g) (ih.w h2 g pos)
      · exact ew_or (ih.t h1 g) (ih.w h2 g pos)
    · cases h
theorem marks2 {op op' : CmpOp} {b c : Expr} (hc : noSet c = true) : lastMarks [op, op'] [b, c] = false := by
  show lastMarks [op'] [c] = false
  exact behind_no hc op'
theorem cT_ok (ih : Snd n) (h : cT (n + 1) I e = some m) (g : Gd CM C I W X) : ET X CM I.ow W C e m := by
  simp only [cT] at h
  split at h
  · obtain ⟨m', h1, rfl⟩ := Option.map_eq_some_iff.mp h
    exact et_not (ih.t h1 g)
  · exact (ih.w h g _).pt
  · split at h
    · split at h
      · rename_i h1 h2 h3
        cases h
        exact et_cmp (cop_ok g.un _) (ih.b h2 g) (ih.b h3 g) (behind_no h1 _)
      · cases h
    · split at h
      · rename_i h1 h2 h3 h4
        cases h
        simp only [Bool.and_eq_true] at h1
        exact et_chn (cop_ok g.un _) (cop_ok g.un _) (ih.b h2 g) (ih.b h3 g) (ih.b h4 g) (marks2 h1.2)
      · cases h
    · cases h
  · split at h
    · rename_i hp
      exact et_val (ih.b h g) (istrue_plain hp _) fun ρ => tst_ev _ _
    · cases h
theorem cL_ok {elt : Expr} {gs : List Comprehension} {scope : Scope} {p} (ih : Snd n) (h : cL (n + 1) I elt gs scope = some p) (g : Gd CM C I W X) : ∃ tg iter ifs, gs = [⟨tg, iter, ifs, 0⟩] ∧ CompOk X CM I.ow W C elt tg iter ifs scope p.1 p.2.1 p.2.2.1 p.2.2.2.1 p.2.2.2.2 := by
  simp only [cL] at h
  split at h
  · rename_i tg iter ifs as
    split at h
    · rename_i mi t cs me h1 h2 h3 h4
      split at h
      · rename_i hc
        obtain ⟨rfl, hb, hk, hs, hsl⟩ := hc
        cases h
        refine ⟨tg, iter, ifs, rfl, ih.i h1 g (fun _ _ _ => rfl), ?_, fun s H C' cl fp => cTg_ok (g.blk hk s H C' cl fp) h2, fun s H C' cl fp => ih.tt (I := I.blk scope) h3 (g.blk hk s H C' cl fp), fun s H C' cl fp => ih.e (I := I.blk scope) h4 (g.blk hk s H C' cl fp), folded_no hs _, fun j hj => ?_⟩
        · rw [g.N, g.sc]; exact blkOk_by hb
        · have := List.all_eq_true.mp hsl j hj
          simpa using this
      · cases h
    · cases h
  · cases h
theorem cF_ok (ih : Snd n) (h : cF (n + 1) I e = some m) (g : Gd CM C I W X) : EF X CM I.ow W C e m := by
  cases e with
  | List es p =>
    simp only [cF] at h
    obtain ⟨m', h1, rfl⟩ := Option.map_eq_some_iff.mp h
    exact ef_lst (ih.es h1 g).1
  | ListComp elt gs scope p =>
    simp only [cF] at h
    obtain ⟨m', h1, rfl⟩ := Option.map_eq_some_iff.mp h
    obtain ⟨tg, iter, ifs, rfl, q⟩ := ih.l h1 g
    exact ef_comp g.calm g.nd q
  | Call f es ks pos =>
    simp only [cF] at h
    split at h
    · rename_i x a h1
      split at h
      · rename_i mm h2 h3
        cases h
        simp only [Bool.and_eq_true, decide_eq_true_eq] at h2
        obtain ⟨⟨rfl, hb⟩, hs⟩ := h2
        obtain ⟨p, pos', e1⟩ := callOf_eq h1
        rw [e1]
        obtain ⟨q1, q2, q3⟩ := isBl_ok g hb
        exact ef_bi fd_list q1 q2 (by decide +kernel) (ebs_cons (ih.b h3 g) ebs_nil (star_cons hs _ _)) (okN_n q3) (okN_d q3) (star_cons hs _ _) rfl
      · cases h
    · cases h
  | BinOp a op b p =>
    simp only [cF] at h
    split at h
    · rename_i ma mb h1 h2
      cases h
      exact ef_op of_add (ih.b h1 g) (ih.b h2 g)
    · rename_i ma mb h1 h2
      cases h
      exact ef_op of_mul (ih.b h1 g) (ih.b h2 g)
    · cases h
  | _ => simp only [cF] at h; cases h
theorem cC_ok {f : Expr} {pos : Pos} (ih : Snd n) (h : cC (n + 1) I f es pos = some m) (g : Gd CM C I W X) : EJ X CM I.ow W C (.Call f es [] pos) m := by
  simp only [cC] at h
  split at h
  · rename_i x p
    split at h
    · rename_i hx
      subst hx
      split at h
      · rename_i e t
        split at h
        · rename_i me ts h1 h2 h3
          cases h
          simp only [Bool.and_eq_true] at h1
          obtain ⟨q1, q2, q3⟩ := isBl_ok g h1.2
          unfold isTys at h3
          split at h3
          · rename_i y p2
            obtain ⟨t1, t2⟩ := tysOf_ok g h3
            match ts, t1, t2 with
            | [t], t1, _ => exact ej_isi1 q1 q2 (ih.b h2 g) t1 (star_cons h1.1 _ _)
          · rename_i es' k p2
            split at h3
            · rename_i t ts' h4
              split at h3
              · rename_i hl
                cases h3
                refine ej_isiT q1 q2 (ih.b h2 g) (tysOf_ok g h4).1 (fun z => nomatch z) ?_ (star_cons h1.1 _ _)
                rw [List.length_cons, sizeLine_eq]
                omega
              · cases h3
            · cases h3
          · cases h3
        · cases h
      · cases h
    · split at h
      · cases h
      · rename_i e es
        split at h
        · rename_i i np h1
          split at h
          · rename_i hg
            obtain ⟨ms, h2, rfl⟩ := Option.map_eq_some_iff.mp h
            obtain ⟨q1, q2⟩ := isGl_ok g hg
            obtain ⟨k, f, fd, ps, F, r, hm, hk, hb, hl⟩ := g.fn i x np (fnIx_ok h1)
            obtain ⟨t1, t2⟩ := ih.es h2 g
            simp only [List.all_cons, Bool.and_eq_true] at t2
            exact ej_call F hl r q1 hm hk hb g.tk t1 (okN_d q2) (star_cons t2.1 _ _) (star_back t2.2 _ _)
          · cases h
        · split at h
          · rename_i f ms h1 h2 h3
            cases h
            obtain ⟨q1, q2, q3⟩ := isBl_ok g h1
            obtain ⟨t1, t2⟩ := ih.bs h3 g
            simp only [List.all_cons, Bool.and_eq_true] at t2
            rcases biTab_ok h2 g.calm with ⟨id, b1, b2⟩ | ⟨T, b1, b2⟩
            · exact ej_bi b2 q1 q2 b1 t1 (okN_n q3) (okN_d q3) (star_cons t2.1 _ _) (star_back t2.2 _ _)
            · exact ej_biT b2 q1 q2 b1 t1 (okN_n q3) (okN_d q3) (star_cons t2.1 _ _) (star_back t2.2 _ _)
          · cases h
  · rename_i o a ap
    split at h
    · rename_i ha
      subst ha
      split at h
      · split at h
        · rename_i hb
          simp only [Bool.and_eq_true] at hb
          obtain ⟨m', h1, rfl⟩ := Option.map_eq_some_iff.mp h
          exact ej_bits (ih.e h1 g) (base_no hb.2 _ _ _) hb.1
        · cases h
      · cases h
    · cases h
  · cases h
theorem cV_ok (ih : Snd n) (h : cV (n + 1) I e = some m) (g : Gd CM C I W X) : EJ X CM I.ow W C e m := by
  cases e with
  | Name x p =>
    simp only [cV] at h
    split at h
    · rename_i i h1
      split at h
      · cases h
      · rename_i ho
        cases h
        obtain ⟨q1, q2, q3⟩ := cVar_ok g h1
        exact ej_var q1 q2 (by simpa using ho) (okN_d q3) (okN_c q3)
    · obtain ⟨d, h1, rfl⟩ := Option.map_eq_some_iff.mp h
      unfold glob at h1
      split at h1
      · rename_i hg
        obtain ⟨q1, q2⟩ := isGl_ok g hg
        obtain ⟨v, u, hm, r, hr⟩ := g.ct x d h1
        exact ej_lit (pe_glob q1 hm r (okN_d q2)) hr
      · cases h1
  | Constant c k p =>
    simp only [cV] at h
    obtain ⟨d, h1, rfl⟩ := Option.map_eq_some_iff.mp h
    exact cLit_ok h1
  | BinOp a op b p =>
    simp only [cV] at h
    split at h
    · rename_i o ma mb h1 h2 h3
      cases h
      exact ej_bin (bop_ok h1) (ih.b h2 g) (ih.b h3 g)
    · cases h
  | UnaryOp op a p =>
    simp only [cV] at h
    split at h
    · obtain ⟨d, h1, rfl⟩ := Option.map_eq_some_iff.mp h
      exact ej_neg (ih.e h1 g)
    · obtain ⟨d, h1, rfl⟩ := Option.map_eq_some_iff.mp h
      exact ej_not (ih.b h1 g) fun ρ => tst_ev _ _
    · cases h
  | BoolOp op vs p =>
    simp only [cV] at h
    exact ih.bo h g p
  | Compare a ops cs p =>
    simp only [cV] at h
    split at h
    · split at h
      · rename_i h1 h2 h3
        cases h
        exact ej_cmp (cop_ok g.un _) (ih.b h2 g) (ih.b h3 g) (behind_no h1 _)
      · cases h
    · split at h
      · rename_i h1 h2 h3 h4
        cases h
        simp only [Bool.and_eq_true] at h1
        exact ej_chn (cop_ok g.un _) (cop_ok g.un _) (ih.b h2 g) (ih.b h3 g) (ih.b h4 g) (marks2 h1.2)
      · cases h
    · cases h
  | IfExp c a b p =>
    simp only [cV] at h
    split at h
    · rename_i h1 h2 h3
      cases h
      exact ej_ife (ih.t h1 g) (ih.e h2 g) (ih.e h3 g)
    · cases h
  | Tuple es k p =>
    simp only [cV] at h
    obtain ⟨ms, h1, rfl⟩ := Option.map_eq_some_iff.mp h
    exact ej_tup (ih.es h1 g).1
  | List es p =>
    simp only [cV] at h
    obtain ⟨ms, h1, rfl⟩ := Option.map_eq_some_iff.mp h
    exact ej_lst (ih.es h1 g).1
  | Subscript a i p =>
    simp only [cV] at h
    split at h
    · split at h
      · rename_i h1 h2 h3
        cases h
        exact ej_sl (ih.b h1 g) (ih.o h2 g) (ih.o h3 g)
      · cases h
    · split at h
      · rename_i h1 h2 h3
        cases h
        exact ej_ix (ih.b h2 g) (ih.b h3 g) (plain_ix h1)
      · cases h
  | Call f es ks p =>
    simp only [cV] at h
    split at h
    · exact ih.c h g
    · cases h
  | ListComp elt gs scope p =>
    simp only [cV] at h
    obtain ⟨m', h1, rfl⟩ := Option.map_eq_some_iff.mp h
    obtain ⟨tg, iter, ifs, rfl, q⟩ := ih.l h1 g
    exact ej_comp g.calm g.nd q
  | _ => simp only [cV] at h; cases h
theorem cI_ok {fz : Option (List Nat)} {tg : Expr} {mi : MI} (ih : Snd n) (h : cI (n + 1) I fz tg e = some mi) (g : Gd CM C I W X) {P : Ow → Bool} (hP : ∀ i, I.ow i = true → allowed fz i = true → P (.slot i) = false) : II P X CM I.ow W C tg e mi := by
  simp only [cI] at h
  have sq : (cEI n I fz e).map MI.seq = some mi → II P X CM I.ow W C tg e mi := fun h => by
    obtain ⟨m', h1, rfl⟩ := Option.map_eq_some_iff.mp h
    exact ii_seq (ih.ei h1 g hP)
  split at h
  · rename_i x es h0
    split at h
    · rename_i hb
      obtain ⟨q1, q2, q3⟩ := isBl_ok g hb
      split at h
      · rename_i hx
        subst hx
        obtain ⟨p, pos, rfl⟩ := callOf_eq h0
        split at h
        · split at h
          · rename_i h1 h2
            cases h
            exact ii_rng1 q1 q2 (ih.e h2 g) (star_cons h1 _ _)
          · cases h
        · split at h
          · rename_i h1 h2 h3
            cases h
            simp only [Bool.and_eq_true] at h1
            exact ii_rng2 q1 q2 (ih.e h2 g) (ih.e h3 g) (by rw [star_cons h1.1, star_cons h1.2]; rfl) (star_cons h1.2 _ _)
          · cases h
        · cases h
      split at h
      · rename_i hx
        subst hx
        obtain ⟨p, pos, rfl⟩ := callOf_eq h0
        split at h
        · split at h
          · rename_i h1 h2 h3
            cases h
            simp only [Bool.and_eq_true] at h1
            obtain ⟨elts, kk, tp, rfl⟩ := isTup_eq h1.2
            exact ii_zip q1 q2 (ih.ei h2 g hP) (ih.ei h3 g hP) (star_cons h1.1.1 _ _) (star_cons h1.1.2 _ _) (by rw [star_cons h1.1.2]; rfl)
          · cases h
        · cases h
      split at h
      · rename_i hx
        subst hx
        obtain ⟨p, pos, rfl⟩ := callOf_eq h0
        split at h
        · split at h
          · rename_i h1 h2
            cases h
            simp only [Bool.and_eq_true] at h1
            obtain ⟨elts, kk, tp, rfl⟩ := isTup_eq h1.2
            exact ii_enum q1 q2 (ih.ei h2 g hP) (star_cons h1.1 _ _)
          · cases h
        · cases h
      split at h
      · rename_i hx
        subst hx
        obtain ⟨p, pos, rfl⟩ := callOf_eq h0
        split at h
        · split at h
          · rename_i h1 h2
            cases h
            exact ii_rev q1 q2 (ih.ei h2 g hP) (star_cons h1 _ _)
          · cases h
        · cases h
      exact sq h
    · exact sq h
  · exact sq h
end
theorem snd : ∀ n, Snd n
  | 0 => ⟨fun h => absurd h (by simp only [cE]; exact fun z => nomatch z), fun h => absurd h (by simp only [cV]; exact fun z => nomatch z), fun h => absurd h (by simp only [cC]; exact fun z => nomatch z), fun h => absurd h (by simp only [cL]; exact fun z => nomatch z), fun h => absurd h (by simp only [cB]; exact fun z => nomatch z), fun h => absurd h (by simp only [cT]; exact fun z => nomatch z),
    fun h => absurd h (by simp only [cW]; exact fun z => nomatch z), fun h => absurd h (by simp only [cBo]; exact fun z => nomatch z), fun h => absurd h (by simp only [cEs]; exact fun z => nomatch z), fun h => absurd h (by simp only [cBs]; exact fun z => nomatch z), fun h => absurd h (by simp only [cTt]; exact fun z => nomatch z), fun h => absurd h (by simp only [cSl]; exact fun z => nomatch z),
    fun h => absurd h (by simp only [cF]; exact fun z => nomatch z), fun h => absurd h (by simp only [cEI]; exact fun z => nomatch z), fun h => absurd h (by simp only [cI]; exact fun z => nomatch z)⟩
  | n + 1 => have ih := snd n
    ⟨fun h g => cE_ok ih h g, fun h g => cV_ok ih h g, fun h g => cC_ok ih h g, fun h g => cL_ok ih h g, fun h g => cB_ok ih h g, fun h g => cT_ok ih h g, fun h g pos => cW_ok ih h g pos, fun h g pos => cBo_ok ih h g pos,
      fun h g => cEs_ok ih h g, fun h g => cBs_ok ih h g, fun h g => cTt_ok ih h g, fun h g => cSl_ok ih h g, fun h g => cF_ok ih h g, fun h g _ hP => cEI_ok ih h g hP, fun h g _ hP => cI_ok ih h g hP⟩
end Mi

set_option Elab.async false
set_option linter.all false
set_option maxRecDepth 100000
set_option maxHeartbeats 4000000
/-! Mi: from the program's tree to Mi's, statements. -/
namespace Mi
open PySem PySem.Spec PyProof.Rows L2
def isSwap (sc : Scope) (x : Str) (px : Pos) : Expr → Bool
  | .ListComp _ _ scope vp => decide (sc.names.lookup x = some .local) && (px.line == vp.line) && !(scope.names.any fun (n, k) => n == x && (k == .local || k == .cell))
  | _ => false
def noSD : Expr → Bool
  | .SetComp _ _ _ _ => false
  | .DictComp _ _ _ _ _ => false
  | _ => true
theorem sw_no {sc : Scope} {env : PySem.Env} {x : Str} {px : Pos} {e : Expr} {l : Nat} (hsc : env.scope = sc) (h : isSwap sc x px e = false) (h2 : noSD e = true) : swapsWith e (some (.Name x px)) l env = pure false := by
  cases e with
  | ListComp elt gs scope vp =>
    have h' : (decide (env.scope.names.lookup x = some .local) && (px.line == vp.line) && !(scope.names.any fun (n, k) => n == x && (k == .local || k == .cell))) = false := by rw [hsc]; exact h
    show (pure (env.blockKind == .function && env.kindOf x == some .local && px.line == vp.line && !(scope.names.any fun (n, k) => n == x && (k == .local || k == .cell))) : Sem Bool) = pure false
    congr 1
    have e1 : (env.kindOf x == some NameKind.local) = decide (env.scope.names.lookup x = some .local) := by rw [Bool.eq_iff_iff, beq_iff_eq, decide_eq_true_eq]; exact Iff.rfl
    rw [e1]
    simp only [Bool.and_assoc] at h' ⊢
    rw [h', Bool.and_false]
  | SetComp _ _ _ _ => cases h2
  | DictComp _ _ _ _ _ => cases h2
  | _ => rfl
theorem sw_yes {sc : Scope} {env : PySem.Env} {x : Str} {px : Pos} {e : Expr} {l : Nat} (hsc : env.scope = sc) (hk : sc.kind = .function) (h : isSwap sc x px e = true) : swapsWith e (some (.Name x px)) l env = pure true := by
  cases e with
  | ListComp elt gs scope vp =>
    simp only [isSwap, Bool.and_eq_true, decide_eq_true_eq, Bool.not_eq_true'] at h
    exact sw_true (by rw [hsc]; exact hk) (by rw [hsc]; exact h.1.1) h.1.2 h.2
  | _ => cases h
theorem sw_sub {e : Expr} {o ix : Expr} {p : Pos} {l : Nat} {env : PySem.Env} : swapsWithSole [.Subscript o ix p] e l env = pure false := by
  cases e <;> rfl
theorem sw_tup {e : Expr} {ts : List Expr} {k : Nat} {p : Pos} {l : Nat} {env : PySem.Env} : swapsWithSole [.Tuple ts k p] e l env = pure false := by
  cases e <;> rfl
def noTup : Expr → Bool
  | .Tuple _ _ _ => false
  | _ => true
theorem stores_no {e t : Expr} {env : PySem.Env} (h : noTup e = true) : swappedStores [t] e env = pure none := by
  cases e with
  | Tuple _ _ _ => cases h
  | _ => cases t <;> rfl
theorem stores_two {x y : Str} {px py pt p2 : Pos} {kt k2 : Nat} {a b : Expr} {env : PySem.Env} (hk : env.scope.kind = .function) (hx : env.scope.names.lookup x = some .local) (hy : env.scope.names.lookup y = some .local) (hl : px.line = py.line) (hn : x ≠ y) (ha : noStar a = true) (hb : noStar b = true)
    (h1 : [a, b].all (foldedForSure 8) = false) (h2 : [a, b].all (constantsAlone 8) = false) : swappedStores [.Tuple [.Name x px, .Name y py] kt pt] (.Tuple [a, b] k2 p2) env = pure (some [x, y]) := by
  have hb' : env.blockKind = .function := by unfold Env.blockKind; rw [hk]; rfl
  have kx : env.kindOf x = some .local := hx
  have ky : env.kindOf y = some .local := hy
  have hn' : (y == x) = false := by simpa using Ne.symm hn
  unfold swappedStores
  simp only [hb', h1, h2]
  simp [kx, ky, hl, List.eraseDups_cons, hn', Expr.pos]
  rintro (h | h)
  · exact absurd h (by cases a <;> simp_all [noStar])
  · exact absurd h (by cases b <;> simp_all [noStar])
theorem few_one {e : Expr} {cpos : Pos} {env : PySem.Env} (h : noStar e = true) : ((backTo cpos (starEach [e] env)).all (fun x => !x.1) && (backToKw cpos (keywordEach [] env)).all (fun x => x.1.isSome) && decide ([e].length + ([] : List Keyword).length + (if ([] : List Keyword).isEmpty then 0 else 1) < 30)) = true := by
  rw [star_cons h]
  rfl
def augOf : Operator → Option BOp
  | .Add => some .add | .Sub => some .sub | .Mult => some .mul | .FloorDiv => some .fdiv | .Mod => some .mod
  | _ => none
theorem aug_ok {op : Operator} {o : BOp} (h : augOf op = some o) : (op = .Add ∧ o = .add) ∨ (op = .Sub ∧ o = .sub) ∨ (op = .Mult ∧ o = .mul) ∨ (op = .FloorDiv ∧ o = .fdiv) ∨ (op = .Mod ∧ o = .mod) := by
  cases op <;> cases h <;> simp
/-- a parallel assignment of two -/
def parOf (I : In) (t e : Expr) : Option (Nat × Nat × Expr × Expr) := match t, e with
  | .Tuple [.Name x px, .Name y py] _ _, .Tuple [a, b] _ _ => match cLoc I x, cLoc I y with
    | some i, some j => if I.sc.names.lookup x = some .local ∧ I.sc.names.lookup y = some .local ∧ px.line = py.line ∧ x ≠ y ∧ noStar a = true ∧ noStar b = true ∧ [a, b].all (foldedForSure 8) = false ∧ [a, b].all (constantsAlone 8) = false ∧ I.ow i = false ∧ I.ow j = false ∧ i ≠ j
      then some (i, j, a, b) else none
    | _, _ => none
  | _, _ => none
def frzOf (I : In) : Expr → List Nat
  | .Call _ es _ _ => es.filterMap (nameOf I)
  | e => (nameOf I e).toList
def In.fr (I : In) (l : List Nat) : In := { I with frz := l ++ I.frz }
def In.un (I : In) : In := { I with own := [] }
theorem Gd.fr {CM : Str → Option Addr} {C : Nat → List D → M D} {I : In} {W : WX} {X : Cx} (g : Gd CM C I W X) (l : List Nat) : Gd CM C (I.fr l) W X := ⟨g.N, g.nd, g.sc, g.kind, g.calm, g.un, g.tk, g.top, g.cel, g.fn, g.ct, g.bl⟩
theorem Gd.unown {CM : Str → Option Addr} {C : Nat → List D → M D} {I : In} {W : WX} {X : Cx} (g : Gd CM C I W X) : Gd CM C I.un W X := ⟨g.N, g.nd, g.sc, g.kind, g.calm, g.un, g.tk, g.top, g.cel, g.fn, g.ct, g.bl⟩
theorem fr_sub {I : In} {l : List Nat} : ∀ i, (I.fr l).S i = true → I.S i = true := by
  intro i h
  simp only [In.S, In.fr, Bool.and_eq_true, List.contains_eq_mem, List.mem_append, Bool.not_eq_true', decide_eq_false_iff_not, not_or] at h ⊢
  exact ⟨h.1, h.2.2⟩
/-- a method's call as a statement: its object, its name, its argument -/
def methOf : Expr → Option (Expr × Str × Expr × Pos × Pos)
  | .Call (.Attribute o a ap) [e] [] cp => some (o, a, e, ap, cp)
  | _ => none
theorem methOf_eq {e o a x ap cp} (h : methOf e = some (o, a, x, ap, cp)) : e = .Call (.Attribute o a ap) [x] [] cp := by
  unfold methOf at h
  split at h
  · cases h; rfl
  · cases h
/-- a slot that owns its list -/
def ownName (I : In) (e : Expr) : Option Nat := match nameOf I e with
  | some i => if I.ow i then some i else none
  | none => none
theorem ownName_eq {I : In} {e : Expr} {i : Nat} (h : ownName I e = some i) : ∃ x p, e = .Name x p ∧ cVar I x = some i ∧ I.ow i = true := by
  unfold ownName at h
  split at h
  · rename_i j h1
    split at h
    · rename_i ho
      cases h
      obtain ⟨x, p, e1, e2⟩ := nameOf_eq h1
      exact ⟨x, p, e1, e2, ho⟩
    · cases h
  · cases h
/-- a clause -/
def cH1 (I : In) (x : Str) (nm : Option Str) (st : Stmt) : Option Hd := match I.wd.xcs.find? (fun k => k.name == x) with
  | none => none
  | some k => if isGl I x then (match nm, st with
    | none, .Return (some (.Constant c _ _)) _ => (cLit c).map .con
    | none, .Continue _ => some .cnt
    | some n, .Return (some (.Attribute (.Name n1 _) f _)) _ => match ixOf I.N n with
      | some i => if n1 = n ∧ (I.wd.xcs.all fun m => !m.up.contains x) = true ∧ f ∈ k.fs ∧ I.sc.names.lookup n = some .local ∧ okN n = true then some (.fld i f) else none
      | none => none
    | some n, .Return (some (.Tuple [.Attribute (.Name n1 _) f _, .Attribute (.Name n2 _) f2 _] _ _)) _ => match ixOf I.N n with
      | some i => if n1 = n ∧ n2 = n ∧ (I.wd.xcs.all fun m => !m.up.contains x) = true ∧ f ∈ k.fs ∧ f2 ∈ k.fs ∧ I.sc.names.lookup n = some .local ∧ okN n = true then some (.flds i [f, f2]) else none
      | none => none
    | _, _ => none) else none
def cHs (I : In) : List ExceptHandler → Option (List (Str × Hd))
  | [] => some []
  | .ExceptHandler (some (.Name x _)) nm [st] _ :: hs => match cH1 I x nm st, cHs I hs with
    | some h, some l => some ((x, h) :: l)
    | _, _ => none
  | _ => none
/-- what is raised -/
def raiseOf (I : In) : Expr → Option (Str × List Expr × XC)
  | .Call (.Name x _) es [] _ => if isGl I x then (I.wd.xcs.find? (fun k => k.name == x)).map fun k => (x, es, k) else none
  | _ => none
mutual
def cS : Nat → In → Stmt → Option MS
  | 0, _, _ => none
  | n + 1, I, s => match s with
    | .Assign ts e _ => match ts with
      | [t] => cA n I t e
      | _ => none
    | .AugAssign t op e _ => match t with
      | .Name x _ => match cLoc I x, augOf op, cE n I e with
        | some i, some o, some m => if I.ow i then none else some (.aug i o m)
        | _, _, _ => none
      | _ => none
    | .Expr e _ => match methOf e with
      | some (o, a, x, ap, cp) => if a = "append" ∧ (ap.endLine == cp.line) = true ∧ noStar x = true then
          (match ownName I o with
          | some i => if I.S i then (cE n I x).map (.app i) else none
          | none => match noCall o, cE n I o, cE n I x with
            | true, some mo, some mx => some (.happ mo mx)
            | _, _, _ => none)
        else if a = "pop" ∧ (ap.endLine == cp.line) = true ∧ noStar x = true then
          (match noCall o, cE n I o, cE n I x with
            | true, some mo, some mx => some (.hpop mo mx)
            | _, _, _ => none)
        else none
      | none => if noComp e then (cE n I e).map .expr else none
    | .If c a b _ => match cT n I c, cSs n I a, cSs n I b with
      | some mc, some ma, some mb => some (.ife mc ma mb)
      | _, _, _ => none
    | .While c b o _ => match o, cT n I c, cSs n I b with
      | [], some mc, some mb => some (.whl mc mb)
      | _, _, _ => none
    | .For t it b o _ => match o, noSet it, cTg I t, cI n (I.fr (frzOf I it)) (some (I.fr (frzOf I it)).frz) t it, cSs n (I.fr (frzOf I it)) b with
      | [], true, some t, some mi, some mb => some (.for t mi mb)
      | _, _, _, _, _ => none
    | .Return o _ => match o with
      | none => some .retN
      | some e => match cE n I e with
        | some m => some (.ret m)
        | none => (cE n I.un e).map .retO
    | .Break _ => some .brk
    | .Raise e c _ => match e, c with
      | some e, none => match raiseOf I e with
        | some (x, es, k) => match es with
          | [] => if k.fs = [] then some (.raise x .nil) else none
          | e :: es => if k.fs = [] then none else match cEs n I (e :: es) with
            | some (.cons m ms) => some (.raise x (.cons m ms))
            | _ => none
        | none => none
      | _, _ => none
    | .Try b hs o f _ => match hs, o, f with
      | h :: hs, [], [] => match cSs n I b, cHs I (h :: hs) with
        | some mb, some l => some (.tryH mb l)
        | _, _ => none
      | _, _, _ => none
    | .Continue _ => some .cnt
    | .Pass _ => some .pas
    | _ => none
def cA : Nat → In → Expr → Expr → Option MS
  | 0, _, _, _ => none
  | n + 1, I, t, e => match t with
    | .Name x px => match cLoc I x with
      | some i => if isSwap I.sc x px e then (if I.heap.contains e.pos || (I.ow i && !I.S i) then none else match e with
          | .ListComp elt gs scope _ => (cL n I elt gs scope).map fun p => .asg (.name i) (.comp p.2.2.2.2 p.2.1 p.2.2.1 p.2.2.2.1 (p.1.map (·.2)))
          | _ => none)
        else if noSD e then (if I.ow i then (if I.S i then (cF n I e).map (.asg (.name i)) else none) else (cE n I e).map (.asg (.name i)))
        else none
      | none => none
    | .Subscript o ix _ => if noSlice ix then (match ownName I o with
        | some i => if I.S i then (match cB n I ix, cE n I e with
          | some mi, some m => some (.setx i mi m)
          | _, _ => none) else none
        | none => match cE n I o, cB n I ix, cE n I e with
          | some mo, some mi, some m => some (.hset mo mi m)
          | _, _, _ => none) else none
    | .Tuple ts k p => match parOf I (.Tuple ts k p) e with
      | some (i, j, a, b) => match cE n I a, cE n I b with
        | some ma, some mb => some (.par i j ma mb)
        | _, _ => none
      | none => if noTup e then (match cTg I (.Tuple ts k p), cE n I e with
        | some t, some m => some (.asg t m)
        | _, _ => none) else none
    | _ => none
def cSs : Nat → In → List Stmt → Option MSs
  | 0, _, _ => none
  | n + 1, I, ss => match ss with
    | [] => some .nil
    | s :: ss => match cS n I s, cSs n I ss with
      | some m, some ms => some (.cons m ms)
      | _, _ => none
end
structure Sns (G : List XC) (n : Nat) : Prop where
  s : ∀ {I st m CM C W X}, cS n I st = some m → Gd CM C I W X → I.wd.xcs = G → Gs CM G X → SJ X CM I.ow W I.S C G st m
  a : ∀ {I t e m CM C W X}, cA n I t e = some m → Gd CM C I W X → ∀ pos, SJ X CM I.ow W I.S C G (.Assign [t] e pos) m
  ss : ∀ {I st m CM C W X}, cSs n I st = some m → Gd CM C I W X → I.wd.xcs = G → Gs CM G X → SJs X CM I.ow W I.S C G st m
section
variable {G : List XC} {n : Nat} {I : In} {CM : Str → Option Addr} {C : Nat → List D → M D} {W : WX} {X : Cx}
theorem raiseOf_eq {e : Expr} {x : Str} {es : List Expr} {k : XC} (h : raiseOf I e = some (x, es, k)) : ∃ p pos, e = .Call (.Name x p) es [] pos ∧ isGl I x = true ∧ I.wd.xcs.find? (fun k => k.name == x) = some k := by
  unfold raiseOf at h
  split at h
  · split at h
    · rename_i hg
      obtain ⟨k', h1, h2⟩ := Option.map_eq_some_iff.mp h
      cases h2
      exact ⟨_, _, rfl, hg, h1⟩
    · cases h
  · cases h
theorem Gd.tr (g : Gd CM C I W X) {W' : WX} {pn : List (Addr × Obj)} {xe : Value → Shared → Prop} (tk : Takes (X.tr pn xe) W') : Gd CM C I W' (X.tr pn xe) := ⟨g.N, g.nd, g.sc, g.kind, g.calm, g.un, tk, g.top, g.cel, g.fn, g.ct, g.bl⟩
theorem cLit_v {c : Const} {d : D} (h : cLit c = some d) : ∃ v : V, (∀ (X : Cx) (k : Nat) (pos : Pos), PE X (.Constant c k pos) (tC v)) ∧ ∀ K H O, Rp K H O v d := by
  cases c <;> cases h
  · exact ⟨.non, fun _ _ _ => pe_non, fun _ _ _ => .non⟩
  · exact ⟨.bl _, fun _ _ _ => pe_bl, fun _ _ _ => .bl _⟩
  · exact ⟨.int _, fun _ _ _ => pe_int, fun _ _ _ => .int _⟩
  · exact ⟨.str _, fun _ _ _ => pe_str, fun _ _ _ => .str _⟩
theorem cHs_ok (g : Gd CM C I W X) (hG : I.wd.xcs = G) (gs : Gs CM G X) : ∀ {hs : List ExceptHandler} {l : List (Str × Hd)}, cHs I hs = some l → HJ X CM G hs l
  | [], l, h => by cases h; exact .nil
  | .ExceptHandler (some (.Name x p1)) nm [st] p2 :: hs, l, h => by
    simp only [cHs] at h
    split at h
    · rename_i hd l' h1 h2
      cases h
      have r := cHs_ok g hG gs h2
      unfold cH1 at h1
      split at h1
      · cases h1
      · rename_i k hk
        split at h1
        · rename_i hg
          obtain ⟨q1, q2⟩ := isGl_ok g hg
          rw [hG] at hk
          obtain ⟨m1, n1⟩ := find_mem hk
          obtain ⟨Ca, xa⟩ := gs.xs.has k m1
          have hx : Names X x (X.mg x |>.getD .none) := by
            subst n1
            rw [xa.gl]
            exact ⟨q1, okN_d q2, .inl xa.gl⟩
          have hGs : (G.find? (fun k => k.name == x)).isSome = true := by rw [hk]; rfl
          split at h1
          · obtain ⟨d, h3, rfl⟩ := Option.map_eq_some_iff.mp h1
            obtain ⟨v, v1, v2⟩ := cLit_v h3
            exact .con hx hGs (fun X' => v1 X' _ _) (fun H O => v2 _ H O) r
          · cases h1
            exact .cnt hx hGs r
          · split at h1
            · rename_i i hi
              split at h1
              · rename_i hc
                obtain ⟨rfl, c2, c3, c4, c5⟩ := hc
                cases h1
                rw [hG] at c2
                exact .fld hx hk c2 c3 g.nd (by rw [g.N]; exact ixOf_get hi) (by show X.env.scope.names.lookup _ = _; rw [g.sc]; exact c4) (okN_d c5) (okN_c c5) r
              · cases h1
            · cases h1
          · split at h1
            · rename_i i hi
              split at h1
              · rename_i hc
                obtain ⟨rfl, rfl, c2, c3, c3b, c4, c5⟩ := hc
                cases h1
                rw [hG] at c2
                exact .fld2 hx hk c2 c3 c3b g.nd (by rw [g.N]; exact ixOf_get hi) (by show X.env.scope.names.lookup _ = _; rw [g.sc]; exact c4) (okN_d c5) (okN_c c5) r
              · cases h1
            · cases h1
          · cases h1
        · cases h1
    · cases h
theorem cSs_ok {st : List Stmt} {m : MSs} (ih : Sns G n) (h : cSs (n + 1) I st = some m) (g : Gd CM C I W X) (hG : I.wd.xcs = G) (gs : Gs CM G X) : SJs X CM I.ow W I.S C G st m := by
  simp only [cSs] at h
  split at h
  · cases h; exact sjs_nil
  · split at h
    · rename_i h1 h2
      cases h
      exact sjs_cons (ih.s h1 g hG gs) (ih.ss h2 g hG gs)
    · cases h
theorem parOf_eq {t e : Expr} {i j : Nat} {a b : Expr} (h : parOf I t e = some (i, j, a, b)) : ∃ x px y py kt pt k2 p2, t = .Tuple [.Name x px, .Name y py] kt pt ∧ e = .Tuple [a, b] k2 p2 ∧ cLoc I x = some i ∧ cLoc I y = some j ∧ I.sc.names.lookup x = some .local ∧ I.sc.names.lookup y = some .local ∧ px.line = py.line ∧ x ≠ y ∧ noStar a = true ∧ noStar b = true ∧ [a, b].all (foldedForSure 8) = false ∧ [a, b].all (constantsAlone 8) = false ∧ I.ow i = false ∧ I.ow j = false ∧ i ≠ j := by
  unfold parOf at h
  split at h
  · split at h
    · rename_i h1 h2
      split at h
      · rename_i hc
        cases h
        exact ⟨_, _, _, _, _, _, _, _, rfl, rfl, h1, h2, hc⟩
      · cases h
    · cases h
  · cases h
theorem cA_ok {t e : Expr} {m : MS} (h : cA (n + 1) I t e = some m) (g : Gd CM C I W X) (pos : Pos) : SJ X CM I.ow W I.S C G (.Assign [t] e pos) m := by
  have ih := snd n
  cases t with
  | Name x px =>
    simp only [cA] at h
    split at h
    · rename_i i hi
      obtain ⟨q1, q2, q3, q4⟩ := cLoc_ok g hi
      split at h
      · rename_i hw
        split at h
        · cases h
        · rename_i hh
          simp only [Bool.or_eq_true, not_or, Bool.not_eq_true] at hh
          split at h
          · rename_i elt gs scope vp
            obtain ⟨p, h1, rfl⟩ := Option.map_eq_some_iff.mp h
            obtain ⟨tg, iter, ifs, rfl, ck⟩ := ih.l h1 g
            have hl : X.env.scope.names.lookup x = some .local := by
              rw [g.sc]
              simp only [isSwap, Bool.and_eq_true, decide_eq_true_eq] at hw
              exact hw.1.1
            cases ho : I.ow i with
            | false => exact sj_setLc g.calm g.nd q1 hl (sw_yes g.sc g.kind hw) ck ho
            | true =>
              have hS : I.S i = true := by
                have := hh.2
                rw [ho, Bool.true_and] at this
                simpa using this
              exact sj_setOLc g.calm g.nd q1 hl (sw_yes g.sc g.kind hw) ck ho hS
          · cases h
      · rename_i hw
        have hw : isSwap I.sc x px e = false := by simpa using hw
        split at h
        · rename_i hsd
          split at h
          · rename_i ho
            split at h
            · rename_i hS
              obtain ⟨m', h1, rfl⟩ := Option.map_eq_some_iff.mp h
              exact sj_setO g.nd q1 q2 (ih.f h1 g) (sw_no g.sc hw hsd) q3 ho hS
            · cases h
          · rename_i ho
            obtain ⟨m', h1, rfl⟩ := Option.map_eq_some_iff.mp h
            exact sj_set g.nd q1 q2 (ih.e h1 g) (sw_no g.sc hw hsd) q3 (by simpa using ho)
        · cases h
    · cases h
  | Subscript o ix p =>
    simp only [cA] at h
    split at h
    · rename_i hs
      split at h
      · rename_i i hi
        obtain ⟨x, px, rfl, hv, ho⟩ := ownName_eq hi
        obtain ⟨q1, q2, q3⟩ := cVar_ok g hv
        split at h
        · rename_i hS
          split at h
          · rename_i h1 h2
            cases h
            exact sj_setx q1 q2 (okN_d q3) (okN_c q3) (ih.b h1 g) (ih.e h2 g) ho hS (fun v => assign_sub hs _ _ _ _) sw_sub
          · cases h
        · cases h
      · split at h
        · rename_i h1 h2 h3
          cases h
          exact sj_hset (ih.e h1 g) (ih.b h2 g) (ih.e h3 g) (fun v => assign_sub hs _ _ _ _) sw_sub
        · cases h
    · cases h
  | Tuple ts k p =>
    simp only [cA] at h
    split at h
    · rename_i i j a b hp
      split at h
      · rename_i h1 h2
        cases h
        obtain ⟨x, px, y, py, kt, pt, k2, p2, e1, rfl, c1, c2, l1, l2, hl, hn, sa, sb, hf, hc, o1, o2, hij⟩ := parOf_eq hp
        rw [e1]
        obtain ⟨q1, q2, q3, q4⟩ := cLoc_ok g c1
        obtain ⟨r1, r2, r3, r4⟩ := cLoc_ok g c2
        have l1' : X.env.scope.names.lookup x = some .local := by rw [g.sc]; exact l1
        have l2' : X.env.scope.names.lookup y = some .local := by rw [g.sc]; exact l2
        exact sj_par g.calm g.nd q1 r1 hij l1' l2' (ih.e h1 g) (ih.e h2 g) (stores_two (by rw [g.sc]; exact g.kind) l1' l2' hl hn sa sb hf hc) sw_tup (star_cons sa _ _) (star_cons sb _ _) o1 o2
      · cases h
    · split at h
      · rename_i hn
        split at h
        · rename_i h1 h2
          cases h
          exact sj_asg (ih.e h2 g) (cTg_ok g h1) sw_tup (stores_no hn) rfl
        · cases h
      · cases h
  | _ => simp only [cA] at h; cases h
theorem cS_ok {st : Stmt} {m : MS} (ih : Sns G n) (h : cS (n + 1) I st = some m) (g : Gd CM C I W X) (hG : I.wd.xcs = G) (gs : Gs CM G X) : SJ X CM I.ow W I.S C G st m := by
  have ie := snd n
  cases st with
  | Assign ts e pos =>
    simp only [cS] at h
    split at h
    · exact ih.a h g pos
    · cases h
  | AugAssign t op e pos =>
    simp only [cS] at h
    split at h
    · split at h
      · rename_i h1 h2 h3
        split at h
        · cases h
        · rename_i ho
          cases h
          obtain ⟨q1, q2, q3, q4⟩ := cLoc_ok g h1
          exact sj_aug g.nd q1 q2 (ie.e h3 g) (aug_ok h2) q3 (by simpa using ho)
      · cases h
    · cases h
  | Expr e pos =>
    simp only [cS] at h
    split at h
    · rename_i o a x ap cp hm
      have := methOf_eq hm
      subst this
      split at h
      · rename_i hc
        obtain ⟨rfl, hl, hs⟩ := hc
        split at h
        · rename_i i hi
          obtain ⟨x', px, rfl, hv, ho⟩ := ownName_eq hi
          obtain ⟨q1, q2, q3⟩ := cVar_ok g hv
          split at h
          · rename_i hS
            obtain ⟨m', h1, rfl⟩ := Option.map_eq_some_iff.mp h
            exact sj_app q1 q2 (okN_d q3) (okN_c q3) (ie.e h1 g) ho hS hl (star_cons hs _ _) (few_one hs)
          · cases h
        · split at h
          · rename_i h1 h2 h3
            cases h
            exact sj_happ (ie.e h2 g) (ie.e h3 g) (base_no h1 _ _ _) hl (star_cons hs _ _) (few_one hs)
          · cases h
      · split at h
        · rename_i hc
          obtain ⟨rfl, hl, hs⟩ := hc
          split at h
          · rename_i h1 h2 h3
            cases h
            exact sj_hpop (ie.e h2 g) (ie.e h3 g) (base_no h1 _ _ _) hl (star_cons hs _ _) (few_one hs)
          · cases h
        · cases h
    · split at h
      · rename_i hc
        obtain ⟨m', h1, rfl⟩ := Option.map_eq_some_iff.mp h
        exact sj_expr (ie.e h1 g) (swaps_no hc _ _ _)
      · cases h
  | If c a b pos =>
    simp only [cS] at h
    split at h
    · rename_i h1 h2 h3
      cases h
      exact sj_if (ie.t h1 g) (ih.ss h2 g hG gs) (ih.ss h3 g hG gs)
    · cases h
  | While c b o pos =>
    simp only [cS] at h
    split at h
    · rename_i h1 h2
      cases h
      exact sj_while gs.hp (ie.t h1 g) (ih.ss h2 g hG gs)
    · cases h
  | For t it b o pos =>
    simp only [cS] at h
    split at h
    · rename_i h1 h2 h3 h4
      cases h
      have g' := g.fr (frzOf I it)
      refine sj_sub fr_sub (sj_for (S := (I.fr (frzOf I it)).S) gs.hp g.calm (ie.i h3 g' fun i ho ha => ?_) (cTg_ok g h2) (ih.ss h4 g' hG gs) (folded_no h1 _))
      show (I.fr (frzOf I it)).S i = false
      have ha : (I.fr (frzOf I it)).frz.contains i = true := ha
      unfold In.S
      rw [ha, Bool.not_true, Bool.and_false]
    · cases h
  | Return o pos =>
    simp only [cS] at h
    split at h
    · cases h; exact sj_retN
    · split at h
      · rename_i h1
        cases h
        exact sj_ret (ie.e h1 g)
      · obtain ⟨m', h1, rfl⟩ := Option.map_eq_some_iff.mp h
        exact sj_retO (ie.e h1 g.unown)
  | Break pos => simp only [cS] at h; cases h; exact sj_break
  | Raise e c pos =>
    simp only [cS] at h
    split at h
    · split at h
      · rename_i e x es k hr
        obtain ⟨p, pos2, rfl, hg, hk⟩ := raiseOf_eq hr
        obtain ⟨q1, q2⟩ := isGl_ok g hg
        rw [hG] at hk
        split at h
        · split at h
          · rename_i hf
            cases h
            exact sj_raise0 g.calm g.tk gs hk hf q1 (okN_d q2)
          · cases h
        · split at h
          · cases h
          · rename_i hf
            split at h
            · rename_i h1
              cases h
              obtain ⟨t1, t2⟩ := ie.es h1 g
              simp only [List.all_cons, Bool.and_eq_true] at t2
              exact sj_raiseN g.calm g.tk gs hk hf q1 (okN_d q2) t1 (star_cons t2.1 _ _) (star_back t2.2 _ _)
            · cases h
      · cases h
    · cases h
  | Try b hs o f pos =>
    simp only [cS] at h
    split at h
    · split at h
      · rename_i h1 h2
        cases h
        exact sj_try gs g.tk (cHs_ok g hG gs h2) fun W' pn xe tk hp => ih.ss h1 (g.tr tk) hG (gs.tr pn xe hp)
      · cases h
    · cases h
  | Continue pos => simp only [cS] at h; cases h; exact sj_cont
  | Pass pos => simp only [cS] at h; cases h; exact sj_pass
  | _ => simp only [cS] at h; cases h
end
theorem sns (G : List XC) : ∀ n, Sns G n
  | 0 => ⟨fun h => absurd h (by simp only [cS]; exact fun z => nomatch z), fun h => absurd h (by simp only [cA]; exact fun z => nomatch z), fun h => absurd h (by simp only [cSs]; exact fun z => nomatch z)⟩
  | n + 1 => have ih := sns G n
    ⟨fun h g hG gs => cS_ok ih h g hG gs, fun h g pos => cA_ok h g pos, fun h g hG gs => cSs_ok ih h g hG gs⟩
end Mi

set_option Elab.async false
set_option linter.all false
set_option maxRecDepth 100000
set_option maxHeartbeats 4000000
/-! Mi: defs, the law's end. -/
namespace Mi
open PySem PySem.Spec PyProof.Rows L2
section
variable {K : PySem.W.Frag} {CM : Str → Option Addr} {H H' : Hp} {O O' : OM}
theorem rO_stepS {P : Ow → Bool} (hP : ∀ b, P (.tmp b) = false) (s : StP P O H O' H') (hO : ∀ n, O (.slot n) = none) : Step O H (rO O') H' := by
  refine ⟨s.keep, fun w a p e => ?_, fun w a o p e e' => ?_, fun i a e => s.obj i a e, fun w a e => s.new w a (rO_some e).1, s.live⟩
  · cases w with
    | slot i => rw [hO i] at e; cases e
    | tmp b => exact s.loc _ _ (hP b) e
    | obj i => cases p
  · cases w with
    | slot i => rw [hO i] at e; cases e
    | tmp b => exact s.sk _ _ _ (hP b) e e'
    | obj i => cases p
theorem start_rep {h : AH} {vs : List V} {ds : List D} {N : List Str} {np : Nat} {own : Nat → Bool} (rs : Rps K H O vs ds) (hl : ds.length = np) (hN : np ≤ N.length) (ho : ∀ i, own i = true → np ≤ i) : RepE K H O own (L2.start N vs) (startE N.length ds) := by
  have hv := rs.length
  refine ⟨by simp only [L2.start, startE, List.length_append, List.length_map, List.length_replicate]; omega, fun i d e o => ?_, fun i d e o => ?_⟩
  · unfold startE at e
    by_cases hi : i < ds.length
    · rw [List.getElem?_append_left (by simpa using hi), List.getElem?_map] at e
      cases q : ds[i]? with
      | none => rw [q] at e; cases e
      | some d' =>
        rw [q] at e; cases e
        obtain ⟨v, h1, h2⟩ := rs.get q
        refine ⟨v, ?_, h2⟩
        unfold L2.start
        rw [List.getElem?_append_left (by simp only [List.length_map]; omega), List.getElem?_map, h1]
        rfl
    · rw [List.getElem?_append_right (by simp only [List.length_map]; omega), List.getElem?_replicate] at e
      split at e <;> cases e
  · have := ho i o
    unfold startE at e
    rw [List.getElem?_append_right (by simp only [List.length_map]; omega), List.getElem?_replicate] at e
    split at e <;> cases e
end
/-- a def as the program has it -/
structure FI where
  name : Str
  st : Stmt
  I : In
  np : Nat
def FI.ps (F : FI) : List Str := F.I.N.take F.np
/-- what is to be seen of a def's text -/
structure FI.Ok (F : FI) (fn : Fn) (wd : Wd) : Prop where
  sc : FnScope F.I.N F.ps (defScope F.st)
  np : F.np ≤ F.I.N.length
  is : F.I.sc = defScope F.st
  wd : F.I.wd = wd
  top : F.I.top = true
  cel : F.I.cel = []
  own : F.I.own.all (fun i => decide (F.np ≤ i)) = true
  body : ∃ n, cSs n F.I (defBody F.st) = some fn.body
  name : fn.name = F.name
  N : fn.N = F.I.N
  fnp : fn.np = F.np
section
variable {P : Program} {w : World} {K : PySem.W.Frag} {mg : Str → Option Value} {base : Heap} {CM : Str → Option Addr}
theorem cal_none {T : Tb} {k i : Nat} {ds : List D} {h : AH} {fn : Fn} (hf : T.fns[i]? = some fn) (hn : cal T k i ds h ≠ none) : ds.length = fn.np := by
  cases k with
  | zero => exact absurd rfl hn
  | succ k =>
    simp only [cal, hf] at hn
    split at hn
    · assumption
    · exact absurd rfl hn
theorem fn_ok {T : Tb} {wd : Wd} {Fs : List FI} {fA : Nat → Addr} {fD : Nat → FuncData} (hlen : Fs.length = T.fns.length) (hwd : wd.fns = Fs.map fun F => (F.name, F.np)) (hok : ∀ (i : Nat) (F : FI) (fn : Fn), Fs[i]? = some F → T.fns[i]? = some fn → F.Ok fn wd)
    (hF : ∀ (i : Nat) (F : FI), Fs[i]? = some F → ∃ q : Str, Fun K F.name q F.st (fA i) (fD i) ∧ mg F.name = some (.ref (fA i)) ∧ Binds K (fD i) F.ps [])
    (hct : ∀ x d, wd.cts.lookup x = some d → ∃ (v : V) (u : Value), mg x = some u ∧ RelV v u ∧ ∀ H O, Rp K H O v d)
    (hbl : ∀ x, wd.blt.contains x = true → mg x = none) (hxc : wd.xcs = T.xcs) (hxs : XsOk P w K mg base CM T.xcs) :
    ∀ (k i : Nat) (F : FI), Fs[i]? = some F → FnOk P w K mg base (L2.CX P w) (k + 3) (fA i) (fD i) F.ps (spF K CM (cal T k i) F.np) ∧ mg F.name = some (.ref (fA i)) ∧ PySem.W.keepIn K (.ref (fA i)) = true ∧ Binds K (fD i) F.ps [] := by
  intro k
  induction k with
  | zero =>
    intro i F e
    obtain ⟨q, Ff, hm, hb⟩ := hF i F e
    have hi : i < T.fns.length := by rw [← hlen]; exact (List.getElem?_eq_some_iff.mp e).1
    have ok := hok i F _ e (List.getElem?_eq_getElem hi)
    refine ⟨⟨fun vs H Q E h => ?_, fun A outer s H args us vs Q E hr he hb hv hs => ?_⟩, hm, Ff.kp, hb⟩
    · have := h.1
      rw [this]
      unfold FI.ps
      rw [List.length_take]
      have := ok.np
      omega
    · obtain ⟨_, O, h, ds, _, _, _, z⟩ := hs
      exact z.elim
  | succ k ih =>
    intro i F e
    obtain ⟨q, Ff, hm, hb⟩ := hF i F e
    have hi : i < T.fns.length := by rw [← hlen]; exact (List.getElem?_eq_some_iff.mp e).1
    generalize hfn : T.fns[i] = fn
    have efn : T.fns[i]? = some fn := by rw [List.getElem?_eq_getElem hi, hfn]
    have ok := hok i F fn e efn
    have hpl : F.ps.length = F.np := by unfold FI.ps; rw [List.length_take]; have := ok.np; omega
    obtain ⟨n, hbody⟩ := ok.body
    refine ⟨Ff.okX ok.sc (fun vs H Q E h => ?_) (fun cdv A outer s H vs Q E hr hsp => ?_), hm, Ff.kp, hb⟩
    · rw [h.1, hpl]
    · have g : Gd CM (cal T k) F.I (fun cls d _ H => E cls d H) (cxOf (L2.CX P w) P w K mg base F.I.N q (defScope F.st) (fA i) cdv A outer s H E) := by
        refine ⟨rfl, ok.sc.nd, ok.is.symm, by rw [ok.is]; exact ok.sc.kind, rfl, ?_, takes_of rfl rfl rfl rfl, fun _ _ => rfl, fun _ _ => rfl, fun j x np hj => ?_, fun x d hx => ?_, fun x hx => ?_⟩
        · have := hr.un
          show (A.deeper _).units + 65 < cLine
          omega
        · rw [ok.wd, hwd, List.getElem?_map] at hj
          obtain ⟨F', e', e2⟩ := Option.map_eq_some_iff.mp hj
          cases e2
          obtain ⟨q1, q2, q3, q4⟩ := ih j F' e'
          refine ⟨k + 3, fA j, fD j, F'.ps, q1, hr, q2, q3, q4, fun ds h hn => ?_⟩
          have hj' : j < T.fns.length := by rw [← hlen]; exact (List.getElem?_eq_some_iff.mp e').1
          have ok' := hok j F' _ e' (List.getElem?_eq_getElem hj')
          rw [cal_none (List.getElem?_eq_getElem hj') hn, ok'.fnp]
        · rw [ok.wd] at hx; exact hct x d hx
        · rw [ok.wd] at hx; exact hbl x hx
      refine ⟨_, (sns T.xcs n).ss hbody g (by rw [ok.wd]; exact hxc) ⟨hxs, hr.mono (by omega), rfl, rfl, passes_of rfl⟩, ?_⟩
      obtain ⟨hvl, O, h, ds, hO, rh, rs, z⟩ := hsp
      have hdl : ds.length = F.np := by rw [← rs.length]; exact hvl
      refine ⟨startE fn.N.length ds, O, h, ?_, rh, ?_⟩
      · rw [ok.N]
        refine start_rep (h := h) rs hdl ok.np fun j hj => ?_
        have := List.all_eq_true.mp ok.own j (by simpa [In.ow] using hj)
        simpa using this
      · have ec : cal T (k + 1) i ds h = SR.end (exs (cal T k) T.xcs fn.body (startE fn.N.length ds) h) := by
          simp only [cal, efn]
          rw [if_pos (by rw [hdl, ok.fnp])]
        rw [ec] at z
        cases hr' : exs (cal T k) T.xcs fn.body (startE fn.N.length ds) h with
        | none => rw [hr'] at z; exact z
        | some r =>
          rw [hr'] at z
          cases r with
          | nx ρ h' => exact fun σ' H' O' st rh' re' => z .non H' (rO O') (rO_stepS (fun _ => rfl) st hO) (rh'.less rO_less) .non
          | rt d h' => exact fun v H' O' st rh' rv => z v H' (rO O') (rO_stepS (fun _ => rfl) st hO) (rh'.less rO_less) (rv.lessF rO_less.F)
          | bk ρ h' => exact z.elim
          | ct ρ h' => exact z.elim
          | ex c fs ρ h' => exact fun cls dd σ' H' O' st rh' re' xr => z cls dd H' (rO O') (rO_stepS (fun _ => rfl) st hO) (rh'.less rO_less) (xr.lessF rO_less.F)
end
/-- the law's promise: no exception -/
def spL (K : PySem.W.Frag) (c : List D → M D) : Sp := fun vs H Q _ => vs.length = 1 ∧ ∃ (O : OM) (h : AH) (ds : List D), (∀ n, O (.slot n) = none) ∧ RepH K H O h ∧ Rps K H O vs ds ∧ match c ds h with
  | some (.ok d h') => ∀ v H' O', Step O H O' H' → RepH K H' O' h' → Rp K H' O' v d → Q v H'
  | _ => False
theorem law_sp {K : PySem.W.Frag} {c : List D → M D} {H : Hp} {a : Addr} {ns : List Int} (hO : Only H) (hS : SqL K H a (ns.map V.int)) {h : AH} (e : c [.fz (ns.map D.int)] [] = some (.ok (.bl true) h)) :
    spL K c [.ref a] H (fun v _ => v = .bl true) fun _ _ _ => False := by
  refine ⟨rfl, fun _ => none, [], [.fz (ns.map D.int)], fun _ => rfl, ⟨fun _ _ _ e _ => (nomatch e), fun _ _ e => by simp at e, fun _ _ e => (nomatch e), fun _ _ e => (nomatch e), fun _ _ e => (nomatch e)⟩, .cons (.fz (vs := ns.map V.int) ?_ ?_) .nil, ?_⟩
  · rcases hS with (hS | ⟨o, hS⟩) | hS
    · rcases hO a with q | ⟨o, xs, q⟩
      · rw [q] at hS; cases hS
      · rw [q] at hS; cases hS
    · exact .inl ⟨o, hS, fun _ e => (nomatch e)⟩
    · exact .inr hS
  · induction ns with
    | nil => exact .nil
    | cons n ns ih =>
      have key : ∀ l : List Int, Rps K H (fun _ => none) (l.map V.int) (l.map D.int) := fun l => by
        induction l with
        | nil => exact .nil
        | cons x l ih => exact .cons (.int _) ih
      exact key _
  · rw [e]
    intro v H' O' _ _ r
    cases r
    rfl
theorem cx_none {P : Program} {w : World} {H : Hp} {s : Shared} {e : Value} {s' : Shared} (h : L2.CX P w [] H s (fun _ _ _ => False) e s') : False := by
  obtain ⟨_, _, _, _, _, _, _, _, _, _, _, _, z⟩ := h
  exact z
/-- where a def stands -/
def DefIn (K : PySem.W.Frag) (mg : Str → Option Value) (F : FI) (f : Addr) (fd : FuncData) : Prop := (∃ q, Fun K F.name q F.st f fd) ∧ mg F.name = some (.ref f) ∧ ∀ us : List Value, us.length = F.ps.length → bindArgs fd ⟨us, []⟩ = pure (F.ps.zip us)
theorem def_mk {K : PySem.W.Frag} {h : Heap} {mg : Str → Option Value} (KX : K.In h) (G : h.Ns mainGlobals mg) {F : FI} (x : Str) (st : Stmt) (hx : F.name = x) (hst : F.st = st)
    (hb : ∀ (kV doc pm : Value) (an : Option Addr) (cdv ct : Value) (us : List Value), us.length = F.ps.length → bindArgs (PySem.W.fnOf x x (defArgs st) (defBody st) (defScope st) .none kV doc pm an cdv ct) ⟨us, []⟩ = pure (F.ps.zip us))
    {f : Addr} {od an : Option Addr} {sl : Array (Option Value)} {oc kV dc pm cd ct : Value}
    (a : PySem.W.nsIn K mainGlobals x = some (some (.ref f))) (l : K.lookup f = some ⟨oc, od, .func (PySem.W.fnOf x x (defArgs st) (defBody st) (defScope st) .none kV dc pm an cd ct), sl⟩) (c : PySem.W.codeIn K cd x = true) (k : PySem.W.keepIn K (.ref f) = true) :
    ∃ (f : Addr) (fd : FuncData), DefIn K mg F f fd := by
  subst hx; subst hst
  exact ⟨f, _, ⟨_, fun_mk l c k⟩, PySem.W.mg_of KX G a, hb kV dc pm an cd ct⟩
theorem law_end {P : Program} {w : World} {K : PySem.W.Frag} {mg : Str → Option Value} {T : Tb} {wd : Wd} {Fs : List FI} (hlen : Fs.length = T.fns.length) (hwd : wd.fns = Fs.map fun F => (F.name, F.np)) (hok : ∀ (i : Nat) (F : FI) (fn : Fn), Fs[i]? = some F → T.fns[i]? = some fn → F.Ok fn wd)
    {k iL : Nat} {FL : FI} {x : Str} {fa : Addr} (hL : Fs[iL]? = some FL) (hps : FL.ps = [x]) (hnp : FL.np = 1) (hfa : mg FL.name = some (.ref fa))
    (hct : ∀ x d, wd.cts.lookup x = some d → ∃ (v : V) (u : Value), mg x = some u ∧ RelV v u ∧ ∀ H O, Rp K H O v d)
    (hbl : ∀ x, wd.blt.contains x = true → mg x = none)
    (hd : ∀ (i : Nat) (F : FI), Fs[i]? = some F → ∃ f fd, DefIn K mg F f fd) (hxc : wd.xcs = T.xcs) (hxs : ∃ CM : Str → Option Addr, ∀ base : Heap, K.In base → base.Ns mainGlobals mg → XsOk P w K mg base CM T.xcs) :
    ∃ fd : FuncData, (∀ (s : Shared) (u : Value), BindsTo s fd ⟨[u], []⟩ [(x, u)]) ∧ ∀ base : Heap, K.In base → base.Ns mainGlobals mg → FnOk P w K mg base (L2.CX P w) (k + 3) fa fd [x] (spL K (cal T k iL)) := by
  have h1 : ∀ i : Nat, ∃ p : Addr × FuncData, ∀ F, Fs[i]? = some F → DefIn K mg F p.1 p.2 := fun i => by
    cases e : Fs[i]? with
    | none => exact ⟨⟨0, default⟩, fun F h => nomatch h⟩
    | some F =>
      obtain ⟨f, fd, q⟩ := hd i F e
      exact ⟨(f, fd), fun F' h => by cases h; exact q⟩
  obtain ⟨g, hg⟩ := Classical.axiomOfChoice h1
  obtain ⟨CM, hxs⟩ := hxs
  refine ⟨(g iL).2, fun s u => ?_, fun base hKb hNb => ?_⟩
  · have := (hg iL FL hL).2.2 [u] (by rw [hps]; rfl)
    rw [hps] at this
    exact .of_eq this
  · have e1 := (hg iL FL hL).2.1
    rw [hfa] at e1
    have e2 : fa = (g iL).1 := by cases e1; rfl
    have := (fn_ok (P := P) (w := w) (base := base) (CM := CM) (fA := fun i => (g i).1) (fD := fun i => (g i).2) hlen hwd hok (fun i F e => by
      obtain ⟨⟨q, hq⟩, hm, hb⟩ := hg i F e
      exact ⟨q, hq, hm, .all hb⟩) hct hbl hxc (hxs base hKb hNb) k iL FL hL).1
    rw [hps, hnp, ← e2] at this
    refine this.imp fun vs H Q E ⟨h1, O, h, ds, h2, h3, h4, z⟩ => ⟨h1, O, h, ds, h2, h3, h4, ?_⟩
    cases q : cal T k iL ds h with
    | none => rw [q] at z; exact z
    | some r =>
      rw [q] at z
      cases r with
      | ok d h' => exact z
      | exc c fs h' => exact z.elim
/-! ### the classes -/
theorem xs_nil {P : Program} {w : World} {K : PySem.W.Frag} {mg : Str → Option Value} : ∃ CM : Str → Option Addr, ∀ base : Heap, K.In base → base.Ns mainGlobals mg → XsOk P w K mg base CM [] :=
  ⟨fun _ => none, fun _ _ _ => ⟨fun _ h => (nomatch h), fun _ h => (nomatch h), fun _ _ h => (nomatch h)⟩⟩
/-- a class's address by its place -/
def cmOf : List XC → List Addr → Str → Option Addr
  | k :: G, C :: Cs, x => if k.name = x then some C else cmOf G Cs x
  | _, _, _ => none
theorem cmOf_some : ∀ {G : List XC} {Cs : List Addr} {x : Str} {C : Addr}, cmOf G Cs x = some C → ∃ (i : Nat) (k : XC), G[i]? = some k ∧ Cs[i]? = some C ∧ k.name = x
  | [], _, _, _, h => by simp [cmOf] at h
  | _ :: _, [], _, _, h => by simp [cmOf] at h
  | k :: G, C0 :: Cs, x, C, h => by
    simp only [cmOf] at h
    split at h
    · rename_i e; cases h; exact ⟨0, k, rfl, rfl, e⟩
    · obtain ⟨i, k', h1, h2, h3⟩ := cmOf_some h
      exact ⟨i + 1, k', by simpa using h1, by simpa using h2, h3⟩
theorem cmOf_at : ∀ {G : List XC} {Cs : List Addr} {i : Nat} {k : XC} {C : Addr}, (G.map (·.name)).Nodup → G[i]? = some k → Cs[i]? = some C → cmOf G Cs k.name = some C
  | [], _, _, _, _, _, h, _ => by simp at h
  | _ :: _, [], _, _, _, _, _, h => by simp at h
  | k0 :: G, C0 :: Cs, 0, k, C, _, h1, h2 => by
    simp at h1 h2; subst h1; subst h2
    simp [cmOf]
  | k0 :: G, C0 :: Cs, i + 1, k, C, nd, h1, h2 => by
    simp only [List.getElem?_cons_succ] at h1 h2
    simp only [List.map_cons, List.nodup_cons] at nd
    simp only [cmOf]
    rw [if_neg (fun e => nd.1 (by rw [e]; exact List.mem_map_of_mem (List.mem_of_getElem? h1)))]
    exact cmOf_at nd.2 h1 h2
/-- the classes of the exceptions, by what is to be seen of each -/
theorem xs_mk {P : Program} {w : World} {K : PySem.W.Frag} {mg : Str → Option Value} {G : List XC} (Cs : List Addr) (hl : Cs.length = G.length) (nd : (G.map (·.name)).Nodup)
    (ha : ∀ (i : Nat) (k : XC) (C : Addr), G[i]? = some k → Cs[i]? = some C → ∀ base : Heap, K.In base → base.Ns mainGlobals mg → ∀ CM : Str → Option Addr, CM k.name = some C → XcAt P w K mg base CM k C)
    (he : ∀ (i j : Nat) (k m : XC) (C D : Addr), G[i]? = some k → Cs[i]? = some C → G[j]? = some m → Cs[j]? = some D → PySem.W.exmOne K (.ref C) (.ref D) = some (takes G k.name m.name)) :
    ∃ CM : Str → Option Addr, ∀ base : Heap, K.In base → base.Ns mainGlobals mg → XsOk P w K mg base CM G := by
  refine ⟨cmOf G Cs, fun base h1 h2 => ⟨fun k hk => ?_, fun k hk m hm C D e1 e2 => ?_, fun c C e => ?_⟩⟩
  · obtain ⟨i, hi, e⟩ := List.getElem_of_mem hk
    have hi' : i < Cs.length := by omega
    have eg : G[i]? = some k := by rw [List.getElem?_eq_getElem hi, e]
    have ec : Cs[i]? = some Cs[i] := List.getElem?_eq_getElem hi'
    exact ⟨Cs[i], ha i k _ eg ec base h1 h2 _ (cmOf_at nd eg ec)⟩
  · obtain ⟨i, k', g1, c1, n1⟩ := cmOf_some e1
    obtain ⟨j, m', g2, c2, n2⟩ := cmOf_some e2
    rw [← n1, ← n2]
    exact he i j k' m' C D g1 c1 g2 c2
  · obtain ⟨i, k', g1, c1, n1⟩ := cmOf_some e
    exact ⟨k', List.mem_of_getElem? g1, n1⟩
section
variable {P : Program} {w : World} {K : PySem.W.Frag} {mg : Str → Option Value} {base : Heap}
/-- an __init__ that stores its one parameter -/
theorem init1 {q f : Str} {st : Stmt} {fI C : Addr} {fd : FuncData} {p1 p2 p3 p4 : Pos} (F : Fun K "__init__" q st fI fd) (S : FnScope ["self", f] ["self", f] (defScope st)) (hb : defBody st = [.Assign [.Attribute (.Name "self" p1) f p2] (.Name f p3) p4])
    (hf1 : (f == ("__debug__" : Str)) = false) (hf2 : (f == ("__classdict__" : Str)) = false) (ox : OexC K C) (hno : PySem.W.findIn K (.ref C) f = some none) : FnOk P w K mg base (L2.CX P w) 1 fI fd ["self", f] (spI C [f]) := by
  refine F.okX S (fun vs H Q E h => ?_) (fun cdv A outer s H vs Q E hr h => ?_)
  · obtain ⟨a, ys, rfl, hl, _⟩ := h
    simp only [List.length_cons, List.length_nil] at hl ⊢
    rw [hl]
  · obtain ⟨a, ys, rfl, hl, ea, hq⟩ := h
    match ys, hl with
    | [y], _ =>
      rw [hb]
      have vis : ∀ x ∈ (["self", f] : List Str), Vis (defScope st) x := fun x hx => (S.par x hx).elim .inl fun z => .inr (.inl z)
      refine ⟨_, pss_one (ps_ost (pe_var (i := 0) rfl (vis "self" (by simp)) (by decide) (by decide)) (pe_var (i := 1) rfl (vis f (by simp)) hf1 hf2) rfl), ?_⟩
      refine ⟨y, rfl, .ref a, rfl, a, C, rfl, ox, hno, .inl ⟨ea, fun d hd hne => ?_⟩⟩
      refine hq d _ hd hne upd_same ?_ fun b hb1 hb2 => ?_
      · rw [upd_ne hne, upd_same]; rfl
      · rw [upd_ne hb1, upd_ne hb2]
/-- .. its two parameters -/
theorem init2 {q f g : Str} {st : Stmt} {fI C : Addr} {fd : FuncData} {p1 p2 p3 p4 p5 p6 p7 p8 : Pos} (F : Fun K "__init__" q st fI fd) (S : FnScope ["self", f, g] ["self", f, g] (defScope st)) (hb : defBody st = [.Assign [.Attribute (.Name "self" p1) f p2] (.Name f p3) p4, .Assign [.Attribute (.Name "self" p5) g p6] (.Name g p7) p8])
    (hf1 : (f == ("__debug__" : Str)) = false) (hf2 : (f == ("__classdict__" : Str)) = false) (hg1 : (g == ("__debug__" : Str)) = false) (hg2 : (g == ("__classdict__" : Str)) = false) (ox : OexC K C) (hno : PySem.W.findIn K (.ref C) f = some none) (hno2 : PySem.W.findIn K (.ref C) g = some none) : FnOk P w K mg base (L2.CX P w) 1 fI fd ["self", f, g] (spI C [f, g]) := by
  refine F.okX S (fun vs H Q E h => ?_) (fun cdv A outer s H vs Q E hr h => ?_)
  · obtain ⟨a, ys, rfl, hl, _⟩ := h
    simp only [List.length_cons, List.length_nil] at hl ⊢
    rw [hl]
  · obtain ⟨a, ys, rfl, hl, ea, hq⟩ := h
    match ys, hl with
    | [y, z], _ =>
      rw [hb]
      have vis : ∀ x ∈ (["self", f, g] : List Str), Vis (defScope st) x := fun x hx => (S.par x hx).elim .inl fun z => .inr (.inl z)
      refine ⟨_, pss_cons (ps_ost (pe_var (i := 0) rfl (vis "self" (by simp)) (by decide) (by decide)) (pe_var (i := 1) rfl (vis f (by simp)) hf1 hf2) rfl)
        (pss_one (ps_ost (pe_var (i := 0) rfl (vis "self" (by simp)) (by decide) (by decide)) (pe_var (i := 2) rfl (vis g (by simp)) hg1 hg2) rfl)), ?_⟩
      refine ⟨y, rfl, .ref a, rfl, a, C, rfl, ox, hno, .inl ⟨ea, fun d hd hne => ?_⟩⟩
      refine ⟨z, rfl, .ref a, rfl, a, C, rfl, ox, hno2, .inr ⟨d, _, upd_same, by rw [upd_ne hne, upd_same], (by show 1 ≤ 900; decide), ?_⟩⟩
      refine hq d _ hd hne (by rw [upd_ne (Ne.symm hne), upd_same]) (by rw [upd_same]; rfl) fun b hb1 hb2 => ?_
      rw [upd_ne hb2, upd_ne hb1, upd_ne hb2]
end
/-- a module's tuple of texts, ints -/
theorem ct_tup {K : PySem.W.Frag} {h : Heap} {mg : Str → Option Value} (KX : K.In h) (G : h.Ns mainGlobals mg) {x : Str} {xs : List V} {ds : List D} {a : Addr} {dd : Option Addr} {its : Array Value} {n : Nat} {sl : Array (Option Value)}
    (ha : PySem.W.nsIn K mainGlobals x = some (some (.ref a))) (l : K.lookup a = some ⟨.type "tuple", dd, .seq its n, sl⟩) (hz : its.size ≤ sizeLine) (hv : Vals xs its.toList) (r : ∀ {H : Hp} {O : OM}, Rps K H O xs ds) :
    ∃ (v : V) (u : Value), mg x = some u ∧ RelV v u ∧ ∀ H O, Rp K H O v (.tup ds) :=
  ⟨.ref a, .ref a, PySem.W.mg_of KX G ha, rfl, fun H O => .tup (.inr ⟨_, its, n, l, rfl, rfl, hz, hv⟩) r⟩
theorem ct_all {K : PySem.W.Frag} {h : Heap} {mg : Str → Option Value} (_KX : K.In h) {cts : List (Str × D)} (z : ∀ p ∈ cts, ∃ (v : V) (u : Value), mg p.1 = some u ∧ RelV v u ∧ ∀ H O, Rp K H O v p.2) :
    ∀ x d, cts.lookup x = some d → ∃ (v : V) (u : Value), mg x = some u ∧ RelV v u ∧ ∀ H O, Rp K H O v d := fun x d e => z (x, d) (PySem.mem_of_lookup e)
end Mi

set_option Elab.async false
set_option linter.all false
set_option maxRecDepth 100000
set_option maxHeartbeats 4000000
/-! Mi: running it by simp. -/
namespace Mi
open PySem
/-- a lock: what it holds is not simplified -/
inductive Bx {α : Type} (a : α) : Type
  | mk
def bdz {α β : Type} (r : Option (ER α)) (f : α → M β) (_ : Bx f) : Option (ER β) := M.bd r f
def sbdz {α : Type} (ρ : Env) (r : Option (ER α)) (f : α → AH → Option SR) (_ : Bx f) : Option SR := SR.bd ρ r f
def sqz (r : Option SR) (f : Env → AH → Option SR) (_ : Bx f) : Option SR := SR.sq r f
def tnz (r : Option SR) (f : Env → AH → Option SR) (_ : Bx f) : Option SR := SR.tn r f
section
variable {α β : Type} {a : α} {h : AH} {c : Str} {fs : List (Str × D)} {ρ : Env} {d : D}
theorem z_bind {x : M α} {f : α → M β} : M.bind x f h = bdz (x h) f .mk := rfl
theorem z_bd {r : Option (ER α)} {f : α → M β} : M.bd r f = bdz r f .mk := rfl
theorem z_sbd {r : Option (ER α)} {f : α → AH → Option SR} : SR.bd ρ r f = sbdz ρ r f .mk := rfl
theorem z_sq {r : Option SR} {f : Env → AH → Option SR} : SR.sq r f = sqz r f .mk := rfl
theorem z_tn {r : Option SR} {f : Env → AH → Option SR} : SR.tn r f = tnz r f .mk := rfl
theorem z_ite {γ δ : Type} {p : Prop} [Decidable p] {f g : γ → δ} {x : γ} : (if p then f else g) x = if p then f x else g x := by split <;> rfl
theorem bdz_ok {f : α → M β} {u : Bx f} : bdz (some (.ok a h)) f u = f a h := rfl
theorem bdz_exc {f : α → M β} {u : Bx f} : bdz (some (.exc c fs h)) f u = some (.exc c fs h) := rfl
theorem sbdz_ok {f : α → AH → Option SR} {u : Bx f} : sbdz ρ (some (.ok a h)) f u = f a h := rfl
theorem sbdz_exc {f : α → AH → Option SR} {u : Bx f} : sbdz ρ (some (.exc c fs h)) f u = some (.ex c fs ρ h) := rfl
variable {f : Env → AH → Option SR} {u : Bx f}
theorem sqz_nx : sqz (some (.nx ρ h)) f u = f ρ h := rfl
theorem sqz_rt : sqz (some (.rt d h)) f u = some (.rt d h) := rfl
theorem sqz_bk : sqz (some (.bk ρ h)) f u = some (.bk ρ h) := rfl
theorem sqz_ct : sqz (some (.ct ρ h)) f u = some (.ct ρ h) := rfl
theorem sqz_ex : sqz (some (.ex c fs ρ h)) f u = some (.ex c fs ρ h) := rfl
theorem tnz_nx : tnz (some (.nx ρ h)) f u = f ρ h := rfl
theorem tnz_rt : tnz (some (.rt d h)) f u = some (.rt d h) := rfl
theorem tnz_bk : tnz (some (.bk ρ h)) f u = some (.nx ρ h) := rfl
theorem tnz_ct : tnz (some (.ct ρ h)) f u = f ρ h := rfl
theorem tnz_ex : tnz (some (.ex c fs ρ h)) f u = some (.ex c fs ρ h) := rfl
end
/-! loops, comprehensions, under names of their own -/
section
variable (C : Nat → List D → M D) (G : List XC)
def runW (c : ME) (b : MSs) (ρ : Env) (h : AH) : Option SR := whlL (tst C c) (exs C G b) ρ h
def turn (t : Tg) (b : MSs) (x : D) (ρ : Env) (h : AH) : Option SR := match t.set x ρ with
  | some ρ2 => exs C G b ρ2 h
  | none => none
def runF (t : Tg) (b : MSs) (xs : List D) (ρ : Env) (h : AH) : Option SR := forL (turn C G t b) xs ρ h
def kFor (t : Tg) (b : MSs) (ρ : Env) (xs : List D) (h : AH) : Option SR := runF C G t b xs ρ h
def runC (elt : ME) (tg : Tg) (cs : MEs) (own : List Nat) (ρ : Env) (xs : List D) (h : AH) : Option (ER (List D)) := lcM (stepM C own tg cs elt ρ) xs h
def kComp (elt : ME) (tg : Tg) (cs : MEs) (own : List Nat) (ρ : Env) : List D → M D := fun xs => if xs.length ≤ sizeLine then M.bind (lcM (stepM C own tg cs elt ρ) xs) fun ys => M.ret (.lst ys) else M.no
variable {C G} {c : ME} {b : MSs} {t : Tg} {it : MI} {ρ : Env} {h : AH} {xs : List D} {elt : ME} {cs : MEs} {own : List Nat} {x : D}
theorem exc_whl : exc C G (.whl c b) ρ h = runW C G c b ρ h := by simp only [exc, runW]
theorem exc_for : exc C G (.for t it b) ρ h = SR.bd ρ (evi C it ρ h) (kFor C G t b ρ) := by simp only [exc]; rfl
theorem kFor_ok : kFor C G t b ρ xs h = runF C G t b xs ρ h := rfl
theorem runF_nil : runF C G t b [] ρ h = some (.nx ρ h) := rfl
theorem runF_cons : runF C G t b (x :: xs) ρ h = SR.tn (turn C G t b x ρ h) fun ρ' h' => runF C G t b xs ρ' h' := rfl
theorem turn_name {i : Nat} : turn C G (.name i) b x ρ h = exs C G b (ρ.set i (some x)) h := rfl
theorem turn_tup {is : List Nat} {ds : List D} {ρ2 : Env} (e : setAll is ds ρ = some ρ2) : turn C G (.tup is) b (.tup ds) ρ h = exs C G b ρ2 h := by
  unfold turn
  show (match setAll is ds ρ with | some ρ2 => exs C G b ρ2 h | none => none) = _
  rw [e]
theorem ev_comp : ev C (.comp elt t it cs own) ρ h = M.bd (evi C it ρ h) (kComp C elt t cs own ρ) := by rw [comp_ev]; rfl
theorem kComp_ok (hl : xs.length ≤ sizeLine) : kComp C elt t cs own ρ xs h = M.bd (runC C elt t cs own ρ xs h) fun ys => M.ret (.lst ys) := by
  unfold kComp
  rw [if_pos hl]
  rfl
theorem runW_out {h' : AH} (e : tst C c ρ h = some (.ok false h')) : runW C G c b ρ h = some (.nx ρ h') := by unfold runW; rw [whlL, e]
theorem runW_in {ρ' : Env} {h' h'' : AH} (e : tst C c ρ h = some (.ok true h')) (e2 : exs C G b ρ h' = some (.nx ρ' h'')) : runW C G c b ρ h = runW C G c b ρ' h'' := by unfold runW; rw [whlL, e]; simp only [e2]
theorem runW_ct {ρ' : Env} {h' h'' : AH} (e : tst C c ρ h = some (.ok true h')) (e2 : exs C G b ρ h' = some (.ct ρ' h'')) : runW C G c b ρ h = runW C G c b ρ' h'' := by unfold runW; rw [whlL, e]; simp only [e2]
theorem runW_bk {ρ' : Env} {h' h'' : AH} (e : tst C c ρ h = some (.ok true h')) (e2 : exs C G b ρ h' = some (.bk ρ' h'')) : runW C G c b ρ h = some (.nx ρ' h'') := by unfold runW; rw [whlL, e]; simp only [e2]
theorem runW_rt {d : D} {h' h'' : AH} (e : tst C c ρ h = some (.ok true h')) (e2 : exs C G b ρ h' = some (.rt d h'')) : runW C G c b ρ h = some (.rt d h'') := by unfold runW; rw [whlL, e]; simp only [e2]
end
theorem get_zero {x : Option D} {ρ : Env} : Env.get (x :: ρ) 0 = x := by cases x <;> rfl
theorem get_succ {x : Option D} {ρ : Env} {n : Nat} : Env.get (x :: ρ) (n + 1) = Env.get ρ n := rfl
theorem Tg.set_name {i : Nat} {d : D} {ρ : Env} : Tg.set (.name i) d ρ = some (ρ.set i (some d)) := rfl
theorem Tg.set_tup {is : List Nat} {ds : List D} {ρ : Env} : Tg.set (.tup is) (.tup ds) ρ = setAll is ds ρ := rfl
/-! values -/
theorem eq_ints {i j : Int} : D.cop .eq (.int i) (.int j) = some (decide (i = j)) := rfl
theorem ne_ints {i j : Int} : D.cop .ne (.int i) (.int j) = some (!decide (i = j)) := rfl
theorem lt_ints {i j : Int} : D.cop .lt (.int i) (.int j) = some (decide (i < j)) := rfl
theorem le_ints {i j : Int} : D.cop .le (.int i) (.int j) = some (decide (i ≤ j)) := rfl
theorem gt_ints {i j : Int} : D.cop .gt (.int i) (.int j) = some (decide (j < i)) := rfl
theorem ge_ints {i j : Int} : D.cop .ge (.int i) (.int j) = some (decide (j ≤ i)) := rfl
theorem add_ints {i j : Int} : D.bop .add (.int i) (.int j) = some (.int (i + j)) := rfl
theorem sub_ints {i j : Int} : D.bop .sub (.int i) (.int j) = some (.int (i - j)) := rfl
theorem mul_ints {i j : Int} (h : mulOk i j = true) : D.bop .mul (.int i) (.int j) = some (.int (i * j)) := if_pos h
theorem fdiv_ints {i j : Int} (h : divOk j = true) : D.bop .fdiv (.int i) (.int j) = some (.int (i.fdiv j)) := if_pos h
theorem mod_ints {i j : Int} (h : j ≠ 0) : D.bop .mod (.int i) (.int j) = some (.int (i.fmod j)) := if_pos (decide_eq_true h)
theorem pow_ints {i j : Int} (h : powOk i j = true) : D.bop .pow (.int i) (.int j) = some (.int (i ^ j.toNat)) := if_pos h
theorem mulOk_r {i j : Int} (h : j.natAbs < 2 ^ 64) : mulOk i j = true := by
  unfold mulOk
  rw [decide_eq_true h]
  simp
theorem mulOk_l {i j : Int} (h : i.natAbs < 2 ^ 64) : mulOk i j = true := by
  unfold mulOk
  rw [decide_eq_true h]
  simp
theorem divOk_of {j : Int} (h0 : j ≠ 0) (h : j.natAbs < 2 ^ 64) : divOk j = true := by
  unfold divOk
  rw [decide_eq_true h0, Bool.true_and, decide_eq_true_eq]
  have : j.natAbs.log2 < 64 := (Nat.log2_lt (by omega)).mpr h
  omega
theorem truthy_bl {b : Bool} {h : AH} : Mi.truthy (.bl b) h = some (.ok b h) := rfl
theorem truthy_int {i : Int} {h : AH} : Mi.truthy (.int i) h = some (.ok (i != 0) h) := rfl
theorem bi_int {i : Int} {h : AH} : biOf .int [.int i] h = some (.ok (.int i) h) := rfl
theorem bi_abs {i : Int} {h : AH} : biOf .abs [.int i] h = some (.ok (.int (i.natAbs : Int)) h) := by
  show some (ER.ok (D.int (if i < 0 then -i else i)) h) = _
  congr 3
  split <;> omega
theorem isi_def {C : Nat → List D → M D} {a : ME} {ts : List Ty} {ρ : Env} : ev C (.isi a ts) ρ = M.bind (ev C a ρ) fun x => fun h => (isAny x ts h).map fun b => .ok (.bl b) h := isi_ev
theorem bi_max2 {i j : Int} {h : AH} : biOf .max2 [.int i, .int j] h = some (.ok (.int (if j > i then j else i)) h) := rfl
theorem bi_min2 {i j : Int} {h : AH} : biOf .min2 [.int i, .int j] h = some (.ok (.int (if j < i then j else i)) h) := rfl
theorem bi_len_fz {ds : List D} {h : AH} : biOf .len [.fz ds] h = some (.ok (.int ds.length) h) := rfl
theorem bi_len_lst {ds : List D} {h : AH} : biOf .len [.lst ds] h = some (.ok (.int ds.length) h) := rfl
theorem bi_len_tup {ds : List D} {h : AH} : biOf .len [.tup ds] h = some (.ok (.int ds.length) h) := rfl
theorem bi_repr {b : Bool} {h : AH} : biOf .repr [.bl b] h = some (.ok (.str (if b then "True" else "False")) h) := rfl
theorem ix_lst {ds : List D} {k : Int} : D.ix (.lst ds) (.int k) = L2.atI ds k := rfl
theorem ix_tup {ds : List D} {k : Int} : D.ix (.tup ds) (.int k) = L2.atI ds k := rfl
theorem ix_fz {ds : List D} {k : Int} : D.ix (.fz ds) (.int k) = L2.atI ds k := rfl
theorem cutOf_tup {ds : List D} {l u : Option Int} : cutOf (.tup ds) l u = some (.tup (cutD ds l u)) := rfl
theorem part_nil : part? [] = some none := rfl
theorem part_int {i : Int} : part? [.int i] = some (some i) := rfl
theorem items_lst {ds : List D} : items? (.lst ds) = some ds := rfl
theorem items_tup {ds : List D} : items? (.tup ds) = some ds := rfl
theorem items_fz {ds : List D} : items? (.fz ds) = some ds := rfl
theorem isnt_bl {b c : Bool} : D.cop .isnt (.bl c) (.bl b) = some (!(c == b)) := rfl
theorem is_bl {b c : Bool} : D.cop .is (.bl c) (.bl b) = some (c == b) := rfl
theorem ne_strs {x y : Str} : D.cop .ne (.str x) (.str y) = some (!decide (x = y)) := rfl
theorem eq_strs {x y : Str} : D.cop .eq (.str x) (.str y) = some (decide (x = y)) := rfl
/-! the bag of four -/
section
variable {a b c d x : D}
theorem at4_0 : L2.atI [a, b, c, d] 0 = some a := rfl
theorem at4_1 : L2.atI [a, b, c, d] 1 = some b := rfl
theorem at4_2 : L2.atI [a, b, c, d] 2 = some c := rfl
theorem at4_3 : L2.atI [a, b, c, d] 3 = some d := rfl
theorem set4_0 : setIx (.lst [a, b, c, d]) (.int 0) x = some (.lst [x, b, c, d]) := rfl
theorem set4_1 : setIx (.lst [a, b, c, d]) (.int 1) x = some (.lst [a, x, c, d]) := rfl
theorem set4_2 : setIx (.lst [a, b, c, d]) (.int 2) x = some (.lst [a, b, x, d]) := rfl
theorem set4_3 : setIx (.lst [a, b, c, d]) (.int 3) x = some (.lst [a, b, c, x]) := rfl
end
section
variable {a b c x : D}
theorem at3_0 : L2.atI [a, b, c] 0 = some a := rfl
theorem at3_1 : L2.atI [a, b, c] 1 = some b := rfl
theorem at3_2 : L2.atI [a, b, c] 2 = some c := rfl
theorem set3_0 : setIx (.lst [a, b, c]) (.int 0) x = some (.lst [x, b, c]) := rfl
theorem set3_1 : setIx (.lst [a, b, c]) (.int 1) x = some (.lst [a, x, c]) := rfl
theorem set3_2 : setIx (.lst [a, b, c]) (.int 2) x = some (.lst [a, b, x]) := rfl
end
theorem heap_set {h : AH} {r : Nat} {o o' : AO} (e : h[r]? = some o) : (h.set r o')[r]? = some o' := List.getElem?_set_self (List.getElem?_eq_some_iff.mp e).1
theorem atI_nat {α : Type} {l : List α} {i : Int} {x : α} (h0 : 0 ≤ i) (h : l[i.toNat]? = some x) : L2.atI l i = some x := by
  have := (List.getElem?_eq_some_iff.mp h).1
  unfold L2.atI L2.ixN
  rw [if_pos h0, if_pos (by omega)]
  exact h
end Mi

set_option Elab.async false
set_option linter.all false
set_option maxRecDepth 100000
set_option maxHeartbeats 4000000
/-! Mi: the laws' own draws. -/
namespace Mi
open PySem
/-- few bits -/
def Bl (x : Int) (n : Nat) : Prop := x.natAbs < 2 ^ n
theorem Bl.mono {x : Int} {n m : Nat} (h : Bl x n) (hm : n ≤ m) : Bl x m := Nat.lt_of_lt_of_le h (Nat.pow_le_pow_right (by decide) hm)
theorem Bl.mul {x y : Int} {n m : Nat} (h : Bl x n) (k : Bl y m) : Bl (x * y) (n + m) := by
  unfold Bl at *
  rw [Int.natAbs_mul, Nat.pow_add]
  exact Nat.mul_lt_mul'' h k
theorem Bl.add {x y : Int} {n : Nat} (h : Bl x n) (k : Bl y n) : Bl (x + y) (n + 1) := by
  unfold Bl at *
  rw [Nat.pow_succ]
  have := Int.natAbs_add_le x y
  omega
theorem Bl.neg {x : Int} {n : Nat} (h : Bl x n) : Bl (-x) n := by unfold Bl at *; rwa [Int.natAbs_neg]
theorem Bl.abs {x : Int} {n : Nat} (h : Bl x n) : Bl (x.natAbs : Int) n := by unfold Bl at *; rwa [Int.natAbs_natCast]
theorem Bl.le {x y : Int} {n : Nat} (h : Bl y n) (k : x.natAbs ≤ y.natAbs) : Bl x n := Nat.lt_of_le_of_lt k h
theorem Bl.log {x : Int} {n : Nat} (h : Bl x n) : x.natAbs.log2 ≤ n := by
  unfold Bl at h
  by_cases z : x.natAbs = 0
  · rw [z]; simp
  · exact Nat.le_of_lt ((Nat.log2_lt z).mpr h)
theorem mulOk_bl {x y : Int} {n m : Nat} (h : Bl x n) (k : Bl y m) (hn : n + m < 1000000) : mulOk x y = true := by
  unfold mulOk
  have h1 := h.log
  have h2 := k.log
  rw [decide_eq_true (show x.natAbs.log2 + y.natAbs.log2 < 1000000 by omega), Bool.or_true]
theorem divOk_bl {y : Int} {n : Nat} (h0 : y ≠ 0) (h : Bl y n) (hn : n < 9000) : divOk y = true := by
  unfold divOk
  have h1 := h.log
  rw [decide_eq_true h0, decide_eq_true (show y.natAbs.log2 < 9000 by omega)]
  rfl
/-- a bag of four ints -/
def Bag4 (h : AH) (r : Nat) : Prop := ∃ a b c d : Int, h[r]? = some (.lst [.int a, .int b, .int c, .int d])
/-- what a draw leaves -/
structure Aft (B : AH → Nat → Prop) (h : AH) (r : Nat) (h' : AH) : Prop where
  bag : B h' r
  len : h'.length = h.length
  rest : ∀ j, j ≠ r → h'[j]? = h[j]?
theorem Aft.set {h : AH} {r : Nat} (b : Bag4 h r) (w x y z : Int) : Aft Bag4 h r (h.set r (.lst [.int w, .int x, .int y, .int z])) := by
  obtain ⟨a, b, c, d, e⟩ := b
  exact ⟨⟨w, x, y, z, heap_set e⟩, List.length_set, fun j hj => List.getElem?_set_ne (Ne.symm hj)⟩
theorem Aft.trans {B : AH → Nat → Prop} {h h1 h2 : AH} {r : Nat} (a : Aft B h r h1) (b : Aft B h1 r h2) : Aft B h r h2 := ⟨b.bag, b.len.trans a.len, fun j hj => (b.rest j hj).trans (a.rest j hj)⟩
theorem fmod_in {y many : Int} (h : 1 ≤ many) : 0 ≤ y.fmod many ∧ y.fmod many < many := by
  rw [Int.fmod_eq_emod_of_nonneg _ (by omega)]
  exact ⟨Int.emod_nonneg _ (by omega), Int.emod_lt_of_pos _ (by omega)⟩
def drawBody4 : MSs := (MSs.cons (MS.ife (ME.cmp (COp.lt) (ME.var 1) (ME.lit (D.int 1))) (MSs.cons (MS.ret (ME.lit (D.int 0))) (MSs.nil)) (MSs.nil)) (MSs.cons (MS.ife (ME.cmp (COp.eq) (ME.ix (ME.var 0) (ME.lit (D.int 0))) (ME.lit (D.int 0))) (MSs.cons (MS.hset (ME.var 0) (ME.lit (D.int 2)) (ME.bin (BOp.add) (ME.ix (ME.var 0) (ME.lit (D.int 2))) (ME.lit (D.int 1)))) (MSs.cons (MS.asg (Tg.name 3) (ME.bin (BOp.mod) (ME.bi (Bi.int) (MEs.cons (ME.bin (BOp.add) (ME.bin (BOp.add) (ME.bin (BOp.add) (ME.bin (BOp.mul) (ME.ix (ME.var 0) (ME.lit (D.int 1))) (ME.lit (D.int 48271))) (ME.bin (BOp.mul) (ME.ix (ME.var 0) (ME.lit (D.int 3))) (ME.lit (D.int 69621)))) (ME.bin (BOp.mul) (ME.ix (ME.var 0) (ME.lit (D.int 2))) (ME.lit (D.int 16807)))) (ME.lit (D.int 11))) (MEs.nil))) (ME.lit (D.int 2147483647)))) (MSs.cons (MS.hset (ME.var 0) (ME.lit (D.int 0)) (ME.bin (BOp.add) (ME.bin (BOp.mul) (ME.var 3) (ME.lit (D.int 2147483629))) (ME.bin (BOp.mod) (ME.bi (Bi.int) (MEs.cons (ME.bin (BOp.add) (ME.bin (BOp.mul) (ME.var 3) (ME.var 3)) (ME.ix (ME.var 0) (ME.lit (D.int 3)))) (MEs.nil))) (ME.lit (D.int 2147483629))))) (MSs.cons (MS.ife (ME.and (ME.cmp (COp.eq) (ME.ix (ME.var 0) (ME.lit (D.int 2))) (ME.lit (D.int 1))) (ME.cmp (COp.ge) (ME.ix (ME.var 0) (ME.lit (D.int 3))) (ME.bin (BOp.pow) (ME.lit (D.int 10)) (ME.lit (D.int 18))))) (MSs.cons (MS.hset (ME.var 0) (ME.lit (D.int 0)) (ME.ix (ME.var 0) (ME.lit (D.int 3)))) (MSs.nil)) (MSs.nil)) (MSs.cons (MS.hset (ME.var 0) (ME.lit (D.int 1)) (ME.var 3)) (MSs.nil)))))) (MSs.nil)) (MSs.cons (MS.asg (Tg.name 2) (ME.ix (ME.var 0) (ME.lit (D.int 0)))) (MSs.cons (MS.hset (ME.var 0) (ME.lit (D.int 0)) (ME.bin (BOp.fdiv) (ME.var 2) (ME.var 1))) (MSs.cons (MS.ret (ME.bin (BOp.mod) (ME.bi (Bi.int) (MEs.cons (ME.var 2) (MEs.nil))) (ME.var 1))) (MSs.nil))))))
/-- a draw's promise -/
def DrawP (B : AH → Nat → Prop) (f : List D → M D) : Prop := ∀ (h : AH) (r : Nat) (many : Int), B h r → 1 ≤ many → many < 2 ^ 64 → ∃ x h', f [.ref r, .int many] h = some (.ok (.int x) h') ∧ 0 ≤ x ∧ x < many ∧ Aft B h r h'
theorem draw4 (C : Nat → List D → M D) (G : List XC) (h : AH) (r : Nat) (many : Int) (hb : Bag4 h r) (h1 : 1 ≤ many) (h2 : many < 2 ^ 64) :
    ∃ x h', SR.end (exs C G drawBody4 [some (.ref r), some (.int many), none, none] h) = some (.ok (.int x) h') ∧ 0 ≤ x ∧ x < many ∧ Aft Bag4 h r h' := by
  have hm : many ≠ 0 := by omega
  have hd : divOk many = true := divOk_of hm (by omega)
  have hn : ¬ many < 1 := by omega
  have hbag := hb
  obtain ⟨b0, b1, b2, b3, e⟩ := hb
  have hx : ∀ y : Int, 0 ≤ y.fmod many ∧ y.fmod many < many := fun y => fmod_in h1
  by_cases hz : b0 = 0
  · obtain ⟨g, hg⟩ : ∃ g, b2 + 1 = g := ⟨_, rfl⟩
    obtain ⟨t, ht⟩ : ∃ t, (b1 * 48271 + b3 * 69621 + g * 16807 + 11).fmod 2147483647 = t := ⟨_, rfl⟩
    have z : t.natAbs < 2 ^ 64 := by
      rw [Int.fmod_eq_emod_of_nonneg _ (by omega)] at ht
      omega
    have m1 : mulOk b1 48271 = true := mulOk_r (by decide)
    have m2 : mulOk b3 69621 = true := mulOk_r (by decide)
    have m3 : mulOk g 16807 = true := mulOk_r (by decide)
    have m4 := mulOk_l (j := 2147483629) z
    have m5 := mulOk_l (j := t) z
    have p1 : powOk 10 18 = true := by decide
    by_cases c1 : g = 1
    · by_cases c2 : (10 : Int) ^ Int.toNat 18 ≤ b3
      · simp -dsimp -implicitDefEqProofs only [exs, exc, ev, islM, evs, tst, tsts, evi, M.ret_def, M.lift_some, SR.end_rt, SR.end_nx, SR.end_ex, get_zero, get_succ, Tg.set_name, Tg.set_tup, setAll, List.set_cons_zero, List.set_cons_succ, Option.map_some, Option.map_none, eq_ints, ne_ints, lt_ints, le_ints, gt_ints, ge_ints, add_ints, sub_ints, truthy_bl, truthy_int, bi_int, bi_abs, bi_max2, bi_min2, bi_len_fz, bi_len_lst, bi_len_tup, bi_repr, ix_lst, ix_tup, ix_fz, at4_0, at4_1, at4_2, at4_3, set4_0, set4_1, set4_2, set4_3, at3_0, at3_1, at3_2, set3_0, set3_1, set3_2, decide_eq_true_eq, ite_true, ite_false, if_true, if_false, Bool.false_eq_true, Bool.not_eq_true', decide_eq_false_iff_not, Bool.not_true, Bool.not_false, List.foldr_cons, List.foldr_nil, Ty.has, Option.bind_some, ↓exc_whl, ↓exc_for, ↓ev_comp, ↓z_ite, ↓z_bind, ↓z_bd, ↓z_sbd, ↓z_sq, ↓z_tn, bdz_ok, bdz_exc, sbdz_ok, sbdz_exc, sqz_nx, sqz_rt, sqz_bk, sqz_ct, sqz_ex, tnz_nx, tnz_rt, tnz_bk, tnz_ct, tnz_ex, kFor_ok, runF_nil, turn_name, wipeE, Int.cast_ofNat_Int, Int.natCast_zero, Int.natCast_one, Int.reduceEq, Int.reduceLT, Int.reduceLE, Int.reduceNeg, part_nil, part_int, cutOf_tup, isi_def, items_lst, items_tup, items_fz, isAny, eq_self, decide_true, decide_false, not_true_eq_false, not_false_eq_true, ne_eq,  sizeLine_eq, List.length_cons, List.length_nil, Nat.reduceAdd, Nat.reduceLeDiff, Nat.zero_add, drawBody4, hn, e, hz, heap_set e, List.set_set, hg, ht, mul_ints m1, mul_ints m2, mul_ints m3, mul_ints m4, mul_ints m5, mod_ints (show (2147483647 : Int) ≠ 0 by decide), mod_ints (show (2147483629 : Int) ≠ 0 by decide), pow_ints p1, eq_true c1, eq_true c2, mod_ints hm, fdiv_ints hd]
        exact ⟨_, _, rfl, (hx _).1, (hx _).2, Aft.set hbag _ _ _ _⟩
      · simp -dsimp -implicitDefEqProofs only [exs, exc, ev, islM, evs, tst, tsts, evi, M.ret_def, M.lift_some, SR.end_rt, SR.end_nx, SR.end_ex, get_zero, get_succ, Tg.set_name, Tg.set_tup, setAll, List.set_cons_zero, List.set_cons_succ, Option.map_some, Option.map_none, eq_ints, ne_ints, lt_ints, le_ints, gt_ints, ge_ints, add_ints, sub_ints, truthy_bl, truthy_int, bi_int, bi_abs, bi_max2, bi_min2, bi_len_fz, bi_len_lst, bi_len_tup, bi_repr, ix_lst, ix_tup, ix_fz, at4_0, at4_1, at4_2, at4_3, set4_0, set4_1, set4_2, set4_3, at3_0, at3_1, at3_2, set3_0, set3_1, set3_2, decide_eq_true_eq, ite_true, ite_false, if_true, if_false, Bool.false_eq_true, Bool.not_eq_true', decide_eq_false_iff_not, Bool.not_true, Bool.not_false, List.foldr_cons, List.foldr_nil, Ty.has, Option.bind_some, ↓exc_whl, ↓exc_for, ↓ev_comp, ↓z_ite, ↓z_bind, ↓z_bd, ↓z_sbd, ↓z_sq, ↓z_tn, bdz_ok, bdz_exc, sbdz_ok, sbdz_exc, sqz_nx, sqz_rt, sqz_bk, sqz_ct, sqz_ex, tnz_nx, tnz_rt, tnz_bk, tnz_ct, tnz_ex, kFor_ok, runF_nil, turn_name, wipeE, Int.cast_ofNat_Int, Int.natCast_zero, Int.natCast_one, Int.reduceEq, Int.reduceLT, Int.reduceLE, Int.reduceNeg, part_nil, part_int, cutOf_tup, isi_def, items_lst, items_tup, items_fz, isAny, eq_self, decide_true, decide_false, not_true_eq_false, not_false_eq_true, ne_eq,  sizeLine_eq, List.length_cons, List.length_nil, Nat.reduceAdd, Nat.reduceLeDiff, Nat.zero_add, drawBody4, hn, e, hz, heap_set e, List.set_set, hg, ht, mul_ints m1, mul_ints m2, mul_ints m3, mul_ints m4, mul_ints m5, mod_ints (show (2147483647 : Int) ≠ 0 by decide), mod_ints (show (2147483629 : Int) ≠ 0 by decide), pow_ints p1, eq_true c1, eq_false c2, mod_ints hm, fdiv_ints hd]
        exact ⟨_, _, rfl, (hx _).1, (hx _).2, Aft.set hbag _ _ _ _⟩
    · simp -dsimp -implicitDefEqProofs only [exs, exc, ev, islM, evs, tst, tsts, evi, M.ret_def, M.lift_some, SR.end_rt, SR.end_nx, SR.end_ex, get_zero, get_succ, Tg.set_name, Tg.set_tup, setAll, List.set_cons_zero, List.set_cons_succ, Option.map_some, Option.map_none, eq_ints, ne_ints, lt_ints, le_ints, gt_ints, ge_ints, add_ints, sub_ints, truthy_bl, truthy_int, bi_int, bi_abs, bi_max2, bi_min2, bi_len_fz, bi_len_lst, bi_len_tup, bi_repr, ix_lst, ix_tup, ix_fz, at4_0, at4_1, at4_2, at4_3, set4_0, set4_1, set4_2, set4_3, at3_0, at3_1, at3_2, set3_0, set3_1, set3_2, decide_eq_true_eq, ite_true, ite_false, if_true, if_false, Bool.false_eq_true, Bool.not_eq_true', decide_eq_false_iff_not, Bool.not_true, Bool.not_false, List.foldr_cons, List.foldr_nil, Ty.has, Option.bind_some, ↓exc_whl, ↓exc_for, ↓ev_comp, ↓z_ite, ↓z_bind, ↓z_bd, ↓z_sbd, ↓z_sq, ↓z_tn, bdz_ok, bdz_exc, sbdz_ok, sbdz_exc, sqz_nx, sqz_rt, sqz_bk, sqz_ct, sqz_ex, tnz_nx, tnz_rt, tnz_bk, tnz_ct, tnz_ex, kFor_ok, runF_nil, turn_name, wipeE, Int.cast_ofNat_Int, Int.natCast_zero, Int.natCast_one, Int.reduceEq, Int.reduceLT, Int.reduceLE, Int.reduceNeg, part_nil, part_int, cutOf_tup, isi_def, items_lst, items_tup, items_fz, isAny, eq_self, decide_true, decide_false, not_true_eq_false, not_false_eq_true, ne_eq,  sizeLine_eq, List.length_cons, List.length_nil, Nat.reduceAdd, Nat.reduceLeDiff, Nat.zero_add, drawBody4, hn, e, hz, heap_set e, List.set_set, hg, ht, mul_ints m1, mul_ints m2, mul_ints m3, mul_ints m4, mul_ints m5, mod_ints (show (2147483647 : Int) ≠ 0 by decide), mod_ints (show (2147483629 : Int) ≠ 0 by decide), pow_ints p1, eq_false c1, mod_ints hm, fdiv_ints hd]
      exact ⟨_, _, rfl, (hx _).1, (hx _).2, Aft.set hbag _ _ _ _⟩
  · simp -dsimp -implicitDefEqProofs only [exs, exc, ev, islM, evs, tst, tsts, evi, M.ret_def, M.lift_some, SR.end_rt, SR.end_nx, SR.end_ex, get_zero, get_succ, Tg.set_name, Tg.set_tup, setAll, List.set_cons_zero, List.set_cons_succ, Option.map_some, Option.map_none, eq_ints, ne_ints, lt_ints, le_ints, gt_ints, ge_ints, add_ints, sub_ints, truthy_bl, truthy_int, bi_int, bi_abs, bi_max2, bi_min2, bi_len_fz, bi_len_lst, bi_len_tup, bi_repr, ix_lst, ix_tup, ix_fz, at4_0, at4_1, at4_2, at4_3, set4_0, set4_1, set4_2, set4_3, at3_0, at3_1, at3_2, set3_0, set3_1, set3_2, decide_eq_true_eq, ite_true, ite_false, if_true, if_false, Bool.false_eq_true, Bool.not_eq_true', decide_eq_false_iff_not, Bool.not_true, Bool.not_false, List.foldr_cons, List.foldr_nil, Ty.has, Option.bind_some, ↓exc_whl, ↓exc_for, ↓ev_comp, ↓z_ite, ↓z_bind, ↓z_bd, ↓z_sbd, ↓z_sq, ↓z_tn, bdz_ok, bdz_exc, sbdz_ok, sbdz_exc, sqz_nx, sqz_rt, sqz_bk, sqz_ct, sqz_ex, tnz_nx, tnz_rt, tnz_bk, tnz_ct, tnz_ex, kFor_ok, runF_nil, turn_name, wipeE, Int.cast_ofNat_Int, Int.natCast_zero, Int.natCast_one, Int.reduceEq, Int.reduceLT, Int.reduceLE, Int.reduceNeg, part_nil, part_int, cutOf_tup, isi_def, items_lst, items_tup, items_fz, isAny, eq_self, decide_true, decide_false, not_true_eq_false, not_false_eq_true, ne_eq,  sizeLine_eq, List.length_cons, List.length_nil, Nat.reduceAdd, Nat.reduceLeDiff, Nat.zero_add, drawBody4, hn, e, hz, heap_set e, List.set_set, fdiv_ints hd, mod_ints hm]
    exact ⟨_, _, rfl, (hx _).1, (hx _).2, Aft.set hbag _ _ _ _⟩
def oneBody (d : Nat) : MSs := MSs.cons (MS.ret (ME.ix (ME.var 1) (ME.call d (MEs.cons (ME.var 0) (MEs.cons (ME.bi Bi.len (MEs.cons (ME.var 1) MEs.nil)) MEs.nil))))) MSs.nil
/-- a choice's promise -/
def OneP (B : AH → Nat → Prop) (f : List D → M D) : Prop := ∀ (h : AH) (r : Nat) (row : List D), B h r → row ≠ [] → row.length < 2 ^ 64 → ∃ x h', f [.ref r, .lst row] h = some (.ok x h') ∧ x ∈ row ∧ Aft B h r h'
theorem one_ok {B : AH → Nat → Prop} {C : Nat → List D → M D} {G : List XC} {d : Nat} (hd : DrawP B (C d)) (h : AH) (r : Nat) (row : List D) (hb : B h r) (hn : row ≠ []) (hl : row.length < 2 ^ 64) :
    ∃ x h', SR.end (exs C G (oneBody d) [some (.ref r), some (.lst row)] h) = some (.ok x h') ∧ x ∈ row ∧ Aft B h r h' := by
  have hpos : 0 < row.length := List.length_pos_iff.mpr hn
  obtain ⟨x, h', e, h0, h1, a⟩ := hd h r (row.length : Int) hb (by omega) (by omega)
  have hi : x.toNat < row.length := by omega
  have eg := atI_nat (l := row) (x := row[x.toNat]) h0 (List.getElem?_eq_getElem hi)
  refine ⟨row[x.toNat], h', ?_, List.getElem_mem hi, a⟩
  simp -dsimp -implicitDefEqProofs only [exs, exc, ev, islM, evs, tst, tsts, evi, M.ret_def, M.lift_some, SR.end_rt, SR.end_nx, SR.end_ex, get_zero, get_succ, Tg.set_name, Tg.set_tup, setAll, List.set_cons_zero, List.set_cons_succ, Option.map_some, Option.map_none, eq_ints, ne_ints, lt_ints, le_ints, gt_ints, ge_ints, add_ints, sub_ints, truthy_bl, truthy_int, bi_int, bi_abs, bi_max2, bi_min2, bi_len_fz, bi_len_lst, bi_len_tup, bi_repr, ix_lst, ix_tup, ix_fz, at4_0, at4_1, at4_2, at4_3, set4_0, set4_1, set4_2, set4_3, at3_0, at3_1, at3_2, set3_0, set3_1, set3_2, decide_eq_true_eq, ite_true, ite_false, if_true, if_false, Bool.false_eq_true, Bool.not_eq_true', decide_eq_false_iff_not, Bool.not_true, Bool.not_false, List.foldr_cons, List.foldr_nil, Ty.has, Option.bind_some, ↓exc_whl, ↓exc_for, ↓ev_comp, ↓z_ite, ↓z_bind, ↓z_bd, ↓z_sbd, ↓z_sq, ↓z_tn, bdz_ok, bdz_exc, sbdz_ok, sbdz_exc, sqz_nx, sqz_rt, sqz_bk, sqz_ct, sqz_ex, tnz_nx, tnz_rt, tnz_bk, tnz_ct, tnz_ex, kFor_ok, runF_nil, turn_name, wipeE, Int.cast_ofNat_Int, Int.natCast_zero, Int.natCast_one, Int.reduceEq, Int.reduceLT, Int.reduceLE, Int.reduceNeg, part_nil, part_int, cutOf_tup, isi_def, items_lst, items_tup, items_fz, isAny, eq_self, decide_true, decide_false, not_true_eq_false, not_false_eq_true, ne_eq,  sizeLine_eq, List.length_cons, List.length_nil, Nat.reduceAdd, Nat.reduceLeDiff, Nat.zero_add, oneBody, e, eg]
/-! a for, turn by turn -/
theorem for_inv {body : D → Env → AH → Option SR} (I : Env → AH → Prop) : ∀ (xs : List D), (∀ x ∈ xs, ∀ ρ h, I ρ h → ∃ ρ' h', body x ρ h = some (.nx ρ' h') ∧ I ρ' h') → ∀ ρ h, I ρ h → ∃ ρ' h', forL body xs ρ h = some (.nx ρ' h') ∧ I ρ' h'
  | [], _, ρ, h, i => ⟨ρ, h, rfl, i⟩
  | x :: xs, hs, ρ, h, i => by
    obtain ⟨ρ1, h1, e, i1⟩ := hs x List.mem_cons_self ρ h i
    simp only [forL, e, SR.tn_nx]
    exact for_inv I xs (fun y hy => hs y (List.mem_cons_of_mem _ hy)) ρ1 h1 i1
theorem runF_inv {C : Nat → List D → M D} {G : List XC} {t : Tg} {b : MSs} (I : Env → AH → Prop) (xs : List D) (hs : ∀ x ∈ xs, ∀ ρ h, I ρ h → ∃ ρ' h', turn C G t b x ρ h = some (.nx ρ' h') ∧ I ρ' h') (ρ : Env) (h : AH) (i : I ρ h) : ∃ ρ' h', runF C G t b xs ρ h = some (.nx ρ' h') ∧ I ρ' h' := for_inv I xs hs ρ h i
theorem cal_unf {T : Tb} {k i : Nat} {vs : List D} {h : AH} {F : Fn} (hF : T.fns[i]? = some F) (hl : vs.length = F.np) : cal T (k + 1) i vs h = SR.end (exs (cal T k) T.xcs F.body (startE F.N.length vs) h) := by
  simp only [cal, hF, if_pos hl]
/-- a bag of three ints -/
def Bag3 (h : AH) (r : Nat) : Prop := ∃ a b c : Int, h[r]? = some (.lst [.int a, .int b, .int c])
theorem Aft.set3 {h : AH} {r : Nat} (b : Bag3 h r) (w x y : Int) : Aft Bag3 h r (h.set r (.lst [.int w, .int x, .int y])) := by
  obtain ⟨a, b, c, e⟩ := b
  exact ⟨⟨w, x, y, heap_set e⟩, List.length_set, fun j hj => List.getElem?_set_ne (Ne.symm hj)⟩
def drawBody3 : MSs := (MSs.cons (MS.ife (ME.cmp (COp.eq) (ME.ix (ME.var 0) (ME.lit (D.int 0))) (ME.lit (D.int 0))) (MSs.cons (MS.asg (Tg.name 3) (ME.bin (BOp.mod) (ME.bi (Bi.int) (MEs.cons (ME.bin (BOp.add) (ME.bin (BOp.add) (ME.bin (BOp.mul) (ME.ix (ME.var 0) (ME.lit (D.int 1))) (ME.lit (D.int 48271))) (ME.bin (BOp.mul) (ME.ix (ME.var 0) (ME.lit (D.int 2))) (ME.lit (D.int 69621)))) (ME.lit (D.int 11))) (MEs.nil))) (ME.lit (D.int 2147483647)))) (MSs.cons (MS.hset (ME.var 0) (ME.lit (D.int 0)) (ME.bin (BOp.add) (ME.bin (BOp.mul) (ME.var 3) (ME.lit (D.int 2147483629))) (ME.bin (BOp.mod) (ME.bi (Bi.int) (MEs.cons (ME.bin (BOp.add) (ME.bin (BOp.mul) (ME.var 3) (ME.var 3)) (ME.bin (BOp.mul) (ME.ix (ME.var 0) (ME.lit (D.int 2))) (ME.lit (D.int 16807)))) (MEs.nil))) (ME.lit (D.int 2147483629))))) (MSs.cons (MS.hset (ME.var 0) (ME.lit (D.int 1)) (ME.var 3)) (MSs.nil)))) (MSs.nil)) (MSs.cons (MS.asg (Tg.name 2) (ME.ix (ME.var 0) (ME.lit (D.int 0)))) (MSs.cons (MS.hset (ME.var 0) (ME.lit (D.int 0)) (ME.bin (BOp.fdiv) (ME.var 2) (ME.var 1))) (MSs.cons (MS.ret (ME.bin (BOp.mod) (ME.bi (Bi.int) (MEs.cons (ME.var 2) (MEs.nil))) (ME.var 1))) (MSs.nil)))))
theorem draw3 (C : Nat → List D → M D) (G : List XC) (h : AH) (r : Nat) (many : Int) (hb : Bag3 h r) (h1 : 1 ≤ many) (h2 : many < 2 ^ 64) :
    ∃ x h', SR.end (exs C G drawBody3 [some (.ref r), some (.int many), none, none] h) = some (.ok (.int x) h') ∧ 0 ≤ x ∧ x < many ∧ Aft Bag3 h r h' := by
  have hm : many ≠ 0 := by omega
  have hd : divOk many = true := divOk_of hm (by omega)
  have hbag := hb
  obtain ⟨b0, b1, b2, e⟩ := hb
  have hx : ∀ y : Int, 0 ≤ y.fmod many ∧ y.fmod many < many := fun y => fmod_in h1
  by_cases hz : b0 = 0
  · obtain ⟨t, ht⟩ : ∃ t, (b1 * 48271 + b2 * 69621 + 11).fmod 2147483647 = t := ⟨_, rfl⟩
    have z : t.natAbs < 2 ^ 64 := by
      rw [Int.fmod_eq_emod_of_nonneg _ (by omega)] at ht
      omega
    have m1 : mulOk b1 48271 = true := mulOk_r (by decide)
    have m2 : mulOk b2 69621 = true := mulOk_r (by decide)
    have m3 : mulOk b2 16807 = true := mulOk_r (by decide)
    have m4 := mulOk_l (j := 2147483629) z
    have m5 := mulOk_l (j := t) z
    simp -dsimp -implicitDefEqProofs only [exs, exc, ev, islM, evs, tst, tsts, evi, M.ret_def, M.lift_some, SR.end_rt, SR.end_nx, SR.end_ex, get_zero, get_succ, Tg.set_name, Tg.set_tup, setAll, List.set_cons_zero, List.set_cons_succ, Option.map_some, Option.map_none, eq_ints, ne_ints, lt_ints, le_ints, gt_ints, ge_ints, add_ints, sub_ints, truthy_bl, truthy_int, bi_int, bi_abs, bi_max2, bi_min2, bi_len_fz, bi_len_lst, bi_len_tup, bi_repr, ix_lst, ix_tup, ix_fz, at4_0, at4_1, at4_2, at4_3, set4_0, set4_1, set4_2, set4_3, at3_0, at3_1, at3_2, set3_0, set3_1, set3_2, decide_eq_true_eq, ite_true, ite_false, if_true, if_false, Bool.false_eq_true, Bool.not_eq_true', decide_eq_false_iff_not, Bool.not_true, Bool.not_false, List.foldr_cons, List.foldr_nil, Ty.has, Option.bind_some, ↓exc_whl, ↓exc_for, ↓ev_comp, ↓z_ite, ↓z_bind, ↓z_bd, ↓z_sbd, ↓z_sq, ↓z_tn, bdz_ok, bdz_exc, sbdz_ok, sbdz_exc, sqz_nx, sqz_rt, sqz_bk, sqz_ct, sqz_ex, tnz_nx, tnz_rt, tnz_bk, tnz_ct, tnz_ex, kFor_ok, runF_nil, turn_name, wipeE, Int.cast_ofNat_Int, Int.natCast_zero, Int.natCast_one, Int.reduceEq, Int.reduceLT, Int.reduceLE, Int.reduceNeg, part_nil, part_int, cutOf_tup, isi_def, items_lst, items_tup, items_fz, isAny, eq_self, decide_true, decide_false, not_true_eq_false, not_false_eq_true, ne_eq,  sizeLine_eq, List.length_cons, List.length_nil, Nat.reduceAdd, Nat.reduceLeDiff, Nat.zero_add, drawBody3, e, hz, heap_set e, List.set_set, ht, mul_ints m1, mul_ints m2, mul_ints m3, mul_ints m4, mul_ints m5, mod_ints (show (2147483647 : Int) ≠ 0 by decide), mod_ints (show (2147483629 : Int) ≠ 0 by decide), mod_ints hm, fdiv_ints hd]
    exact ⟨_, _, rfl, (hx _).1, (hx _).2, Aft.set3 hbag _ _ _⟩
  · simp -dsimp -implicitDefEqProofs only [exs, exc, ev, islM, evs, tst, tsts, evi, M.ret_def, M.lift_some, SR.end_rt, SR.end_nx, SR.end_ex, get_zero, get_succ, Tg.set_name, Tg.set_tup, setAll, List.set_cons_zero, List.set_cons_succ, Option.map_some, Option.map_none, eq_ints, ne_ints, lt_ints, le_ints, gt_ints, ge_ints, add_ints, sub_ints, truthy_bl, truthy_int, bi_int, bi_abs, bi_max2, bi_min2, bi_len_fz, bi_len_lst, bi_len_tup, bi_repr, ix_lst, ix_tup, ix_fz, at4_0, at4_1, at4_2, at4_3, set4_0, set4_1, set4_2, set4_3, at3_0, at3_1, at3_2, set3_0, set3_1, set3_2, decide_eq_true_eq, ite_true, ite_false, if_true, if_false, Bool.false_eq_true, Bool.not_eq_true', decide_eq_false_iff_not, Bool.not_true, Bool.not_false, List.foldr_cons, List.foldr_nil, Ty.has, Option.bind_some, ↓exc_whl, ↓exc_for, ↓ev_comp, ↓z_ite, ↓z_bind, ↓z_bd, ↓z_sbd, ↓z_sq, ↓z_tn, bdz_ok, bdz_exc, sbdz_ok, sbdz_exc, sqz_nx, sqz_rt, sqz_bk, sqz_ct, sqz_ex, tnz_nx, tnz_rt, tnz_bk, tnz_ct, tnz_ex, kFor_ok, runF_nil, turn_name, wipeE, Int.cast_ofNat_Int, Int.natCast_zero, Int.natCast_one, Int.reduceEq, Int.reduceLT, Int.reduceLE, Int.reduceNeg, part_nil, part_int, cutOf_tup, isi_def, items_lst, items_tup, items_fz, isAny, eq_self, decide_true, decide_false, not_true_eq_false, not_false_eq_true, ne_eq,  sizeLine_eq, List.length_cons, List.length_nil, Nat.reduceAdd, Nat.reduceLeDiff, Nat.zero_add, drawBody3, e, hz, heap_set e, List.set_set, fdiv_ints hd, mod_ints hm]
    exact ⟨_, _, rfl, (hx _).1, (hx _).2, Aft.set3 hbag _ _ _⟩
/-! comprehensions -/
section
variable {C : Nat → List D → M D} {ow : List Nat} {tg : Tg} {elt : ME} {ρ ρ' : Env} {x y : D} {h h' h2 : AH} {c : ME}
theorem step_nil (e1 : tg.set x (wipeE ρ ow) = some ρ') (e2 : ev C elt ρ' h = some (.ok y h')) : stepM C ow tg .nil elt ρ x h = some (.ok (some y) h') := by
  unfold stepM
  rw [M.bind_def, e1, M.lift_some, M.bd_ok, M.bind_def]
  have e3 : M.nox (tsts C .nil ρ') h = some (.ok true h) := by unfold M.nox; simp only [tsts, M.ret_def]
  have e4 : M.nox (ev C elt ρ') h = some (.ok y h') := by unfold M.nox; rw [e2]
  rw [e3, M.bd_ok, if_pos rfl, M.bind_def, e4, M.bd_ok]
theorem step_yes (e1 : tg.set x (wipeE ρ ow) = some ρ') (ec : tst C c ρ' h = some (.ok true h2)) (e2 : ev C elt ρ' h2 = some (.ok y h')) : stepM C ow tg (.cons c .nil) elt ρ x h = some (.ok (some y) h') := by
  unfold stepM
  rw [M.bind_def, e1, M.lift_some, M.bd_ok, M.bind_def]
  have e3 : M.nox (tsts C (.cons c .nil) ρ') h = some (.ok true h2) := by unfold M.nox; simp only [tsts, M.bind_def, ec, M.bd_ok, if_true, M.ret_def]
  have e4 : M.nox (ev C elt ρ') h2 = some (.ok y h') := by unfold M.nox; rw [e2]
  rw [e3, M.bd_ok, if_pos rfl, M.bind_def, e4, M.bd_ok]
theorem step_not (e1 : tg.set x (wipeE ρ ow) = some ρ') (ec : tst C c ρ' h = some (.ok false h2)) : stepM C ow tg (.cons c .nil) elt ρ x h = some (.ok none h2) := by
  unfold stepM
  rw [M.bind_def, e1, M.lift_some, M.bd_ok, M.bind_def]
  have e3 : M.nox (tsts C (.cons c .nil) ρ') h = some (.ok false h2) := by unfold M.nox; simp only [tsts, M.bind_def, ec, M.bd_ok, Bool.false_eq_true, if_false, M.ret_def]
  rw [e3, M.bd_ok, if_neg Bool.false_ne_true]
end
/-- turns that leave the heap alone -/
theorem lc_pure {st : D → M (Option D)} {f : D → D} {h : AH} : ∀ {xs : List D}, (∀ x ∈ xs, st x h = some (.ok (some (f x)) h)) → lcM st xs h = some (.ok (xs.map f) h)
  | [], _ => rfl
  | x :: xs, hs => by
    simp only [lcM, M.bind_def, hs x List.mem_cons_self, M.bd_ok, lc_pure fun y hy => hs y (List.mem_cons_of_mem _ hy)]
    rfl
theorem lc_filter {st : D → M (Option D)} {f : D → Option D} {h : AH} : ∀ {xs : List D}, (∀ x ∈ xs, st x h = some (.ok (f x) h)) → lcM st xs h = some (.ok (xs.filterMap f) h)
  | [], _ => rfl
  | x :: xs, hs => by
    simp only [lcM, M.bind_def, hs x List.mem_cons_self, M.bd_ok, lc_filter fun y hy => hs y (List.mem_cons_of_mem _ hy)]
    cases q : f x with
    | none => simp [q, consO]
    | some y => simp [q, consO]
/-- turns that draw -/
theorem lc_draw {st : D → M (Option D)} (I : AH → Prop) (P : D → Prop) : ∀ (xs : List D), (∀ x ∈ xs, ∀ h, I h → ∃ y h', st x h = some (.ok (some y) h') ∧ P y ∧ I h') → ∀ h, I h → ∃ ys h', lcM st xs h = some (.ok ys h') ∧ ys.length = xs.length ∧ (∀ y ∈ ys, P y) ∧ I h'
  | [], _, h, i => ⟨[], h, rfl, rfl, fun _ h => (nomatch h), i⟩
  | x :: xs, hs, h, i => by
    obtain ⟨y, h1, e1, p1, i1⟩ := hs x List.mem_cons_self h i
    obtain ⟨ys, h2, e2, l2, p2, i2⟩ := lc_draw I P xs (fun z hz => hs z (List.mem_cons_of_mem _ hz)) h1 i1
    refine ⟨y :: ys, h2, ?_, by simp [l2], fun z hz => ?_, i2⟩
    · simp only [lcM, M.bind_def, e1, M.bd_ok, e2]
      rfl
    · rcases List.mem_cons.mp hz with rfl | hz
      · exact p1
      · exact p2 z hz
theorem comp_run {C : Nat → List D → M D} {elt : ME} {t : Tg} {cs : MEs} {own : List Nat} {ρ : Env} {xs ys : List D} {h h' : AH} (hl : xs.length ≤ sizeLine) (e : lcM (stepM C own t cs elt ρ) xs h = some (.ok ys h')) : kComp C elt t cs own ρ xs h = some (.ok (.lst ys) h') := by
  rw [kComp_ok hl]
  unfold runC
  rw [e]
  rfl
/-! tuples of ints -/
def tI (ns : List Int) : D := .tup (ns.map D.int)
def lI (ns : List Int) : D := .lst (ns.map D.int)
def tR (R : List (List Int)) : D := .tup (R.map tI)
theorem ints_map (ns : List Int) : D.ints? (ns.map D.int) = some ns := by
  induction ns with
  | nil => rfl
  | cons n ns ih => simp only [List.map_cons, D.ints?, ih, Option.map_some]
theorem truths_true {α : Type} (xs : List α) : truths? (xs.map fun _ => D.bl true) = some (xs.map fun _ => true) := by
  induction xs with
  | nil => rfl
  | cons n ns ih => simp only [List.map_cons, truths?, ih, Option.map_some]
theorem truths_ints (ns : List Int) : truths? (ns.map D.int) = some (ns.map fun n => n != 0) := by
  induction ns with
  | nil => rfl
  | cons n ns ih => simp only [List.map_cons, truths?, ih, Option.map_some]
theorem truths_bls (bs : List Bool) : truths? (bs.map D.bl) = some bs := by
  induction bs with
  | nil => rfl
  | cons n ns ih => simp only [List.map_cons, truths?, ih, Option.map_some]
theorem bi_sum {ns : List Int} {h : AH} : biOf .sum [.lst (ns.map D.int)] h = some (.ok (.int ns.sum) h) := by
  show (D.ints? _).map _ = _
  rw [ints_map]; rfl
theorem bi_all {ds : List D} {bs : List Bool} {h : AH} (e : truths? ds = some bs) : biOf .all [.lst ds] h = some (.ok (.bl (bs.all id)) h) := by
  show (truths? _).map _ = _
  rw [e]; rfl
theorem bi_any {ds : List D} {bs : List Bool} {h : AH} (e : truths? ds = some bs) : biOf .any [.lst ds] h = some (.ok (.bl (bs.any id)) h) := by
  show (truths? _).map _ = _
  rw [e]; rfl
theorem bi_tuple {ds : List D} {h : AH} : biOf .tuple [.lst ds] h = some (.ok (.tup ds) h) := rfl
theorem small_le {n m : Nat} (h : n ≤ m) (hm : m ≤ 1000000) : n ≤ sizeLine := by rw [sizeLine_eq]; omega
theorem lc_ints {st : D → M (Option D)} {g : D → Int} {h : AH} {xs : List D} (hs : ∀ x ∈ xs, st x h = some (.ok (some (.int (g x))) h)) : lcM st xs h = some (.ok ((xs.map g).map D.int) h) := by
  rw [lc_pure (f := fun x => .int (g x)) hs, List.map_map]
  rfl
theorem zip_map {α β : Type} (f : α → D) (g : β → D) : ∀ (xs : List α) (ys : List β), zipD (xs.map f) (ys.map g) = (xs.zip ys).map fun p => .tup [f p.1, g p.2]
  | [], _ => by simp [zipD]
  | _ :: _, [] => by simp [zipD]
  | x :: xs, y :: ys => by
    simp only [List.map_cons, zipD, List.zip_cons_cons, zip_map f g xs ys]
theorem zipOf_tup {xs ys : List D} : zipOf (.tup xs) (.tup ys) = some (zipD xs ys) := rfl
theorem at_ints {ns : List Int} {j : Nat} (hj : j < ns.length) : L2.atI (ns.map D.int) (j : Int) = some (.int (ns.getD j 0)) := by
  have e : ns.getD j 0 = ns[j] := by simp [List.getD, hj]
  rw [e]
  refine atI_nat (by omega) ?_
  simp [hj]
theorem rng1_nat (n : Nat) (h : n ≤ 1000000) : range1 (.int (n : Int)) = some ((List.range n).map fun (i : Nat) => D.int (i : Int)) := by
  have e : smallR (n : Int) = true := by
    unfold smallR
    rw [Bool.and_eq_true, decide_eq_true_eq, decide_eq_true_eq]
    omega
  show (if smallR (n : Int) = true then some (rangeD 0 (n : Int).toNat) else none) = _
  rw [if_pos e]
  simp [rangeD]
theorem getDm {α : Type} {l : List α} {i : Nat} {d : α} (h : i < l.length) : l.getD i d ∈ l := by
  rw [List.getD_eq_getElem?_getD, List.getElem?_eq_getElem h]
  exact List.getElem_mem h
theorem bi_int_bl {b : Bool} {h : AH} : biOf .int [.bl b] h = some (.ok (.int (if b then 1 else 0)) h) := rfl
theorem at2_0 {α : Type} {a b : α} : L2.atI [a, b] 0 = some a := rfl
theorem at2_1 {α : Type} {a b : α} : L2.atI [a, b] 1 = some b := rfl
theorem cut_init {ds : List D} : cutD ds none (some (-1)) = ds.dropLast := by
  unfold cutD
  show (ds.drop 0).take ((if (-1 : Int) < 0 then (-1 + (ds.length : Int)).toNat else min (-1 : Int).toNat ds.length) - 0) = _
  rw [if_pos (by decide), List.drop_zero, Nat.sub_zero, List.dropLast_eq_take]
  congr 1
  omega
theorem cut_from {ds : List D} (k : Nat) : cutD ds (some (k : Int)) none = ds.drop k := by
  unfold cutD
  rw [HT.sIx_nat, HT.sIx_none]
  by_cases hk : k ≤ ds.length
  · rw [Nat.min_eq_left hk]
    exact List.take_of_length_le (by simp)
  · rw [Nat.min_eq_right (by omega), List.drop_of_length_le (Nat.le_refl _), List.drop_of_length_le (by omega)]
    simp
theorem cut_to {ds : List D} (k : Nat) : cutD ds none (some (k : Int)) = ds.take k := by
  unfold cutD
  rw [HT.sIx_nat, HT.sIx_none, List.drop_zero, Nat.sub_zero]
  by_cases hk : k ≤ ds.length
  · rw [Nat.min_eq_left hk]
  · rw [Nat.min_eq_right (by omega), List.take_of_length_le (Nat.le_refl _), List.take_of_length_le (by omega)]
theorem add_tups {xs ys : List D} (h : xs.length + ys.length ≤ 1000000) : D.bop .add (.tup xs) (.tup ys) = some (.tup (xs ++ ys)) := if_pos (small_le h (by decide))
/-- turns that draw ints -/
theorem lc_drawI {st : D → M (Option D)} (I : AH → Prop) (P : Int → Prop) (xs : List D) (hs : ∀ x ∈ xs, ∀ h, I h → ∃ z h', st x h = some (.ok (some (.int z)) h') ∧ P z ∧ I h') (h : AH) (i : I h) : ∃ (L : List Int) (h' : AH), lcM st xs h = some (.ok (L.map D.int) h') ∧ L.length = xs.length ∧ (∀ z ∈ L, P z) ∧ I h' := by
  induction xs generalizing h with
  | nil => exact ⟨[], h, rfl, rfl, fun _ q => (nomatch q), i⟩
  | cons x xs ih =>
    obtain ⟨z, h1, e1, p1, i1⟩ := hs x List.mem_cons_self h i
    obtain ⟨L, h2, e2, l2, p2, i2⟩ := ih (fun y hy => hs y (List.mem_cons_of_mem _ hy)) h1 i1
    refine ⟨z :: L, h2, ?_, by simp [l2], fun w hw => ?_, i2⟩
    · simp only [lcM, M.bind_def, e1, M.bd_ok, e2]
      rfl
    · rcases List.mem_cons.mp hw with rfl | hw
      · exact p1
      · exact p2 w hw
theorem lc_drawR {st : D → M (Option D)} (I : AH → Prop) (P : List Int → Prop) (xs : List D) (hs : ∀ x ∈ xs, ∀ h, I h → ∃ z h', st x h = some (.ok (some (tI z)) h') ∧ P z ∧ I h') (h : AH) (i : I h) : ∃ (L : List (List Int)) (h' : AH), lcM st xs h = some (.ok (L.map tI) h') ∧ L.length = xs.length ∧ (∀ z ∈ L, P z) ∧ I h' := by
  induction xs generalizing h with
  | nil => exact ⟨[], h, rfl, rfl, fun _ q => (nomatch q), i⟩
  | cons x xs ih =>
    obtain ⟨z, h1, e1, p1, i1⟩ := hs x List.mem_cons_self h i
    obtain ⟨L, h2, e2, l2, p2, i2⟩ := ih (fun y hy => hs y (List.mem_cons_of_mem _ hy)) h1 i1
    refine ⟨z :: L, h2, ?_, by simp [l2], fun w hw => ?_, i2⟩
    · simp only [lcM, M.bind_def, e1, M.bd_ok, e2]
      rfl
    · rcases List.mem_cons.mp hw with rfl | hw
      · exact p1
      · exact p2 w hw
end Mi

set_option Elab.async false
set_option linter.all false
set_option maxRecDepth 100000
set_option maxHeartbeats 4000000
namespace Mk
open PySem PySem.Spec PyProof.Rows L2 Mi
def topS (i : Nat) : Stmt := PySem.Challenge.pw_allwholes_k31_machines_that_read.main.body.getD i (.Pass ⟨0, 0, 0, 0⟩)
def wd : Wd := { fns := [("is_whole", 1), ("is_point", 2), ("digits_of", 1), ("digits_list", 2), ("word_of", 1), ("is_state", 3), ("is_machine", 1), ("check_machine", 2), ("out_from", 3), ("taken", 2), ("_law_tape", 1), ("_law_draw", 2), ("_law_pick", 2), ("_law_same", 2), ("_law_number", 2), ("_law_power", 1), ("_law_point", 3), ("_law_call", 2), ("_law_made", 2), ("_law_bent", 2), ("law", 1)], cts := [("MOST_ROWS_OF_DIGITS", D.int (6)), ("LETTERS", D.tup [D.int (1), D.int (2), D.int (4), D.int (8), D.int (16), D.int (32), D.int (64)]), ("MOST_STATES", D.int (2000))], blt := ["ValueError", "abs", "all", "bool", "dict", "enumerate", "int", "isinstance", "len", "list", "max", "range", "str", "sum", "tuple"], xcs := [{ name := "WholeError", up := [], fs := [] }, { name := "BadPoint", up := ["WholeError"], fs := [] }, { name := "BadMachine", up := ["WholeError"], fs := ["place"] }] }
def f0 : FI := { name := "is_whole", st := topS 7, I := { wd := wd, N := ["value"], sc := defScope (topS 7), own := [], frz := [], top := true, heap := [] }, np := 1 }
def f1 : FI := { name := "is_point", st := topS 8, I := { wd := wd, N := ["n", "value", "x"], sc := defScope (topS 8), own := [], frz := [], top := true, heap := [] }, np := 2 }
def f2 : FI := { name := "digits_of", st := topS 9, I := { wd := wd, N := ["x"], sc := defScope (topS 9), own := [], frz := [], top := true, heap := [] }, np := 1 }
def f3 : FI := { name := "digits_list", st := topS 10, I := { wd := wd, N := ["x", "many", "found", "i"], sc := defScope (topS 10), own := [2], frz := [], top := true, heap := [] }, np := 2 }
def f4 : FI := { name := "word_of", st := topS 11, I := { wd := wd, N := ["point", "many", "letters", "row", "x", "i", "digit"], sc := defScope (topS 11), own := [2], frz := [], top := true, heap := [] }, np := 1 }
def f5 : FI := { name := "is_state", st := topS 14, I := { wd := wd, N := ["value", "letters", "states", "part", "most", "one"], sc := defScope (topS 14), own := [], frz := [], top := true, heap := [] }, np := 3 }
def f6 : FI := { name := "is_machine", st := topS 15, I := { wd := wd, N := ["value", "states", "letters", "nexts", "outs", "state", "b"], sc := defScope (topS 15), own := [], frz := [], top := true, heap := [] }, np := 1 }
def f7 : FI := { name := "check_machine", st := topS 16, I := { wd := wd, N := ["value", "place"], sc := defScope (topS 16), own := [], frz := [], top := true, heap := [] }, np := 2 }
def f8 : FI := { name := "out_from", st := topS 17, I := { wd := wd, N := ["machine", "state", "word", "last", "letter"], sc := defScope (topS 17), own := [], frz := [], top := true, heap := [] }, np := 3 }
def f9 : FI := { name := "taken", st := topS 18, I := { wd := wd, N := ["machine", "point"], sc := defScope (topS 18), own := [], frz := [], top := true, heap := [] }, np := 2 }
def f10 : FI := { name := "_law_tape", st := topS 20, I := { wd := wd, N := ["script", "seed", "cell"], sc := defScope (topS 20), own := [], frz := [], top := true, heap := [⟨80, 11, 80, 58⟩, ⟨80, 12, 80, 47⟩] }, np := 1 }
def f11 : FI := { name := "_law_draw", st := topS 21, I := { wd := wd, N := ["tape", "many", "cells", "number"], sc := defScope (topS 21), own := [], frz := [], top := true, heap := [] }, np := 2 }
def f12 : FI := { name := "_law_pick", st := topS 22, I := { wd := wd, N := ["tape", "row"], sc := defScope (topS 22), own := [], frz := [], top := true, heap := [] }, np := 2 }
def f13 : FI := { name := "_law_same", st := topS 23, I := { wd := wd, N := ["told", "due", "k"], sc := defScope (topS 23), own := [], frz := [], top := true, heap := [] }, np := 2 }
def f14 : FI := { name := "_law_number", st := topS 24, I := { wd := wd, N := ["tape", "deep", "kind"], sc := defScope (topS 24), own := [], frz := [], top := true, heap := [] }, np := 2 }
def f15 : FI := { name := "_law_power", st := topS 25, I := { wd := wd, N := ["k", "n", "i"], sc := defScope (topS 25), own := [], frz := [], top := true, heap := [] }, np := 1 }
def f16 : FI := { name := "_law_point", st := topS 26, I := { wd := wd, N := ["tape", "n", "deep", "i"], sc := defScope (topS 26), own := [], frz := [], top := true, heap := [] }, np := 3 }
def f17 : FI := { name := "_law_call", st := topS 27, I := { wd := wd, N := ["machine", "point", "error", "told"], sc := defScope (topS 27), own := [], frz := [], top := true, heap := [] }, np := 2 }
def f18 : FI := { name := "_law_made", st := topS 28, I := { wd := wd, N := ["tape", "n", "m", "factors", "good", "states", "number", "first", "order", "place", "moved", "v", "p", "nexts", "outs", "b", "i", "d", "k"], sc := defScope (topS 28), own := [5, 13, 14], frz := [], top := true, heap := [] }, np := 2 }
def f19 : FI := { name := "_law_bent", st := topS 29, I := { wd := wd, N := ["tape", "machine", "n", "states", "k", "b", "kind", "nexts", "outs"], sc := defScope (topS 29), own := [3], frz := [], top := true, heap := [] }, np := 2 }
def f20 : FI := { name := "law", st := topS 30, I := { wd := wd, N := ["script", "tape", "turn", "n", "k", "wrong", "odd", "machine", "told", "m", "factors", "good", "point", "due", "i"], sc := defScope (topS 30), own := [], frz := [], top := true, heap := [] }, np := 1 }
def b0 : MSs := (MSs.cons (MS.ret (ME.and (ME.isi (ME.var 0) [Ty.int]) (ME.not (ME.isi (ME.var 0) [Ty.bool])))) (MSs.nil))
def b1 : MSs := (MSs.cons (MS.ret (ME.and (ME.isi (ME.var 1) [Ty.tuple]) (ME.and (ME.cmp (COp.eq) (ME.bi (Bi.len) (MEs.cons (ME.var 1) (MEs.nil))) (ME.var 0)) (ME.bi (Bi.all) (MEs.cons (ME.comp (ME.call 0 (MEs.cons (ME.var 2) (MEs.nil))) (Tg.name 2) (MI.seq (ME.var 1)) (MEs.nil) [2]) (MEs.nil)))))) (MSs.nil))
def b2 : MSs := (MSs.cons (MS.ife (ME.cmp (COp.lt) (ME.var 0) (ME.lit (D.int 0))) (MSs.cons (MS.asg (Tg.name 0) (ME.bin (BOp.sub) (ME.neg (ME.var 0)) (ME.lit (D.int 1)))) (MSs.nil)) (MSs.nil)) (MSs.cons (MS.ret (ME.bits (ME.var 0))) (MSs.nil)))
def b3 : MSs := (MSs.cons (MS.asg (Tg.name 2) (ME.lst (MEs.nil))) (MSs.cons (MS.for (Tg.name 3) (MI.rng1 (ME.var 1)) (MSs.cons (MS.app 2 (ME.bin (BOp.mod) (ME.var 0) (ME.lit (D.int 2)))) (MSs.cons (MS.asg (Tg.name 0) (ME.bin (BOp.fdiv) (ME.var 0) (ME.lit (D.int 2)))) (MSs.nil)))) (MSs.cons (MS.retO (ME.var 2)) (MSs.nil))))
def b4 : MSs := (MSs.cons (MS.ife (ME.or (ME.not (ME.isi (ME.var 0) [Ty.tuple])) (ME.or (ME.cmp (COp.gt) (ME.bi (Bi.len) (MEs.cons (ME.var 0) (MEs.nil))) (ME.lit (D.int 6))) (ME.not (ME.call 1 (MEs.cons (ME.bi (Bi.len) (MEs.cons (ME.var 0) (MEs.nil))) (MEs.cons (ME.var 0) (MEs.nil))))))) (MSs.cons (MS.raise { cps := #[66, 97, 100, 80, 111, 105, 110, 116] } (MEs.nil)) (MSs.nil)) (MSs.nil)) (MSs.cons (MS.asg (Tg.name 1) (ME.bin (BOp.add) (ME.bi (Bi.max) (MEs.cons (ME.bin (BOp.add) (ME.lst (MEs.cons (ME.lit (D.int 0)) (MEs.nil))) (ME.comp (ME.call 2 (MEs.cons (ME.var 4) (MEs.nil))) (Tg.name 4) (MI.seq (ME.var 0)) (MEs.nil) [4])) (MEs.nil))) (ME.lit (D.int 1)))) (MSs.cons (MS.asg (Tg.name 2) (ME.comp (ME.lit (D.int 0)) (Tg.name 5) (MI.rng1 (ME.var 1)) (MEs.nil) [5])) (MSs.cons (MS.for (Tg.tup [3, 4]) (MI.enum (ME.var 0)) (MSs.cons (MS.for (Tg.tup [5, 6]) (MI.enum (ME.call 3 (MEs.cons (ME.var 4) (MEs.cons (ME.var 1) (MEs.nil))))) (MSs.cons (MS.setx 2 (ME.var 5) (ME.bin (BOp.add) (ME.ix (ME.var 2) (ME.var 5)) (ME.bin (BOp.mul) (ME.var 6) (ME.ix (ME.lit (D.tup [D.int 1, D.int 2, D.int 4, D.int 8, D.int 16, D.int 32, D.int 64])) (ME.var 3))))) (MSs.nil))) (MSs.nil))) (MSs.cons (MS.ret (ME.bi (Bi.tuple) (MEs.cons (ME.var 2) (MEs.nil)))) (MSs.nil))))))
def b5 : MSs := (MSs.cons (MS.ife (ME.or (ME.not (ME.isi (ME.var 0) [Ty.tuple])) (ME.cmp (COp.ne) (ME.bi (Bi.len) (MEs.cons (ME.var 0) (MEs.nil))) (ME.lit (D.int 2)))) (MSs.cons (MS.ret (ME.lit (D.bl false))) (MSs.nil)) (MSs.nil)) (MSs.cons (MS.for (Tg.tup [3, 4]) (MI.seq (ME.tup (MEs.cons (ME.tup (MEs.cons (ME.ix (ME.var 0) (ME.lit (D.int 0))) (MEs.cons (ME.var 2) (MEs.nil)))) (MEs.cons (ME.tup (MEs.cons (ME.ix (ME.var 0) (ME.lit (D.int 1))) (MEs.cons (ME.lit (D.int 2)) (MEs.nil)))) (MEs.nil))))) (MSs.cons (MS.ife (ME.or (ME.not (ME.isi (ME.var 3) [Ty.tuple])) (ME.cmp (COp.ne) (ME.bi (Bi.len) (MEs.cons (ME.var 3) (MEs.nil))) (ME.var 1))) (MSs.cons (MS.ret (ME.lit (D.bl false))) (MSs.nil)) (MSs.nil)) (MSs.cons (MS.ife (ME.not (ME.bi (Bi.all) (MEs.cons (ME.comp (ME.and (ME.call 0 (MEs.cons (ME.var 5) (MEs.nil))) (ME.chn (COp.le) (COp.lt) (ME.lit (D.int 0)) (ME.var 5) (ME.var 4))) (Tg.name 5) (MI.seq (ME.var 3)) (MEs.nil) [5]) (MEs.nil)))) (MSs.cons (MS.ret (ME.lit (D.bl false))) (MSs.nil)) (MSs.nil)) (MSs.nil)))) (MSs.cons (MS.ret (ME.lit (D.bl true))) (MSs.nil))))
def b6 : MSs := (MSs.cons (MS.ife (ME.or (ME.not (ME.isi (ME.var 0) [Ty.tuple])) (ME.or (ME.cmp (COp.ne) (ME.bi (Bi.len) (MEs.cons (ME.var 0) (MEs.nil))) (ME.lit (D.int 3))) (ME.or (ME.not (ME.isi (ME.ix (ME.var 0) (ME.lit (D.int 0))) [Ty.str])) (ME.cmp (COp.ne) (ME.ix (ME.var 0) (ME.lit (D.int 0))) (ME.lit (D.str { cps := #[109, 97, 99, 104, 105, 110, 101] })))))) (MSs.cons (MS.ret (ME.lit (D.bl false))) (MSs.nil)) (MSs.nil)) (MSs.cons (MS.ife (ME.or (ME.not (ME.call 0 (MEs.cons (ME.ix (ME.var 0) (ME.lit (D.int 1))) (MEs.nil)))) (ME.not (ME.chn (COp.le) (COp.le) (ME.lit (D.int 0)) (ME.ix (ME.var 0) (ME.lit (D.int 1))) (ME.lit (D.int 6))))) (MSs.cons (MS.ret (ME.lit (D.bl false))) (MSs.nil)) (MSs.nil)) (MSs.cons (MS.asg (Tg.name 1) (ME.ix (ME.var 0) (ME.lit (D.int 2)))) (MSs.cons (MS.ife (ME.or (ME.not (ME.isi (ME.var 1) [Ty.tuple])) (ME.not (ME.chn (COp.le) (COp.le) (ME.lit (D.int 1)) (ME.bi (Bi.len) (MEs.cons (ME.var 1) (MEs.nil))) (ME.lit (D.int 2000))))) (MSs.cons (MS.ret (ME.lit (D.bl false))) (MSs.nil)) (MSs.nil)) (MSs.cons (MS.asg (Tg.name 2) (ME.ix (ME.lit (D.tup [D.int 1, D.int 2, D.int 4, D.int 8, D.int 16, D.int 32, D.int 64])) (ME.ix (ME.var 0) (ME.lit (D.int 1))))) (MSs.cons (MS.ife (ME.not (ME.bi (Bi.all) (MEs.cons (ME.comp (ME.call 5 (MEs.cons (ME.var 5) (MEs.cons (ME.var 2) (MEs.cons (ME.bi (Bi.len) (MEs.cons (ME.var 1) (MEs.nil))) (MEs.nil))))) (Tg.name 5) (MI.seq (ME.var 1)) (MEs.nil) [5]) (MEs.nil)))) (MSs.cons (MS.ret (ME.lit (D.bl false))) (MSs.nil)) (MSs.nil)) (MSs.cons (MS.for (Tg.tup [3, 4]) (MI.seq (ME.var 1)) (MSs.cons (MS.ife (ME.not (ME.bi (Bi.all) (MEs.cons (ME.comp (ME.cmp (COp.eq) (ME.ix (ME.var 4) (ME.var 6)) (ME.ix (ME.ix (ME.ix (ME.var 1) (ME.ix (ME.var 3) (ME.var 6))) (ME.lit (D.int 1))) (ME.var 6))) (Tg.name 6) (MI.rng1 (ME.var 2)) (MEs.nil) [6]) (MEs.nil)))) (MSs.cons (MS.ret (ME.lit (D.bl false))) (MSs.nil)) (MSs.nil)) (MSs.nil))) (MSs.cons (MS.ret (ME.lit (D.bl true))) (MSs.nil)))))))))
def b7 : MSs := (MSs.cons (MS.ife (ME.not (ME.call 6 (MEs.cons (ME.var 0) (MEs.nil)))) (MSs.cons (MS.raise { cps := #[66, 97, 100, 77, 97, 99, 104, 105, 110, 101] } (MEs.cons (ME.var 1) (MEs.nil))) (MSs.nil)) (MSs.nil)) (MSs.nil))
def b8 : MSs := (MSs.cons (MS.asg (Tg.name 3) (ME.bin (BOp.sub) (ME.bi (Bi.len) (MEs.cons (ME.var 2) (MEs.nil))) (ME.lit (D.int 1)))) (MSs.cons (MS.for (Tg.name 4) (MI.seq (ME.sl (ME.var 2) (MEs.nil) (MEs.cons (ME.var 3) (MEs.nil)))) (MSs.cons (MS.asg (Tg.name 1) (ME.ix (ME.ix (ME.ix (ME.ix (ME.var 0) (ME.lit (D.int 2))) (ME.var 1)) (ME.lit (D.int 0))) (ME.var 4))) (MSs.nil))) (MSs.cons (MS.ret (ME.ix (ME.ix (ME.ix (ME.ix (ME.var 0) (ME.lit (D.int 2))) (ME.var 1)) (ME.lit (D.int 1))) (ME.ix (ME.var 2) (ME.var 3)))) (MSs.nil))))
def b9 : MSs := (MSs.cons (MS.expr (ME.call 7 (MEs.cons (ME.var 0) (MEs.cons (ME.lit (D.int 0)) (MEs.nil))))) (MSs.cons (MS.ife (ME.not (ME.call 1 (MEs.cons (ME.ix (ME.var 0) (ME.lit (D.int 1))) (MEs.cons (ME.var 1) (MEs.nil))))) (MSs.cons (MS.raise { cps := #[66, 97, 100, 80, 111, 105, 110, 116] } (MEs.nil)) (MSs.nil)) (MSs.nil)) (MSs.cons (MS.ret (ME.cmp (COp.eq) (ME.call 8 (MEs.cons (ME.var 0) (MEs.cons (ME.lit (D.int 0)) (MEs.cons (ME.call 4 (MEs.cons (ME.var 1) (MEs.nil))) (MEs.nil))))) (ME.lit (D.int 1)))) (MSs.nil))))
def b10 : MSs := (MSs.cons (MS.asg (Tg.name 1) (ME.lit (D.int 7))) (MSs.cons (MS.for (Tg.name 2) (MI.seq (ME.var 0)) (MSs.cons (MS.asg (Tg.name 1) (ME.bin (BOp.mod) (ME.bi (Bi.int) (MEs.cons (ME.bin (BOp.add) (ME.bin (BOp.mul) (ME.var 1) (ME.lit (D.int 31))) (ME.var 2)) (MEs.nil))) (ME.lit (D.int 1000003)))) (MSs.nil))) (MSs.cons (MS.ret (ME.thaw (ME.lst (MEs.cons (ME.thaw (ME.comp (ME.bi (Bi.abs) (MEs.cons (ME.bi (Bi.int) (MEs.cons (ME.var 2) (MEs.nil))) (MEs.nil))) (Tg.name 2) (MI.seq (ME.var 0)) (MEs.nil) [2])) (MEs.cons (ME.bin (BOp.add) (ME.var 1) (ME.lit (D.int 1))) (MEs.nil)))))) (MSs.nil))))
def b11 : MSs := (MSs.cons (MS.asg (Tg.name 2) (ME.ix (ME.var 0) (ME.lit (D.int 0)))) (MSs.cons (MS.whl (ME.and (ME.cmp (COp.gt) (ME.bi (Bi.len) (MEs.cons (ME.var 2) (MEs.nil))) (ME.lit (D.int 0))) (ME.cmp (COp.eq) (ME.ix (ME.var 2) (ME.lit (D.int 0))) (ME.lit (D.int 0)))) (MSs.cons (MS.hpop (ME.var 2) (ME.lit (D.int 0))) (MSs.nil))) (MSs.cons (MS.ife (ME.cmp (COp.gt) (ME.bi (Bi.len) (MEs.cons (ME.var 2) (MEs.nil))) (ME.lit (D.int 0))) (MSs.cons (MS.asg (Tg.name 3) (ME.ix (ME.var 2) (ME.lit (D.int 0)))) (MSs.cons (MS.hset (ME.var 2) (ME.lit (D.int 0)) (ME.bin (BOp.fdiv) (ME.var 3) (ME.var 1))) (MSs.cons (MS.ret (ME.bin (BOp.mod) (ME.bi (Bi.int) (MEs.cons (ME.var 3) (MEs.nil))) (ME.var 1))) (MSs.nil)))) (MSs.nil)) (MSs.cons (MS.hset (ME.var 0) (ME.lit (D.int 1)) (ME.bin (BOp.mod) (ME.bi (Bi.int) (MEs.cons (ME.bin (BOp.add) (ME.bin (BOp.mul) (ME.ix (ME.var 0) (ME.lit (D.int 1))) (ME.lit (D.int 48271))) (ME.lit (D.int 12345))) (MEs.nil))) (ME.lit (D.int 2147483647)))) (MSs.cons (MS.ret (ME.bin (BOp.mod) (ME.bi (Bi.int) (MEs.cons (ME.bin (BOp.fdiv) (ME.ix (ME.var 0) (ME.lit (D.int 1))) (ME.lit (D.int 64))) (MEs.nil))) (ME.var 1))) (MSs.nil))))))
def b12 : MSs := (MSs.cons (MS.ret (ME.ix (ME.var 1) (ME.call 11 (MEs.cons (ME.var 0) (MEs.cons (ME.bi (Bi.len) (MEs.cons (ME.var 1) (MEs.nil))) (MEs.nil)))))) (MSs.nil))
def b13 : MSs := (MSs.cons (MS.ife (ME.cmp (COp.is) (ME.var 1) (ME.lit (D.non))) (MSs.cons (MS.ret (ME.cmp (COp.is) (ME.var 0) (ME.lit (D.non)))) (MSs.nil)) (MSs.nil)) (MSs.cons (MS.ife (ME.isi (ME.var 1) [Ty.bool]) (MSs.cons (MS.ret (ME.and (ME.isi (ME.var 0) [Ty.bool]) (ME.cmp (COp.eq) (ME.var 0) (ME.var 1)))) (MSs.nil)) (MSs.nil)) (MSs.cons (MS.ife (ME.isi (ME.var 1) [Ty.int]) (MSs.cons (MS.ret (ME.and (ME.isi (ME.var 0) [Ty.int]) (ME.and (ME.not (ME.isi (ME.var 0) [Ty.bool])) (ME.cmp (COp.eq) (ME.var 0) (ME.var 1))))) (MSs.nil)) (MSs.nil)) (MSs.cons (MS.ife (ME.isi (ME.var 1) [Ty.str]) (MSs.cons (MS.ret (ME.and (ME.isi (ME.var 0) [Ty.str]) (ME.cmp (COp.eq) (ME.var 0) (ME.var 1)))) (MSs.nil)) (MSs.nil)) (MSs.cons (MS.ife (ME.or (ME.cmp (COp.ne) (ME.isi (ME.var 1) [Ty.tuple]) (ME.isi (ME.var 0) [Ty.tuple])) (ME.cmp (COp.ne) (ME.isi (ME.var 1) [Ty.list]) (ME.isi (ME.var 0) [Ty.list]))) (MSs.cons (MS.ret (ME.lit (D.bl false))) (MSs.nil)) (MSs.nil)) (MSs.cons (MS.ife (ME.or (ME.not (ME.isi (ME.var 0) [Ty.tuple, Ty.list])) (ME.cmp (COp.ne) (ME.bi (Bi.len) (MEs.cons (ME.var 0) (MEs.nil))) (ME.bi (Bi.len) (MEs.cons (ME.var 1) (MEs.nil))))) (MSs.cons (MS.ret (ME.lit (D.bl false))) (MSs.nil)) (MSs.nil)) (MSs.cons (MS.ret (ME.cmp (COp.notin) (ME.lit (D.bl false)) (ME.comp (ME.call 13 (MEs.cons (ME.ix (ME.var 0) (ME.var 2)) (MEs.cons (ME.ix (ME.var 1) (ME.var 2)) (MEs.nil)))) (Tg.name 2) (MI.rng1 (ME.bi (Bi.len) (MEs.cons (ME.var 1) (MEs.nil)))) (MEs.nil) [2]))) (MSs.nil))))))))
def b14 : MSs := (MSs.cons (MS.asg (Tg.name 2) (ME.call 11 (MEs.cons (ME.var 0) (MEs.cons (ME.lit (D.int 8)) (MEs.nil))))) (MSs.cons (MS.ife (ME.or (ME.cmp (COp.lt) (ME.var 2) (ME.lit (D.int 5))) (ME.not (ME.var 1))) (MSs.cons (MS.ret (ME.bin (BOp.sub) (ME.call 11 (MEs.cons (ME.var 0) (MEs.cons (ME.lit (D.int 41)) (MEs.nil)))) (ME.lit (D.int 20)))) (MSs.nil)) (MSs.nil)) (MSs.cons (MS.ife (ME.cmp (COp.lt) (ME.var 2) (ME.lit (D.int 7))) (MSs.cons (MS.ret (ME.bin (BOp.sub) (ME.call 11 (MEs.cons (ME.var 0) (MEs.cons (ME.lit (D.int 2000001)) (MEs.nil)))) (ME.lit (D.int 1000000)))) (MSs.nil)) (MSs.nil)) (MSs.cons (MS.ret (ME.bin (BOp.mul) (ME.bin (BOp.sub) (ME.call 11 (MEs.cons (ME.var 0) (MEs.cons (ME.bin (BOp.pow) (ME.lit (D.int 10)) (ME.lit (D.int 40))) (MEs.nil)))) (ME.bin (BOp.mul) (ME.lit (D.int 5)) (ME.bin (BOp.pow) (ME.lit (D.int 10)) (ME.lit (D.int 39))))) (ME.call 12 (MEs.cons (ME.var 0) (MEs.cons (ME.lst (MEs.cons (ME.lit (D.int 1)) (MEs.cons (ME.bin (BOp.pow) (ME.lit (D.int 10)) (ME.lit (D.int 20))) (MEs.nil)))) (MEs.nil)))))) (MSs.nil)))))
def b15 : MSs := (MSs.cons (MS.asg (Tg.name 1) (ME.lit (D.int 1))) (MSs.cons (MS.for (Tg.name 2) (MI.rng1 (ME.var 0)) (MSs.cons (MS.asg (Tg.name 1) (ME.bin (BOp.mul) (ME.lit (D.int 2)) (ME.var 1))) (MSs.nil))) (MSs.cons (MS.ret (ME.var 1)) (MSs.nil))))
def b16 : MSs := (MSs.cons (MS.ret (ME.bi (Bi.tuple) (MEs.cons (ME.comp (ME.call 14 (MEs.cons (ME.var 0) (MEs.cons (ME.var 2) (MEs.nil)))) (Tg.name 3) (MI.rng1 (ME.var 1)) (MEs.nil) [3]) (MEs.nil)))) (MSs.nil))
def b17 : MSs := (MSs.cons (MS.tryH (MSs.cons (MS.asg (Tg.name 3) (ME.call 9 (MEs.cons (ME.var 0) (MEs.cons (ME.var 1) (MEs.nil))))) (MSs.nil)) [({ cps := #[66, 97, 100, 80, 111, 105, 110, 116] }, Hd.con (D.str { cps := #[112, 111, 105, 110, 116] })), ({ cps := #[66, 97, 100, 77, 97, 99, 104, 105, 110, 101] }, Hd.fld 2 { cps := #[112, 108, 97, 99, 101] })]) (MSs.cons (MS.ret (ME.var 3)) (MSs.nil)))
def b18 : MSs := (MSs.cons (MS.asg (Tg.name 2) (ME.call 12 (MEs.cons (ME.var 0) (MEs.cons (ME.lst (MEs.cons (ME.lit (D.int 1)) (MEs.cons (ME.lit (D.int 3)) (MEs.cons (ME.lit (D.int 5)) (MEs.cons (ME.lit (D.int 7)) (MEs.cons (ME.lit (D.int 9)) (MEs.cons (ME.lit (D.int 15)) (MEs.nil)))))))) (MEs.nil))))) (MSs.cons (MS.asg (Tg.name 3) (ME.comp (ME.call 11 (MEs.cons (ME.var 0) (MEs.cons (ME.var 2) (MEs.nil)))) (Tg.name 16) (MI.rng1 (ME.var 1)) (MEs.nil) [16])) (MSs.cons (MS.asg (Tg.name 4) (ME.comp (ME.call 11 (MEs.cons (ME.var 0) (MEs.cons (ME.lit (D.int 2)) (MEs.nil)))) (Tg.name 11) (MI.rng1 (ME.var 2)) (MEs.nil) [11])) (MSs.cons (MS.asg (Tg.name 5) (ME.lst (MEs.nil))) (MSs.cons (MS.for (Tg.name 6) (MI.rng1 (ME.bin (BOp.mul) (ME.var 2) (ME.var 2))) (MSs.cons (MS.asg (Tg.name 11) (ME.bin (BOp.fdiv) (ME.var 6) (ME.var 2))) (MSs.cons (MS.asg (Tg.name 12) (ME.bin (BOp.mod) (ME.var 6) (ME.var 2))) (MSs.cons (MS.asg (Tg.name 13) (ME.lst (MEs.nil))) (MSs.cons (MS.asg (Tg.name 14) (ME.lst (MEs.nil))) (MSs.cons (MS.for (Tg.name 15) (MI.rng1 (ME.call 15 (MEs.cons (ME.var 1) (MEs.nil)))) (MSs.cons (MS.asg (Tg.name 17) (ME.bi (Bi.sum) (MEs.cons (ME.comp (ME.ix (ME.var 3) (ME.var 16)) (Tg.name 16) (MI.rng1 (ME.var 1)) (MEs.cons (ME.cmp (COp.eq) (ME.bin (BOp.mod) (ME.bin (BOp.fdiv) (ME.var 15) (ME.call 15 (MEs.cons (ME.var 16) (MEs.nil)))) (ME.lit (D.int 2))) (ME.lit (D.int 1))) (MEs.nil)) [16]) (MEs.nil)))) (MSs.cons (MS.app 13 (ME.bin (BOp.add) (ME.bin (BOp.mul) (ME.bin (BOp.mod) (ME.bin (BOp.add) (ME.var 11) (ME.bin (BOp.mul) (ME.var 12) (ME.var 17))) (ME.var 2)) (ME.var 2)) (ME.bin (BOp.mod) (ME.bin (BOp.mul) (ME.lit (D.int 2)) (ME.var 12)) (ME.var 2)))) (MSs.cons (MS.app 14 (ME.ix (ME.var 4) (ME.bin (BOp.mod) (ME.bin (BOp.sub) (ME.var 11) (ME.bin (BOp.mul) (ME.var 12) (ME.var 17))) (ME.var 2)))) (MSs.nil))))) (MSs.cons (MS.app 5 (ME.tup (MEs.cons (ME.bi (Bi.tuple) (MEs.cons (ME.var 13) (MEs.nil))) (MEs.cons (ME.bi (Bi.tuple) (MEs.cons (ME.var 14) (MEs.nil))) (MEs.nil))))) (MSs.nil)))))))) (MSs.cons (MS.asg (Tg.name 7) (ME.bin (BOp.mod) (ME.lit (D.int 1)) (ME.var 2))) (MSs.cons (MS.asg (Tg.name 8) (ME.bin (BOp.add) (ME.lst (MEs.cons (ME.var 7) (MEs.nil))) (ME.comp (ME.var 18) (Tg.name 18) (MI.rng1 (ME.bin (BOp.mul) (ME.var 2) (ME.var 2))) (MEs.cons (ME.cmp (COp.ne) (ME.var 18) (ME.var 7)) (MEs.nil)) [18]))) (MSs.cons (MS.asg (Tg.name 9) (ME.bi (Bi.dictK) (MEs.cons (ME.comp (ME.tup (MEs.cons (ME.ix (ME.var 8) (ME.var 18)) (MEs.cons (ME.var 18) (MEs.nil)))) (Tg.name 18) (MI.rng1 (ME.bin (BOp.mul) (ME.var 2) (ME.var 2))) (MEs.nil) [18]) (MEs.nil)))) (MSs.cons (MS.asg (Tg.name 10) (ME.bi (Bi.tuple) (MEs.cons (ME.comp (ME.tup (MEs.cons (ME.bi (Bi.tuple) (MEs.cons (ME.comp (ME.ix (ME.var 9) (ME.var 15)) (Tg.name 15) (MI.seq (ME.ix (ME.ix (ME.var 5) (ME.var 18)) (ME.lit (D.int 0)))) (MEs.nil) [15]) (MEs.nil))) (MEs.cons (ME.ix (ME.ix (ME.var 5) (ME.var 18)) (ME.lit (D.int 1))) (MEs.nil)))) (Tg.name 18) (MI.seq (ME.var 8)) (MEs.nil) [18]) (MEs.nil)))) (MSs.cons (MS.ret (ME.tup (MEs.cons (ME.tup (MEs.cons (ME.lit (D.str { cps := #[109, 97, 99, 104, 105, 110, 101] })) (MEs.cons (ME.var 1) (MEs.cons (ME.var 10) (MEs.nil))))) (MEs.cons (ME.tup (MEs.cons (ME.var 2) (MEs.cons (ME.var 3) (MEs.cons (ME.var 4) (MEs.nil))))) (MEs.nil))))) (MSs.nil)))))))))))
def b19 : MSs := (MSs.cons (MS.asg (Tg.name 2) (ME.ix (ME.var 1) (ME.lit (D.int 1)))) (MSs.cons (MS.asg (Tg.name 3) (ME.bi (Bi.list) (MEs.cons (ME.ix (ME.var 1) (ME.lit (D.int 2))) (MEs.nil)))) (MSs.cons (MS.asg (Tg.name 4) (ME.call 11 (MEs.cons (ME.var 0) (MEs.cons (ME.bi (Bi.len) (MEs.cons (ME.var 3) (MEs.nil))) (MEs.nil))))) (MSs.cons (MS.asg (Tg.name 5) (ME.call 11 (MEs.cons (ME.var 0) (MEs.cons (ME.call 15 (MEs.cons (ME.var 2) (MEs.nil))) (MEs.nil))))) (MSs.cons (MS.asg (Tg.tup [7, 8]) (ME.ix (ME.var 3) (ME.var 4))) (MSs.cons (MS.asg (Tg.name 6) (ME.call 11 (MEs.cons (ME.var 0) (MEs.cons (ME.lit (D.int 8)) (MEs.nil))))) (MSs.cons (MS.ife (ME.cmp (COp.eq) (ME.var 6) (ME.lit (D.int 0))) (MSs.cons (MS.setx 3 (ME.var 4) (ME.tup (MEs.cons (ME.bin (BOp.add) (ME.bin (BOp.add) (ME.sl (ME.var 7) (MEs.nil) (MEs.cons (ME.var 5) (MEs.nil))) (ME.tup (MEs.cons (ME.call 12 (MEs.cons (ME.var 0) (MEs.cons (ME.lst (MEs.cons (ME.bi (Bi.len) (MEs.cons (ME.var 3) (MEs.nil))) (MEs.cons (ME.neg (ME.lit (D.int 1))) (MEs.cons (ME.lit (D.non)) (MEs.cons (ME.lit (D.bl true)) (MEs.nil)))))) (MEs.nil)))) (MEs.nil)))) (ME.sl (ME.var 7) (MEs.cons (ME.bin (BOp.add) (ME.var 5) (ME.lit (D.int 1))) (MEs.nil)) (MEs.nil))) (MEs.cons (ME.var 8) (MEs.nil))))) (MSs.nil)) (MSs.cons (MS.ife (ME.cmp (COp.eq) (ME.var 6) (ME.lit (D.int 1))) (MSs.cons (MS.setx 3 (ME.var 4) (ME.tup (MEs.cons (ME.var 7) (MEs.cons (ME.bin (BOp.add) (ME.bin (BOp.add) (ME.sl (ME.var 8) (MEs.nil) (MEs.cons (ME.var 5) (MEs.nil))) (ME.tup (MEs.cons (ME.call 12 (MEs.cons (ME.var 0) (MEs.cons (ME.lst (MEs.cons (ME.lit (D.int 2)) (MEs.cons (ME.neg (ME.lit (D.int 1))) (MEs.cons (ME.lit (D.non)) (MEs.cons (ME.lit (D.bl true)) (MEs.nil)))))) (MEs.nil)))) (MEs.nil)))) (ME.sl (ME.var 8) (MEs.cons (ME.bin (BOp.add) (ME.var 5) (ME.lit (D.int 1))) (MEs.nil)) (MEs.nil))) (MEs.nil))))) (MSs.nil)) (MSs.cons (MS.ife (ME.cmp (COp.eq) (ME.var 6) (ME.lit (D.int 2))) (MSs.cons (MS.setx 3 (ME.var 4) (ME.tup (MEs.cons (ME.sl (ME.var 7) (MEs.cons (ME.lit (D.int 1)) (MEs.nil)) (MEs.nil)) (MEs.cons (ME.var 8) (MEs.nil))))) (MSs.nil)) (MSs.cons (MS.ife (ME.cmp (COp.eq) (ME.var 6) (ME.lit (D.int 3))) (MSs.cons (MS.setx 3 (ME.var 4) (ME.tup (MEs.cons (ME.var 7) (MEs.cons (ME.bin (BOp.add) (ME.var 8) (ME.tup (MEs.cons (ME.lit (D.int 0)) (MEs.nil)))) (MEs.nil))))) (MSs.nil)) (MSs.cons (MS.ife (ME.cmp (COp.eq) (ME.var 6) (ME.lit (D.int 4))) (MSs.cons (MS.asg (Tg.name 3) (ME.isl (ME.bin (BOp.add) (ME.var 3) (ME.lst (MEs.cons (ME.tup (MEs.cons (ME.bin (BOp.add) (ME.bin (BOp.add) (ME.sl (ME.var 7) (MEs.nil) (MEs.cons (ME.var 5) (MEs.nil))) (ME.tup (MEs.cons (ME.bi (Bi.len) (MEs.cons (ME.var 3) (MEs.nil))) (MEs.nil)))) (ME.sl (ME.var 7) (MEs.cons (ME.bin (BOp.add) (ME.var 5) (ME.lit (D.int 1))) (MEs.nil)) (MEs.nil))) (MEs.cons (ME.var 8) (MEs.nil)))) (MEs.cons (ME.tup (MEs.cons (ME.var 7) (MEs.cons (ME.var 8) (MEs.nil)))) (MEs.nil))))))) (MSs.cons (MS.setx 3 (ME.bin (BOp.sub) (ME.bi (Bi.len) (MEs.cons (ME.var 3) (MEs.nil))) (ME.lit (D.int 1))) (ME.tup (MEs.cons (ME.var 7) (MEs.cons (ME.bin (BOp.add) (ME.bin (BOp.add) (ME.sl (ME.var 8) (MEs.nil) (MEs.cons (ME.var 5) (MEs.nil))) (ME.tup (MEs.cons (ME.bin (BOp.sub) (ME.lit (D.int 1)) (ME.ix (ME.var 8) (ME.var 5))) (MEs.nil)))) (ME.sl (ME.var 8) (MEs.cons (ME.bin (BOp.add) (ME.var 5) (ME.lit (D.int 1))) (MEs.nil)) (MEs.nil))) (MEs.nil))))) (MSs.cons (MS.setx 3 (ME.var 4) (ME.tup (MEs.cons (ME.bin (BOp.add) (ME.bin (BOp.add) (ME.sl (ME.var 7) (MEs.nil) (MEs.cons (ME.var 5) (MEs.nil))) (ME.tup (MEs.cons (ME.bin (BOp.sub) (ME.bi (Bi.len) (MEs.cons (ME.var 3) (MEs.nil))) (ME.lit (D.int 1))) (MEs.nil)))) (ME.sl (ME.var 7) (MEs.cons (ME.bin (BOp.add) (ME.var 5) (ME.lit (D.int 1))) (MEs.nil)) (MEs.nil))) (MEs.cons (ME.var 8) (MEs.nil))))) (MSs.nil)))) (MSs.cons (MS.ife (ME.cmp (COp.eq) (ME.var 6) (ME.lit (D.int 5))) (MSs.cons (MS.ret (ME.call 12 (MEs.cons (ME.var 0) (MEs.cons (ME.lst (MEs.cons (ME.tup (MEs.cons (ME.lit (D.str { cps := #[109, 97, 99, 104, 105, 110, 101] })) (MEs.cons (ME.var 2) (MEs.cons (ME.tup (MEs.nil)) (MEs.nil))))) (MEs.cons (ME.tup (MEs.cons (ME.lit (D.str { cps := #[109, 97, 99, 104, 105, 110, 101] })) (MEs.cons (ME.lit (D.int 7)) (MEs.cons (ME.ix (ME.var 1) (ME.lit (D.int 2))) (MEs.nil))))) (MEs.cons (ME.tup (MEs.cons (ME.lit (D.str { cps := #[109, 97, 99, 104, 105, 110, 101] })) (MEs.cons (ME.bin (BOp.add) (ME.var 2) (ME.lit (D.int 1))) (MEs.cons (ME.ix (ME.var 1) (ME.lit (D.int 2))) (MEs.nil))))) (MEs.cons (ME.bi (Bi.list) (MEs.cons (ME.var 1) (MEs.nil))) (MEs.nil)))))) (MEs.nil))))) (MSs.nil)) (MSs.cons (MS.ife (ME.cmp (COp.eq) (ME.var 6) (ME.lit (D.int 6))) (MSs.cons (MS.ret (ME.call 12 (MEs.cons (ME.var 0) (MEs.cons (ME.lst (MEs.cons (ME.tup (MEs.cons (ME.lit (D.str { cps := #[109, 97, 99, 104, 105, 110, 101] })) (MEs.cons (ME.var 2) (MEs.cons (ME.bi (Bi.list) (MEs.cons (ME.var 3) (MEs.nil))) (MEs.nil))))) (MEs.cons (ME.tup (MEs.cons (ME.lit (D.str { cps := #[109, 97, 99, 104, 105, 110, 101, 115] })) (MEs.cons (ME.var 2) (MEs.cons (ME.ix (ME.var 1) (ME.lit (D.int 2))) (MEs.nil))))) (MEs.cons (ME.bin (BOp.add) (ME.var 1) (ME.tup (MEs.cons (ME.lit (D.int 0)) (MEs.nil)))) (MEs.cons (ME.lit (D.non)) (MEs.cons (ME.lit (D.int 5)) (MEs.nil))))))) (MEs.nil))))) (MSs.nil)) (MSs.cons (MS.ret (ME.tup (MEs.cons (ME.lit (D.str { cps := #[109, 97, 99, 104, 105, 110, 101] })) (MEs.cons (ME.var 2) (MEs.cons (ME.bin (BOp.mul) (ME.ix (ME.var 1) (ME.lit (D.int 2))) (ME.bin (BOp.add) (ME.lit (D.int 1)) (ME.bin (BOp.fdiv) (ME.lit (D.int 2000)) (ME.bi (Bi.len) (MEs.cons (ME.var 3) (MEs.nil)))))) (MEs.nil)))))) (MSs.nil))) (MSs.nil))) (MSs.nil))) (MSs.nil))) (MSs.nil))) (MSs.nil))) (MSs.nil))) (MSs.cons (MS.ret (ME.tup (MEs.cons (ME.lit (D.str { cps := #[109, 97, 99, 104, 105, 110, 101] })) (MEs.cons (ME.var 2) (MEs.cons (ME.bi (Bi.tuple) (MEs.cons (ME.var 3) (MEs.nil))) (MEs.nil)))))) (MSs.nil)))))))))
def b20 : MSs := (MSs.cons (MS.asg (Tg.name 1) (ME.call 10 (MEs.cons (ME.var 0) (MEs.nil)))) (MSs.cons (MS.ife (ME.not (ME.call 13 (MEs.cons (ME.lit (D.int 2000)) (MEs.cons (ME.lit (D.int 2000)) (MEs.nil))))) (MSs.cons (MS.ret (ME.lit (D.bl false))) (MSs.nil)) (MSs.nil)) (MSs.cons (MS.for (Tg.name 2) (MI.rng1 (ME.lit (D.int 2))) (MSs.cons (MS.asg (Tg.name 3) (ME.call 11 (MEs.cons (ME.var 1) (MEs.cons (ME.lit (D.int 5)) (MEs.nil))))) (MSs.cons (MS.asg (Tg.tup [7, 8]) (ME.call 18 (MEs.cons (ME.var 1) (MEs.cons (ME.var 3) (MEs.nil))))) (MSs.cons (MS.asg (Tg.tup [9, 10, 11]) (ME.var 8)) (MSs.cons (MS.ife (ME.not (ME.call 13 (MEs.cons (ME.call 6 (MEs.cons (ME.var 7) (MEs.nil))) (MEs.cons (ME.lit (D.bl true)) (MEs.nil))))) (MSs.cons (MS.ret (ME.lit (D.bl false))) (MSs.nil)) (MSs.nil)) (MSs.cons (MS.for (Tg.name 4) (MI.rng1 (ME.lit (D.int 6))) (MSs.cons (MS.asg (Tg.name 12) (ME.call 16 (MEs.cons (ME.var 1) (MEs.cons (ME.var 3) (MEs.cons (ME.lit (D.bl true)) (MEs.nil)))))) (MSs.cons (MS.asg (Tg.name 13) (ME.cmp (COp.eq) (ME.ix (ME.var 11) (ME.bin (BOp.mod) (ME.bi (Bi.sum) (MEs.cons (ME.comp (ME.bin (BOp.mul) (ME.ix (ME.var 10) (ME.var 14)) (ME.ix (ME.var 12) (ME.var 14))) (Tg.name 14) (MI.rng1 (ME.var 3)) (MEs.nil) [14]) (MEs.nil))) (ME.var 9))) (ME.lit (D.int 1)))) (MSs.cons (MS.ife (ME.not (ME.call 13 (MEs.cons (ME.call 17 (MEs.cons (ME.var 7) (MEs.cons (ME.var 12) (MEs.nil)))) (MEs.cons (ME.var 13) (MEs.nil))))) (MSs.cons (MS.ret (ME.lit (D.bl false))) (MSs.nil)) (MSs.nil)) (MSs.nil))))) (MSs.cons (MS.asg (Tg.name 5) (ME.call 19 (MEs.cons (ME.var 1) (MEs.cons (ME.var 7) (MEs.nil))))) (MSs.cons (MS.ife (ME.or (ME.not (ME.call 13 (MEs.cons (ME.call 6 (MEs.cons (ME.var 5) (MEs.nil))) (MEs.cons (ME.lit (D.bl false)) (MEs.nil))))) (ME.not (ME.call 13 (MEs.cons (ME.call 17 (MEs.cons (ME.var 5) (MEs.cons (ME.bin (BOp.mul) (ME.tup (MEs.cons (ME.lit (D.int 0)) (MEs.nil))) (ME.var 3)) (MEs.nil)))) (MEs.cons (ME.lit (D.int 0)) (MEs.nil)))))) (MSs.cons (MS.ret (ME.lit (D.bl false))) (MSs.nil)) (MSs.nil)) (MSs.cons (MS.asg (Tg.name 6) (ME.call 12 (MEs.cons (ME.var 1) (MEs.cons (ME.lst (MEs.cons (ME.bin (BOp.mul) (ME.tup (MEs.cons (ME.lit (D.int 0)) (MEs.nil))) (ME.bin (BOp.add) (ME.var 3) (ME.lit (D.int 1)))) (MEs.cons (ME.bin (BOp.mul) (ME.lst (MEs.cons (ME.lit (D.int 0)) (MEs.nil))) (ME.var 3)) (MEs.cons (ME.lit (D.non)) (MEs.cons (ME.ife (ME.cmp (COp.gt) (ME.var 3) (ME.lit (D.int 0))) (ME.bin (BOp.add) (ME.tup (MEs.cons (ME.lit (D.bl true)) (MEs.nil))) (ME.bin (BOp.mul) (ME.tup (MEs.cons (ME.lit (D.int 0)) (MEs.nil))) (ME.bin (BOp.sub) (ME.var 3) (ME.lit (D.int 1))))) (ME.lit (D.int 5))) (MEs.nil)))))) (MEs.nil))))) (MSs.cons (MS.ife (ME.cmp (COp.ne) (ME.call 17 (MEs.cons (ME.var 7) (MEs.cons (ME.var 6) (MEs.nil)))) (ME.lit (D.str { cps := #[112, 111, 105, 110, 116] }))) (MSs.cons (MS.ret (ME.lit (D.bl false))) (MSs.nil)) (MSs.nil)) (MSs.nil))))))))))) (MSs.cons (MS.ret (ME.lit (D.bl true))) (MSs.nil)))))
def T : Tb := { fns := [{ name := "is_whole", N := f0.I.N, np := 1, body := b0 }, { name := "is_point", N := f1.I.N, np := 2, body := b1 }, { name := "digits_of", N := f2.I.N, np := 1, body := b2 }, { name := "digits_list", N := f3.I.N, np := 2, body := b3 }, { name := "word_of", N := f4.I.N, np := 1, body := b4 }, { name := "is_state", N := f5.I.N, np := 3, body := b5 }, { name := "is_machine", N := f6.I.N, np := 1, body := b6 }, { name := "check_machine", N := f7.I.N, np := 2, body := b7 }, { name := "out_from", N := f8.I.N, np := 3, body := b8 }, { name := "taken", N := f9.I.N, np := 2, body := b9 }, { name := "_law_tape", N := f10.I.N, np := 1, body := b10 }, { name := "_law_draw", N := f11.I.N, np := 2, body := b11 }, { name := "_law_pick", N := f12.I.N, np := 2, body := b12 }, { name := "_law_same", N := f13.I.N, np := 2, body := b13 }, { name := "_law_number", N := f14.I.N, np := 2, body := b14 }, { name := "_law_power", N := f15.I.N, np := 1, body := b15 }, { name := "_law_point", N := f16.I.N, np := 3, body := b16 }, { name := "_law_call", N := f17.I.N, np := 2, body := b17 }, { name := "_law_made", N := f18.I.N, np := 2, body := b18 }, { name := "_law_bent", N := f19.I.N, np := 2, body := b19 }, { name := "law", N := f20.I.N, np := 1, body := b20 }], xcs := [{ name := "WholeError", up := [], fs := [] }, { name := "BadPoint", up := ["WholeError"], fs := [] }, { name := "BadMachine", up := ["WholeError"], fs := ["place"] }] }
def Fs : List FI := [f0, f1, f2, f3, f4, f5, f6, f7, f8, f9, f10, f11, f12, f13, f14, f15, f16, f17, f18, f19, f20]
theorem sc0 : FnScope f0.I.N f0.ps (defScope f0.st) := ⟨rfl, rfl, rfl, by decide +kernel, rfl, by decide +kernel, by decide +kernel⟩
theorem c0 : cSs 1000 f0.I (defBody f0.st) = some b0 := by kernel_rfl
theorem o0 : f0.Ok { name := "is_whole", N := f0.I.N, np := 1, body := b0 } wd := ⟨sc0, by decide +kernel, rfl, rfl, rfl, rfl, by decide +kernel, ⟨1000, c0⟩, rfl, rfl, rfl⟩
theorem a0 : ∀ (kV doc pm : Value) (an : Option Addr) (cdv ct : Value) (us : List Value), us.length = f0.ps.length → bindArgs (PySem.W.fnOf "is_whole" "is_whole" (defArgs (topS 7)) (defBody (topS 7)) (defScope (topS 7)) .none kV doc pm an cdv ct) ⟨us, []⟩ = pure (f0.ps.zip us) := fun _ _ _ _ _ _ us hl => match us, hl with | [_], _ => rfl
theorem sc1 : FnScope f1.I.N f1.ps (defScope f1.st) := ⟨rfl, rfl, rfl, by decide +kernel, rfl, by decide +kernel, by decide +kernel⟩
theorem c1 : cSs 1000 f1.I (defBody f1.st) = some b1 := by kernel_rfl
theorem o1 : f1.Ok { name := "is_point", N := f1.I.N, np := 2, body := b1 } wd := ⟨sc1, by decide +kernel, rfl, rfl, rfl, rfl, by decide +kernel, ⟨1000, c1⟩, rfl, rfl, rfl⟩
theorem a1 : ∀ (kV doc pm : Value) (an : Option Addr) (cdv ct : Value) (us : List Value), us.length = f1.ps.length → bindArgs (PySem.W.fnOf "is_point" "is_point" (defArgs (topS 8)) (defBody (topS 8)) (defScope (topS 8)) .none kV doc pm an cdv ct) ⟨us, []⟩ = pure (f1.ps.zip us) := fun _ _ _ _ _ _ us hl => match us, hl with | [_, _], _ => rfl
theorem sc2 : FnScope f2.I.N f2.ps (defScope f2.st) := ⟨rfl, rfl, rfl, by decide +kernel, rfl, by decide +kernel, by decide +kernel⟩
theorem c2 : cSs 1000 f2.I (defBody f2.st) = some b2 := by kernel_rfl
theorem o2 : f2.Ok { name := "digits_of", N := f2.I.N, np := 1, body := b2 } wd := ⟨sc2, by decide +kernel, rfl, rfl, rfl, rfl, by decide +kernel, ⟨1000, c2⟩, rfl, rfl, rfl⟩
theorem a2 : ∀ (kV doc pm : Value) (an : Option Addr) (cdv ct : Value) (us : List Value), us.length = f2.ps.length → bindArgs (PySem.W.fnOf "digits_of" "digits_of" (defArgs (topS 9)) (defBody (topS 9)) (defScope (topS 9)) .none kV doc pm an cdv ct) ⟨us, []⟩ = pure (f2.ps.zip us) := fun _ _ _ _ _ _ us hl => match us, hl with | [_], _ => rfl
theorem sc3 : FnScope f3.I.N f3.ps (defScope f3.st) := ⟨rfl, rfl, rfl, by decide +kernel, rfl, by decide +kernel, by decide +kernel⟩
theorem c3 : cSs 1000 f3.I (defBody f3.st) = some b3 := by kernel_rfl
theorem o3 : f3.Ok { name := "digits_list", N := f3.I.N, np := 2, body := b3 } wd := ⟨sc3, by decide +kernel, rfl, rfl, rfl, rfl, by decide +kernel, ⟨1000, c3⟩, rfl, rfl, rfl⟩
theorem a3 : ∀ (kV doc pm : Value) (an : Option Addr) (cdv ct : Value) (us : List Value), us.length = f3.ps.length → bindArgs (PySem.W.fnOf "digits_list" "digits_list" (defArgs (topS 10)) (defBody (topS 10)) (defScope (topS 10)) .none kV doc pm an cdv ct) ⟨us, []⟩ = pure (f3.ps.zip us) := fun _ _ _ _ _ _ us hl => match us, hl with | [_, _], _ => rfl
theorem sc4 : FnScope f4.I.N f4.ps (defScope f4.st) := ⟨rfl, rfl, rfl, by decide +kernel, rfl, by decide +kernel, by decide +kernel⟩
theorem c4 : cSs 1000 f4.I (defBody f4.st) = some b4 := by kernel_rfl
theorem o4 : f4.Ok { name := "word_of", N := f4.I.N, np := 1, body := b4 } wd := ⟨sc4, by decide +kernel, rfl, rfl, rfl, rfl, by decide +kernel, ⟨1000, c4⟩, rfl, rfl, rfl⟩
theorem a4 : ∀ (kV doc pm : Value) (an : Option Addr) (cdv ct : Value) (us : List Value), us.length = f4.ps.length → bindArgs (PySem.W.fnOf "word_of" "word_of" (defArgs (topS 11)) (defBody (topS 11)) (defScope (topS 11)) .none kV doc pm an cdv ct) ⟨us, []⟩ = pure (f4.ps.zip us) := fun _ _ _ _ _ _ us hl => match us, hl with | [_], _ => rfl
theorem sc5 : FnScope f5.I.N f5.ps (defScope f5.st) := ⟨rfl, rfl, rfl, by decide +kernel, rfl, by decide +kernel, by decide +kernel⟩
theorem c5 : cSs 1000 f5.I (defBody f5.st) = some b5 := by kernel_rfl
theorem o5 : f5.Ok { name := "is_state", N := f5.I.N, np := 3, body := b5 } wd := ⟨sc5, by decide +kernel, rfl, rfl, rfl, rfl, by decide +kernel, ⟨1000, c5⟩, rfl, rfl, rfl⟩
theorem a5 : ∀ (kV doc pm : Value) (an : Option Addr) (cdv ct : Value) (us : List Value), us.length = f5.ps.length → bindArgs (PySem.W.fnOf "is_state" "is_state" (defArgs (topS 14)) (defBody (topS 14)) (defScope (topS 14)) .none kV doc pm an cdv ct) ⟨us, []⟩ = pure (f5.ps.zip us) := fun _ _ _ _ _ _ us hl => match us, hl with | [_, _, _], _ => rfl
theorem sc6 : FnScope f6.I.N f6.ps (defScope f6.st) := ⟨rfl, rfl, rfl, by decide +kernel, rfl, by decide +kernel, by decide +kernel⟩
theorem c6 : cSs 1000 f6.I (defBody f6.st) = some b6 := by kernel_rfl
theorem o6 : f6.Ok { name := "is_machine", N := f6.I.N, np := 1, body := b6 } wd := ⟨sc6, by decide +kernel, rfl, rfl, rfl, rfl, by decide +kernel, ⟨1000, c6⟩, rfl, rfl, rfl⟩
theorem a6 : ∀ (kV doc pm : Value) (an : Option Addr) (cdv ct : Value) (us : List Value), us.length = f6.ps.length → bindArgs (PySem.W.fnOf "is_machine" "is_machine" (defArgs (topS 15)) (defBody (topS 15)) (defScope (topS 15)) .none kV doc pm an cdv ct) ⟨us, []⟩ = pure (f6.ps.zip us) := fun _ _ _ _ _ _ us hl => match us, hl with | [_], _ => rfl
theorem sc7 : FnScope f7.I.N f7.ps (defScope f7.st) := ⟨rfl, rfl, rfl, by decide +kernel, rfl, by decide +kernel, by decide +kernel⟩
theorem c7 : cSs 1000 f7.I (defBody f7.st) = some b7 := by kernel_rfl
theorem o7 : f7.Ok { name := "check_machine", N := f7.I.N, np := 2, body := b7 } wd := ⟨sc7, by decide +kernel, rfl, rfl, rfl, rfl, by decide +kernel, ⟨1000, c7⟩, rfl, rfl, rfl⟩
theorem a7 : ∀ (kV doc pm : Value) (an : Option Addr) (cdv ct : Value) (us : List Value), us.length = f7.ps.length → bindArgs (PySem.W.fnOf "check_machine" "check_machine" (defArgs (topS 16)) (defBody (topS 16)) (defScope (topS 16)) .none kV doc pm an cdv ct) ⟨us, []⟩ = pure (f7.ps.zip us) := fun _ _ _ _ _ _ us hl => match us, hl with | [_, _], _ => rfl
theorem sc8 : FnScope f8.I.N f8.ps (defScope f8.st) := ⟨rfl, rfl, rfl, by decide +kernel, rfl, by decide +kernel, by decide +kernel⟩
theorem c8 : cSs 1000 f8.I (defBody f8.st) = some b8 := by kernel_rfl
theorem o8 : f8.Ok { name := "out_from", N := f8.I.N, np := 3, body := b8 } wd := ⟨sc8, by decide +kernel, rfl, rfl, rfl, rfl, by decide +kernel, ⟨1000, c8⟩, rfl, rfl, rfl⟩
theorem a8 : ∀ (kV doc pm : Value) (an : Option Addr) (cdv ct : Value) (us : List Value), us.length = f8.ps.length → bindArgs (PySem.W.fnOf "out_from" "out_from" (defArgs (topS 17)) (defBody (topS 17)) (defScope (topS 17)) .none kV doc pm an cdv ct) ⟨us, []⟩ = pure (f8.ps.zip us) := fun _ _ _ _ _ _ us hl => match us, hl with | [_, _, _], _ => rfl
theorem sc9 : FnScope f9.I.N f9.ps (defScope f9.st) := ⟨rfl, rfl, rfl, by decide +kernel, rfl, by decide +kernel, by decide +kernel⟩
theorem c9 : cSs 1000 f9.I (defBody f9.st) = some b9 := by kernel_rfl
theorem o9 : f9.Ok { name := "taken", N := f9.I.N, np := 2, body := b9 } wd := ⟨sc9, by decide +kernel, rfl, rfl, rfl, rfl, by decide +kernel, ⟨1000, c9⟩, rfl, rfl, rfl⟩
theorem a9 : ∀ (kV doc pm : Value) (an : Option Addr) (cdv ct : Value) (us : List Value), us.length = f9.ps.length → bindArgs (PySem.W.fnOf "taken" "taken" (defArgs (topS 18)) (defBody (topS 18)) (defScope (topS 18)) .none kV doc pm an cdv ct) ⟨us, []⟩ = pure (f9.ps.zip us) := fun _ _ _ _ _ _ us hl => match us, hl with | [_, _], _ => rfl
theorem sc10 : FnScope f10.I.N f10.ps (defScope f10.st) := ⟨rfl, rfl, rfl, by decide +kernel, rfl, by decide +kernel, by decide +kernel⟩
theorem c10 : cSs 1000 f10.I (defBody f10.st) = some b10 := by kernel_rfl
theorem o10 : f10.Ok { name := "_law_tape", N := f10.I.N, np := 1, body := b10 } wd := ⟨sc10, by decide +kernel, rfl, rfl, rfl, rfl, by decide +kernel, ⟨1000, c10⟩, rfl, rfl, rfl⟩
theorem a10 : ∀ (kV doc pm : Value) (an : Option Addr) (cdv ct : Value) (us : List Value), us.length = f10.ps.length → bindArgs (PySem.W.fnOf "_law_tape" "_law_tape" (defArgs (topS 20)) (defBody (topS 20)) (defScope (topS 20)) .none kV doc pm an cdv ct) ⟨us, []⟩ = pure (f10.ps.zip us) := fun _ _ _ _ _ _ us hl => match us, hl with | [_], _ => rfl
theorem sc11 : FnScope f11.I.N f11.ps (defScope f11.st) := ⟨rfl, rfl, rfl, by decide +kernel, rfl, by decide +kernel, by decide +kernel⟩
theorem c11 : cSs 1000 f11.I (defBody f11.st) = some b11 := by kernel_rfl
theorem o11 : f11.Ok { name := "_law_draw", N := f11.I.N, np := 2, body := b11 } wd := ⟨sc11, by decide +kernel, rfl, rfl, rfl, rfl, by decide +kernel, ⟨1000, c11⟩, rfl, rfl, rfl⟩
theorem a11 : ∀ (kV doc pm : Value) (an : Option Addr) (cdv ct : Value) (us : List Value), us.length = f11.ps.length → bindArgs (PySem.W.fnOf "_law_draw" "_law_draw" (defArgs (topS 21)) (defBody (topS 21)) (defScope (topS 21)) .none kV doc pm an cdv ct) ⟨us, []⟩ = pure (f11.ps.zip us) := fun _ _ _ _ _ _ us hl => match us, hl with | [_, _], _ => rfl
theorem sc12 : FnScope f12.I.N f12.ps (defScope f12.st) := ⟨rfl, rfl, rfl, by decide +kernel, rfl, by decide +kernel, by decide +kernel⟩
theorem c12 : cSs 1000 f12.I (defBody f12.st) = some b12 := by kernel_rfl
theorem o12 : f12.Ok { name := "_law_pick", N := f12.I.N, np := 2, body := b12 } wd := ⟨sc12, by decide +kernel, rfl, rfl, rfl, rfl, by decide +kernel, ⟨1000, c12⟩, rfl, rfl, rfl⟩
theorem a12 : ∀ (kV doc pm : Value) (an : Option Addr) (cdv ct : Value) (us : List Value), us.length = f12.ps.length → bindArgs (PySem.W.fnOf "_law_pick" "_law_pick" (defArgs (topS 22)) (defBody (topS 22)) (defScope (topS 22)) .none kV doc pm an cdv ct) ⟨us, []⟩ = pure (f12.ps.zip us) := fun _ _ _ _ _ _ us hl => match us, hl with | [_, _], _ => rfl
theorem sc13 : FnScope f13.I.N f13.ps (defScope f13.st) := ⟨rfl, rfl, rfl, by decide +kernel, rfl, by decide +kernel, by decide +kernel⟩
theorem c13 : cSs 1000 f13.I (defBody f13.st) = some b13 := by kernel_rfl
theorem o13 : f13.Ok { name := "_law_same", N := f13.I.N, np := 2, body := b13 } wd := ⟨sc13, by decide +kernel, rfl, rfl, rfl, rfl, by decide +kernel, ⟨1000, c13⟩, rfl, rfl, rfl⟩
theorem a13 : ∀ (kV doc pm : Value) (an : Option Addr) (cdv ct : Value) (us : List Value), us.length = f13.ps.length → bindArgs (PySem.W.fnOf "_law_same" "_law_same" (defArgs (topS 23)) (defBody (topS 23)) (defScope (topS 23)) .none kV doc pm an cdv ct) ⟨us, []⟩ = pure (f13.ps.zip us) := fun _ _ _ _ _ _ us hl => match us, hl with | [_, _], _ => rfl
theorem sc14 : FnScope f14.I.N f14.ps (defScope f14.st) := ⟨rfl, rfl, rfl, by decide +kernel, rfl, by decide +kernel, by decide +kernel⟩
theorem c14 : cSs 1000 f14.I (defBody f14.st) = some b14 := by kernel_rfl
theorem o14 : f14.Ok { name := "_law_number", N := f14.I.N, np := 2, body := b14 } wd := ⟨sc14, by decide +kernel, rfl, rfl, rfl, rfl, by decide +kernel, ⟨1000, c14⟩, rfl, rfl, rfl⟩
theorem a14 : ∀ (kV doc pm : Value) (an : Option Addr) (cdv ct : Value) (us : List Value), us.length = f14.ps.length → bindArgs (PySem.W.fnOf "_law_number" "_law_number" (defArgs (topS 24)) (defBody (topS 24)) (defScope (topS 24)) .none kV doc pm an cdv ct) ⟨us, []⟩ = pure (f14.ps.zip us) := fun _ _ _ _ _ _ us hl => match us, hl with | [_, _], _ => rfl
theorem sc15 : FnScope f15.I.N f15.ps (defScope f15.st) := ⟨rfl, rfl, rfl, by decide +kernel, rfl, by decide +kernel, by decide +kernel⟩
theorem c15 : cSs 1000 f15.I (defBody f15.st) = some b15 := by kernel_rfl
theorem o15 : f15.Ok { name := "_law_power", N := f15.I.N, np := 1, body := b15 } wd := ⟨sc15, by decide +kernel, rfl, rfl, rfl, rfl, by decide +kernel, ⟨1000, c15⟩, rfl, rfl, rfl⟩
theorem a15 : ∀ (kV doc pm : Value) (an : Option Addr) (cdv ct : Value) (us : List Value), us.length = f15.ps.length → bindArgs (PySem.W.fnOf "_law_power" "_law_power" (defArgs (topS 25)) (defBody (topS 25)) (defScope (topS 25)) .none kV doc pm an cdv ct) ⟨us, []⟩ = pure (f15.ps.zip us) := fun _ _ _ _ _ _ us hl => match us, hl with | [_], _ => rfl
theorem sc16 : FnScope f16.I.N f16.ps (defScope f16.st) := ⟨rfl, rfl, rfl, by decide +kernel, rfl, by decide +kernel, by decide +kernel⟩
theorem c16 : cSs 1000 f16.I (defBody f16.st) = some b16 := by kernel_rfl
theorem o16 : f16.Ok { name := "_law_point", N := f16.I.N, np := 3, body := b16 } wd := ⟨sc16, by decide +kernel, rfl, rfl, rfl, rfl, by decide +kernel, ⟨1000, c16⟩, rfl, rfl, rfl⟩
theorem a16 : ∀ (kV doc pm : Value) (an : Option Addr) (cdv ct : Value) (us : List Value), us.length = f16.ps.length → bindArgs (PySem.W.fnOf "_law_point" "_law_point" (defArgs (topS 26)) (defBody (topS 26)) (defScope (topS 26)) .none kV doc pm an cdv ct) ⟨us, []⟩ = pure (f16.ps.zip us) := fun _ _ _ _ _ _ us hl => match us, hl with | [_, _, _], _ => rfl
theorem sc17 : FnScope f17.I.N f17.ps (defScope f17.st) := ⟨rfl, rfl, rfl, by decide +kernel, rfl, by decide +kernel, by decide +kernel⟩
theorem c17 : cSs 1000 f17.I (defBody f17.st) = some b17 := by kernel_rfl
theorem o17 : f17.Ok { name := "_law_call", N := f17.I.N, np := 2, body := b17 } wd := ⟨sc17, by decide +kernel, rfl, rfl, rfl, rfl, by decide +kernel, ⟨1000, c17⟩, rfl, rfl, rfl⟩
theorem a17 : ∀ (kV doc pm : Value) (an : Option Addr) (cdv ct : Value) (us : List Value), us.length = f17.ps.length → bindArgs (PySem.W.fnOf "_law_call" "_law_call" (defArgs (topS 27)) (defBody (topS 27)) (defScope (topS 27)) .none kV doc pm an cdv ct) ⟨us, []⟩ = pure (f17.ps.zip us) := fun _ _ _ _ _ _ us hl => match us, hl with | [_, _], _ => rfl
theorem sc18 : FnScope f18.I.N f18.ps (defScope f18.st) := ⟨rfl, rfl, rfl, by decide +kernel, rfl, by decide +kernel, by decide +kernel⟩
theorem c18 : cSs 1000 f18.I (defBody f18.st) = some b18 := by kernel_rfl
theorem o18 : f18.Ok { name := "_law_made", N := f18.I.N, np := 2, body := b18 } wd := ⟨sc18, by decide +kernel, rfl, rfl, rfl, rfl, by decide +kernel, ⟨1000, c18⟩, rfl, rfl, rfl⟩
theorem a18 : ∀ (kV doc pm : Value) (an : Option Addr) (cdv ct : Value) (us : List Value), us.length = f18.ps.length → bindArgs (PySem.W.fnOf "_law_made" "_law_made" (defArgs (topS 28)) (defBody (topS 28)) (defScope (topS 28)) .none kV doc pm an cdv ct) ⟨us, []⟩ = pure (f18.ps.zip us) := fun _ _ _ _ _ _ us hl => match us, hl with | [_, _], _ => rfl
theorem sc19 : FnScope f19.I.N f19.ps (defScope f19.st) := ⟨rfl, rfl, rfl, by decide +kernel, rfl, by decide +kernel, by decide +kernel⟩
theorem c19 : cSs 1000 f19.I (defBody f19.st) = some b19 := by kernel_rfl
theorem o19 : f19.Ok { name := "_law_bent", N := f19.I.N, np := 2, body := b19 } wd := ⟨sc19, by decide +kernel, rfl, rfl, rfl, rfl, by decide +kernel, ⟨1000, c19⟩, rfl, rfl, rfl⟩
theorem a19 : ∀ (kV doc pm : Value) (an : Option Addr) (cdv ct : Value) (us : List Value), us.length = f19.ps.length → bindArgs (PySem.W.fnOf "_law_bent" "_law_bent" (defArgs (topS 29)) (defBody (topS 29)) (defScope (topS 29)) .none kV doc pm an cdv ct) ⟨us, []⟩ = pure (f19.ps.zip us) := fun _ _ _ _ _ _ us hl => match us, hl with | [_, _], _ => rfl
theorem sc20 : FnScope f20.I.N f20.ps (defScope f20.st) := ⟨rfl, rfl, rfl, by decide +kernel, rfl, by decide +kernel, by decide +kernel⟩
theorem c20 : cSs 1000 f20.I (defBody f20.st) = some b20 := by kernel_rfl
theorem o20 : f20.Ok { name := "law", N := f20.I.N, np := 1, body := b20 } wd := ⟨sc20, by decide +kernel, rfl, rfl, rfl, rfl, by decide +kernel, ⟨1000, c20⟩, rfl, rfl, rfl⟩
theorem a20 : ∀ (kV doc pm : Value) (an : Option Addr) (cdv ct : Value) (us : List Value), us.length = f20.ps.length → bindArgs (PySem.W.fnOf "law" "law" (defArgs (topS 30)) (defBody (topS 30)) (defScope (topS 30)) .none kV doc pm an cdv ct) ⟨us, []⟩ = pure (f20.ps.zip us) := fun _ _ _ _ _ _ us hl => match us, hl with | [_], _ => rfl
def initS (i : Nat) : Stmt := match topS i with
  | .ClassDef _ _ _ b _ _ _ _ _ _ _ => b.getD 0 (.Pass ⟨0, 0, 0, 0⟩)
  | s => s
theorem xs_all {P : Program} {w : World} {K : PySem.W.Frag} {h : Heap} {mg : Str → Option Value} (KX : K.In h) (G : h.Ns mainGlobals mg) {C0 : Addr} {C1 : Addr} {C2 : Addr} {nm2 q2 : Str} {N2 I2 : Addr} {bs2 bm2 : List Value} {sn2 : List Str} {su2 : List Value} {ab2 : Bool} {co2 : Option Bool} {dd2 : Option Addr} {m02 m12 m22 m32 m52 : Option Value} {oc2 kV2 dc2 pm2 cd2 ct2 : Value} {od2 an2 : Option Addr} {sl2 : Array (Option Value)}
    (a0 : PySem.W.nsIn K mainGlobals "WholeError" = some (some (.ref C0))) (k0 : PySem.W.keepIn K (.ref C0) = true) (s0 : PySem.W.subIn K (.ref C0) (.type "BaseException") = some true) (t0 : PySem.W.typeIn K (.ref C0) = some (.type "type"))
    (x0 : PySem.W.excIn K C0 veTail "ValueError.__new__" = true)
    (a1 : PySem.W.nsIn K mainGlobals "BadPoint" = some (some (.ref C1))) (k1 : PySem.W.keepIn K (.ref C1) = true) (s1 : PySem.W.subIn K (.ref C1) (.type "BaseException") = some true) (t1 : PySem.W.typeIn K (.ref C1) = some (.type "type"))
    (x1 : PySem.W.excIn K C1 veTail "ValueError.__new__" = true)
    (a2 : PySem.W.nsIn K mainGlobals "BadMachine" = some (some (.ref C2))) (k2 : PySem.W.keepIn K (.ref C2) = true) (s2 : PySem.W.subIn K (.ref C2) (.type "BaseException") = some true) (t2 : PySem.W.typeIn K (.ref C2) = some (.type "type"))
    (L2 : K.lookup C2 = some (excClassObj nm2 q2 C2 N2 bs2 bm2 true sn2 su2 ab2 co2 dd2 m02 m12 m22 m32 m52 "ValueError.__new__")) (r2 : PySem.HandSPX.refsVE bm2 = true) (u2 : PySem.W.findIn K (.ref C2) "__setattr__" = some (some (.builtin "object.__setattr__")))
    (g2 : PySem.W.findIn K (.ref C2) "__getattribute__" = some (some (.builtin "BaseException.__getattribute__"))) (h2 : PySem.W.findIn K (.ref C2) "__getattr__" = some none) (d2 : PySem.W.hasDictIn K C2 = true)
    (no2_place : PySem.W.findIn K (.ref C2) "place" = some none)
    (i2 : PySem.W.findIn K (.ref C2) "__init__" = some (some (.ref I2))) (ti2 : PySem.W.typeIn K (.ref I2) = some (.type "function"))
    (l2 : K.lookup I2 = some ⟨oc2, od2, .func (PySem.W.fnOf "__init__" "BadMachine.__init__" (defArgs (initS 3)) (defBody (initS 3)) (defScope (initS 3)) .none kV2 dc2 pm2 an2 cd2 ct2), sl2⟩) (c2 : PySem.W.codeIn K cd2 "BadMachine.__init__" = true) (ki2 : PySem.W.keepIn K (.ref I2) = true)
    (e0_0 : PySem.W.exmOne K (.ref C0) (.ref C0) = some true)
    (e0_1 : PySem.W.exmOne K (.ref C0) (.ref C1) = some false)
    (e0_2 : PySem.W.exmOne K (.ref C0) (.ref C2) = some false)
    (e1_0 : PySem.W.exmOne K (.ref C1) (.ref C0) = some true)
    (e1_1 : PySem.W.exmOne K (.ref C1) (.ref C1) = some true)
    (e1_2 : PySem.W.exmOne K (.ref C1) (.ref C2) = some false)
    (e2_0 : PySem.W.exmOne K (.ref C2) (.ref C0) = some true)
    (e2_1 : PySem.W.exmOne K (.ref C2) (.ref C1) = some false)
    (e2_2 : PySem.W.exmOne K (.ref C2) (.ref C2) = some true) :
    ∃ CM : Str → Option Addr, ∀ base : Heap, K.In base → base.Ns mainGlobals mg → XsOk P w K mg base CM T.xcs := by
  refine xs_mk [C0, C1, C2] rfl (by decide +kernel) (fun i k C e1 e2 base hb hn CM hCM => ?_) (fun i j k m C D e1 e2 e3 e4 => ?_)
  · match i, e1, e2 with
    | 0, e1, e2 => cases e1; cases e2; exact ⟨hCM, PySem.W.mg_of KX G a0, k0, s0, t0, .inl ⟨rfl, x0⟩⟩
    | 1, e1, e2 => cases e1; cases e2; exact ⟨hCM, PySem.W.mg_of KX G a1, k1, s1, t1, .inl ⟨rfl, x1⟩⟩
    | 2, e1, e2 =>
      cases e1; cases e2
      have ox : OexC K C2 := ⟨⟨_, _, _, _, _, _, _, _, _, _, _, _, _, _, _, L2, r2⟩, u2, s2, t2, k2⟩
      have F := fun_mk (st := initS 3) l2 c2 ki2
      have S : FnScope ["self", "place"] ["self", "place"] (defScope (initS 3)) := ⟨rfl, rfl, rfl, by decide +kernel, rfl, by decide +kernel, by decide +kernel⟩
      refine ⟨hCM, PySem.W.mg_of KX G a2, k2, s2, t2, .inr ⟨by decide, by decide, ox, ⟨g2, h2, s2, d2⟩, fun f hf => ?_, I2, _, ["self", "place"], i2, ti2, .all (fun us hl => match us, hl with | [_, _], _ => rfl), init1 F S rfl (by decide) (by decide) ox no2_place⟩⟩
      simp only [List.mem_cons, List.not_mem_nil, or_false] at hf
      subst hf; exact no2_place
    | i + 3, e1, _ => simp [T] at e1
  · match i, e1, e2, j, e3, e4 with
    | 0, e1, e2, 0, e3, e4 => cases e1; cases e2; cases e3; cases e4; exact e0_0
    | 0, e1, e2, 1, e3, e4 => cases e1; cases e2; cases e3; cases e4; exact e0_1
    | 0, e1, e2, 2, e3, e4 => cases e1; cases e2; cases e3; cases e4; exact e0_2
    | 0, _, _, j + 3, e3, _ => simp [T] at e3
    | 1, e1, e2, 0, e3, e4 => cases e1; cases e2; cases e3; cases e4; exact e1_0
    | 1, e1, e2, 1, e3, e4 => cases e1; cases e2; cases e3; cases e4; exact e1_1
    | 1, e1, e2, 2, e3, e4 => cases e1; cases e2; cases e3; cases e4; exact e1_2
    | 1, _, _, j + 3, e3, _ => simp [T] at e3
    | 2, e1, e2, 0, e3, e4 => cases e1; cases e2; cases e3; cases e4; exact e2_0
    | 2, e1, e2, 1, e3, e4 => cases e1; cases e2; cases e3; cases e4; exact e2_1
    | 2, e1, e2, 2, e3, e4 => cases e1; cases e2; cases e3; cases e4; exact e2_2
    | 2, _, _, j + 3, e3, _ => simp [T] at e3
    | i + 3, e1, _, _, _, _ => simp [T] at e1
theorem all_ok : ∀ (i : Nat) (F : FI) (fn : Fn), Fs[i]? = some F → T.fns[i]? = some fn → F.Ok fn wd := by
  intro i F fn e1 e2
  match i, e1, e2 with
  | 0, e1, e2 => cases e1; cases e2; exact o0
  | 1, e1, e2 => cases e1; cases e2; exact o1
  | 2, e1, e2 => cases e1; cases e2; exact o2
  | 3, e1, e2 => cases e1; cases e2; exact o3
  | 4, e1, e2 => cases e1; cases e2; exact o4
  | 5, e1, e2 => cases e1; cases e2; exact o5
  | 6, e1, e2 => cases e1; cases e2; exact o6
  | 7, e1, e2 => cases e1; cases e2; exact o7
  | 8, e1, e2 => cases e1; cases e2; exact o8
  | 9, e1, e2 => cases e1; cases e2; exact o9
  | 10, e1, e2 => cases e1; cases e2; exact o10
  | 11, e1, e2 => cases e1; cases e2; exact o11
  | 12, e1, e2 => cases e1; cases e2; exact o12
  | 13, e1, e2 => cases e1; cases e2; exact o13
  | 14, e1, e2 => cases e1; cases e2; exact o14
  | 15, e1, e2 => cases e1; cases e2; exact o15
  | 16, e1, e2 => cases e1; cases e2; exact o16
  | 17, e1, e2 => cases e1; cases e2; exact o17
  | 18, e1, e2 => cases e1; cases e2; exact o18
  | 19, e1, e2 => cases e1; cases e2; exact o19
  | 20, e1, e2 => cases e1; cases e2; exact o20
  | i + 21, e1, _ => simp [Fs] at e1
end Mk

set_option Elab.async false
set_option linter.all false
set_option maxRecDepth 100000
set_option maxHeartbeats 4000000
namespace Mk
open PySem Mi
def Tape (h : AH) (r : Nat) : Prop := ∃ (c : Nat) (cs : List Int) (s : Int), c ≠ r ∧ h[r]? = some (.lst [.ref c, .int s]) ∧ h[c]? = some (.lst (cs.map D.int))
theorem bi_len_ref {h : AH} {r : Nat} {ds : List D} (e : h[r]? = some (.lst ds)) : biOf .len [.ref r] h = some (.ok (.int ds.length) h) := by
  show (D.seq? (.ref r) h).map _ = _
  simp only [D.seq?, e, Option.map_some]
theorem set2_1 {a b x : D} : setIx (.lst [a, b]) (.int 1) x = some (.lst [a, x]) := rfl
def wc : ME := match b11 with
  | .cons _ (.cons (.whl c _) _) => c
  | _ => .var 0
def wb : MSs := match b11 with
  | .cons _ (.cons (.whl _ b) _) => b
  | _ => .nil
theorem zeros {C : Nat → List D → M D} {G : List XC} (r c : Nat) (many : D) (x3 : Option D) : ∀ (cs : List Int) (h : AH), h[c]? = some (.lst (cs.map D.int)) →
    ∃ (cs' : List Int) (h' : AH), runW C G wc wb [some (.ref r), some many, some (.ref c), x3] h = some (.nx [some (.ref r), some many, some (.ref c), x3] h') ∧ (∀ a t, cs' = a :: t → a ≠ 0) ∧ h'[c]? = some (.lst (cs'.map D.int)) ∧ ∀ j, j ≠ c → h'[j]? = h[j]?
  | [], h, e => by
    refine ⟨[], h, runW_out (h' := h) ?_, (fun a t q => by cases q), e, fun _ _ => rfl⟩
    have e2 := bi_len_ref e
    simp -dsimp -implicitDefEqProofs only [exs, exc, ev, islM, evs, tst, tsts, evi, M.ret_def, M.lift_some, SR.end_rt, SR.end_nx, SR.end_ex, get_zero, get_succ, Tg.set_name, Tg.set_tup, setAll, List.set_cons_zero, List.set_cons_succ, Option.map_some, Option.map_none, eq_ints, ne_ints, lt_ints, le_ints, gt_ints, ge_ints, add_ints, sub_ints, truthy_bl, truthy_int, bi_int, bi_abs, bi_max2, bi_min2, bi_len_fz, bi_len_lst, bi_len_tup, bi_repr, ix_lst, ix_tup, ix_fz, at4_0, at4_1, at4_2, at4_3, set4_0, set4_1, set4_2, set4_3, at3_0, at3_1, at3_2, set3_0, set3_1, set3_2, decide_eq_true_eq, ite_true, ite_false, if_true, if_false, Bool.false_eq_true, Bool.not_eq_true', decide_eq_false_iff_not, Bool.not_true, Bool.not_false, List.foldr_cons, List.foldr_nil, Ty.has, Option.bind_some, ↓exc_whl, ↓exc_for, ↓ev_comp, ↓z_ite, ↓z_bind, ↓z_bd, ↓z_sbd, ↓z_sq, ↓z_tn, bdz_ok, bdz_exc, sbdz_ok, sbdz_exc, sqz_nx, sqz_rt, sqz_bk, sqz_ct, sqz_ex, tnz_nx, tnz_rt, tnz_bk, tnz_ct, tnz_ex, kFor_ok, runF_nil, turn_name, wipeE, Int.cast_ofNat_Int, Int.natCast_zero, Int.natCast_one, Int.reduceEq, Int.reduceLT, Int.reduceLE, Int.reduceNeg, part_nil, part_int, cutOf_tup, isi_def, items_lst, items_tup, items_fz, isAny, eq_self, decide_true, decide_false, not_true_eq_false, not_false_eq_true, ne_eq,  sizeLine_eq, List.length_cons, List.length_nil, Nat.reduceAdd, Nat.reduceLeDiff, Nat.zero_add, wc, b11, e2, List.map_nil, List.length_nil, Int.lt_irrefl]
  | a :: cs, h, e => by
    have e2 := bi_len_ref e
    have g1 : (0 : Int) < ((a :: cs).map D.int).length := by simp only [List.map_cons, List.length_cons]; omega
    have e3 : L2.atI ((a :: cs).map D.int) 0 = some (.int a) := atI_nat (by decide) rfl
    by_cases ha : a = 0
    · subst ha
      have e4 : h[c]? = some (.lst (.int 0 :: cs.map D.int)) := e
      obtain ⟨cs', h', e1, p1, p2, p3⟩ := zeros r c many x3 cs (h.set c (.lst (cs.map D.int))) (heap_set e)
      refine ⟨cs', h', ?_, p1, p2, fun j hj => (p3 j hj).trans (List.getElem?_set_ne (Ne.symm hj))⟩
      rw [← e1]
      refine runW_in (h' := h) ?_ ?_
      · simp -dsimp -implicitDefEqProofs only [exs, exc, ev, islM, evs, tst, tsts, evi, M.ret_def, M.lift_some, SR.end_rt, SR.end_nx, SR.end_ex, get_zero, get_succ, Tg.set_name, Tg.set_tup, setAll, List.set_cons_zero, List.set_cons_succ, Option.map_some, Option.map_none, eq_ints, ne_ints, lt_ints, le_ints, gt_ints, ge_ints, add_ints, sub_ints, truthy_bl, truthy_int, bi_int, bi_abs, bi_max2, bi_min2, bi_len_fz, bi_len_lst, bi_len_tup, bi_repr, ix_lst, ix_tup, ix_fz, at4_0, at4_1, at4_2, at4_3, set4_0, set4_1, set4_2, set4_3, at3_0, at3_1, at3_2, set3_0, set3_1, set3_2, decide_eq_true_eq, ite_true, ite_false, if_true, if_false, Bool.false_eq_true, Bool.not_eq_true', decide_eq_false_iff_not, Bool.not_true, Bool.not_false, List.foldr_cons, List.foldr_nil, Ty.has, Option.bind_some, ↓exc_whl, ↓exc_for, ↓ev_comp, ↓z_ite, ↓z_bind, ↓z_bd, ↓z_sbd, ↓z_sq, ↓z_tn, bdz_ok, bdz_exc, sbdz_ok, sbdz_exc, sqz_nx, sqz_rt, sqz_bk, sqz_ct, sqz_ex, tnz_nx, tnz_rt, tnz_bk, tnz_ct, tnz_ex, kFor_ok, runF_nil, turn_name, wipeE, Int.cast_ofNat_Int, Int.natCast_zero, Int.natCast_one, Int.reduceEq, Int.reduceLT, Int.reduceLE, Int.reduceNeg, part_nil, part_int, cutOf_tup, isi_def, items_lst, items_tup, items_fz, isAny, eq_self, decide_true, decide_false, not_true_eq_false, not_false_eq_true, ne_eq,  sizeLine_eq, List.length_cons, List.length_nil, Nat.reduceAdd, Nat.reduceLeDiff, Nat.zero_add, wc, b11, e2, eq_true g1, e, e3]
      · simp -dsimp -implicitDefEqProofs only [exs, exc, ev, islM, evs, tst, tsts, evi, M.ret_def, M.lift_some, SR.end_rt, SR.end_nx, SR.end_ex, get_zero, get_succ, Tg.set_name, Tg.set_tup, setAll, List.set_cons_zero, List.set_cons_succ, Option.map_some, Option.map_none, eq_ints, ne_ints, lt_ints, le_ints, gt_ints, ge_ints, add_ints, sub_ints, truthy_bl, truthy_int, bi_int, bi_abs, bi_max2, bi_min2, bi_len_fz, bi_len_lst, bi_len_tup, bi_repr, ix_lst, ix_tup, ix_fz, at4_0, at4_1, at4_2, at4_3, set4_0, set4_1, set4_2, set4_3, at3_0, at3_1, at3_2, set3_0, set3_1, set3_2, decide_eq_true_eq, ite_true, ite_false, if_true, if_false, Bool.false_eq_true, Bool.not_eq_true', decide_eq_false_iff_not, Bool.not_true, Bool.not_false, List.foldr_cons, List.foldr_nil, Ty.has, Option.bind_some, ↓exc_whl, ↓exc_for, ↓ev_comp, ↓z_ite, ↓z_bind, ↓z_bd, ↓z_sbd, ↓z_sq, ↓z_tn, bdz_ok, bdz_exc, sbdz_ok, sbdz_exc, sqz_nx, sqz_rt, sqz_bk, sqz_ct, sqz_ex, tnz_nx, tnz_rt, tnz_bk, tnz_ct, tnz_ex, kFor_ok, runF_nil, turn_name, wipeE, Int.cast_ofNat_Int, Int.natCast_zero, Int.natCast_one, Int.reduceEq, Int.reduceLT, Int.reduceLE, Int.reduceNeg, part_nil, part_int, cutOf_tup, isi_def, items_lst, items_tup, items_fz, isAny, eq_self, decide_true, decide_false, not_true_eq_false, not_false_eq_true, ne_eq,  sizeLine_eq, List.length_cons, List.length_nil, Nat.reduceAdd, Nat.reduceLeDiff, Nat.zero_add, wb, b11, e]
        have q : L2.ixN (List.map D.int (0 :: cs)).length 0 = some 0 := by
          unfold L2.ixN
          rw [if_pos (by decide), if_pos (by simp)]
          rfl
        simp only [q]
        rfl
    · refine ⟨a :: cs, h, runW_out (h' := h) ?_, fun b t q => ?_, e, fun _ _ => rfl⟩
      · simp -dsimp -implicitDefEqProofs only [exs, exc, ev, islM, evs, tst, tsts, evi, M.ret_def, M.lift_some, SR.end_rt, SR.end_nx, SR.end_ex, get_zero, get_succ, Tg.set_name, Tg.set_tup, setAll, List.set_cons_zero, List.set_cons_succ, Option.map_some, Option.map_none, eq_ints, ne_ints, lt_ints, le_ints, gt_ints, ge_ints, add_ints, sub_ints, truthy_bl, truthy_int, bi_int, bi_abs, bi_max2, bi_min2, bi_len_fz, bi_len_lst, bi_len_tup, bi_repr, ix_lst, ix_tup, ix_fz, at4_0, at4_1, at4_2, at4_3, set4_0, set4_1, set4_2, set4_3, at3_0, at3_1, at3_2, set3_0, set3_1, set3_2, decide_eq_true_eq, ite_true, ite_false, if_true, if_false, Bool.false_eq_true, Bool.not_eq_true', decide_eq_false_iff_not, Bool.not_true, Bool.not_false, List.foldr_cons, List.foldr_nil, Ty.has, Option.bind_some, ↓exc_whl, ↓exc_for, ↓ev_comp, ↓z_ite, ↓z_bind, ↓z_bd, ↓z_sbd, ↓z_sq, ↓z_tn, bdz_ok, bdz_exc, sbdz_ok, sbdz_exc, sqz_nx, sqz_rt, sqz_bk, sqz_ct, sqz_ex, tnz_nx, tnz_rt, tnz_bk, tnz_ct, tnz_ex, kFor_ok, runF_nil, turn_name, wipeE, Int.cast_ofNat_Int, Int.natCast_zero, Int.natCast_one, Int.reduceEq, Int.reduceLT, Int.reduceLE, Int.reduceNeg, part_nil, part_int, cutOf_tup, isi_def, items_lst, items_tup, items_fz, isAny, eq_self, decide_true, decide_false, not_true_eq_false, not_false_eq_true, ne_eq,  sizeLine_eq, List.length_cons, List.length_nil, Nat.reduceAdd, Nat.reduceLeDiff, Nat.zero_add, wc, b11, e2, eq_true g1, e, e3, eq_false ha]
      · cases q; exact ha
theorem draw_ok (k : Nat) (h : AH) (r : Nat) (many : Int) (hb : Tape h r) (h1 : 1 ≤ many) (hm : Bl many 8000) :
    ∃ x h', cal T (k + 1) 11 [.ref r, .int many] h = some (.ok (.int x) h') ∧ 0 ≤ x ∧ x < many ∧ Tape h' r := by
  rw [cal_unf (F := T.fns[11]) rfl rfl]
  obtain ⟨c, cs, s, hne, er, ec⟩ := hb
  have hm0 : many ≠ 0 := by omega
  have hd : divOk many = true := divOk_bl hm0 hm (by decide)
  have hd64 : divOk 64 = true := by decide
  have hx : ∀ y : Int, 0 ≤ y.fmod many ∧ y.fmod many < many := fun y => fmod_in h1
  obtain ⟨cs', h', e1, p1, p2, p3⟩ := zeros (C := cal T k) (G := T.xcs) r c (.int many) none cs h ec
  have er' : h'[r]? = some (.lst [.ref c, .int s]) := by rw [p3 r (Ne.symm hne), er]
  have e2 := bi_len_ref p2
  show ∃ x h', SR.end (exs (cal T k) T.xcs b11 [some (.ref r), some (.int many), none, none] h) = _ ∧ _
  have e1' : runW (cal T k) T.xcs (ME.and (.cmp .gt (.bi .len (.cons (.var 2) .nil)) (.lit (.int 0))) (.cmp .eq (.ix (.var 2) (.lit (.int 0))) (.lit (.int 0)))) (.cons (.hpop (.var 2) (.lit (.int 0))) .nil) [some (.ref r), some (.int many), some (.ref c), none] h = some (.nx [some (.ref r), some (.int many), some (.ref c), none] h') := e1
  match cs', p1, p2, e2 with
  | [], _, p2, e2 =>
    have m1 : mulOk s 48271 = true := mulOk_r (by decide)
    simp -dsimp -implicitDefEqProofs only [exs, exc, ev, islM, evs, tst, tsts, evi, M.ret_def, M.lift_some, SR.end_rt, SR.end_nx, SR.end_ex, get_zero, get_succ, Tg.set_name, Tg.set_tup, setAll, List.set_cons_zero, List.set_cons_succ, Option.map_some, Option.map_none, eq_ints, ne_ints, lt_ints, le_ints, gt_ints, ge_ints, add_ints, sub_ints, truthy_bl, truthy_int, bi_int, bi_abs, bi_max2, bi_min2, bi_len_fz, bi_len_lst, bi_len_tup, bi_repr, ix_lst, ix_tup, ix_fz, at4_0, at4_1, at4_2, at4_3, set4_0, set4_1, set4_2, set4_3, at3_0, at3_1, at3_2, set3_0, set3_1, set3_2, decide_eq_true_eq, ite_true, ite_false, if_true, if_false, Bool.false_eq_true, Bool.not_eq_true', decide_eq_false_iff_not, Bool.not_true, Bool.not_false, List.foldr_cons, List.foldr_nil, Ty.has, Option.bind_some, ↓exc_whl, ↓exc_for, ↓ev_comp, ↓z_ite, ↓z_bind, ↓z_bd, ↓z_sbd, ↓z_sq, ↓z_tn, bdz_ok, bdz_exc, sbdz_ok, sbdz_exc, sqz_nx, sqz_rt, sqz_bk, sqz_ct, sqz_ex, tnz_nx, tnz_rt, tnz_bk, tnz_ct, tnz_ex, kFor_ok, runF_nil, turn_name, wipeE, Int.cast_ofNat_Int, Int.natCast_zero, Int.natCast_one, Int.reduceEq, Int.reduceLT, Int.reduceLE, Int.reduceNeg, part_nil, part_int, cutOf_tup, isi_def, items_lst, items_tup, items_fz, isAny, eq_self, decide_true, decide_false, not_true_eq_false, not_false_eq_true, ne_eq,  sizeLine_eq, List.length_cons, List.length_nil, Nat.reduceAdd, Nat.reduceLeDiff, Nat.zero_add, b11, er, at2_0, e1', e2, List.map_nil, Int.lt_irrefl, er', at2_1, set2_1, mul_ints m1, mod_ints (show (2147483647 : Int) ≠ 0 by decide), heap_set er', mod_ints hm0, fdiv_ints hd64]
    refine ⟨_, _, rfl, (hx _).1, (hx _).2, c, [], _, hne, heap_set er', ?_⟩
    rw [List.getElem?_set_ne (Ne.symm hne), p2]
  | a :: t, p1, p2, e2 =>
    have g1 : (0 : Int) < ((a :: t).map D.int).length := by simp only [List.map_cons, List.length_cons]; omega
    have e3 : L2.atI ((a :: t).map D.int) 0 = some (.int a) := atI_nat (by decide) rfl
    have q : ∀ v, setIx (.lst ((a :: t).map D.int)) (.int 0) v = some (.lst (v :: t.map D.int)) := fun v => by
      show (L2.ixN (List.map D.int (a :: t)).length 0).map _ = _
      have q : L2.ixN (List.map D.int (a :: t)).length 0 = some 0 := by
        unfold L2.ixN
        rw [if_pos (by decide), if_pos (by simp)]
        rfl
      rw [q]
      rfl
    simp -dsimp -implicitDefEqProofs only [exs, exc, ev, islM, evs, tst, tsts, evi, M.ret_def, M.lift_some, SR.end_rt, SR.end_nx, SR.end_ex, get_zero, get_succ, Tg.set_name, Tg.set_tup, setAll, List.set_cons_zero, List.set_cons_succ, Option.map_some, Option.map_none, eq_ints, ne_ints, lt_ints, le_ints, gt_ints, ge_ints, add_ints, sub_ints, truthy_bl, truthy_int, bi_int, bi_abs, bi_max2, bi_min2, bi_len_fz, bi_len_lst, bi_len_tup, bi_repr, ix_lst, ix_tup, ix_fz, at4_0, at4_1, at4_2, at4_3, set4_0, set4_1, set4_2, set4_3, at3_0, at3_1, at3_2, set3_0, set3_1, set3_2, decide_eq_true_eq, ite_true, ite_false, if_true, if_false, Bool.false_eq_true, Bool.not_eq_true', decide_eq_false_iff_not, Bool.not_true, Bool.not_false, List.foldr_cons, List.foldr_nil, Ty.has, Option.bind_some, ↓exc_whl, ↓exc_for, ↓ev_comp, ↓z_ite, ↓z_bind, ↓z_bd, ↓z_sbd, ↓z_sq, ↓z_tn, bdz_ok, bdz_exc, sbdz_ok, sbdz_exc, sqz_nx, sqz_rt, sqz_bk, sqz_ct, sqz_ex, tnz_nx, tnz_rt, tnz_bk, tnz_ct, tnz_ex, kFor_ok, runF_nil, turn_name, wipeE, Int.cast_ofNat_Int, Int.natCast_zero, Int.natCast_one, Int.reduceEq, Int.reduceLT, Int.reduceLE, Int.reduceNeg, part_nil, part_int, cutOf_tup, isi_def, items_lst, items_tup, items_fz, isAny, eq_self, decide_true, decide_false, not_true_eq_false, not_false_eq_true, ne_eq,  sizeLine_eq, List.length_cons, List.length_nil, Nat.reduceAdd, Nat.reduceLeDiff, Nat.zero_add, b11, er, at2_0, e1', e2, eq_true g1, p2, e3, fdiv_ints hd, q, mod_ints hm0]
    refine ⟨_, _, rfl, (hx _).1, (hx _).2, c, a.fdiv many :: t, s, hne, ?_, heap_set p2⟩
    rw [List.getElem?_set_ne hne, er']
theorem pick_ok (k : Nat) (h : AH) (r : Nat) (row : List D) (hb : Tape h r) (hn : row ≠ []) (hl : row.length < 1000) :
    ∃ x h', cal T (k + 2) 12 [.ref r, .lst row] h = some (.ok x h') ∧ x ∈ row ∧ Tape h' r := by
  rw [cal_unf (F := T.fns[12]) rfl rfl]
  have hpos : 0 < row.length := List.length_pos_iff.mpr hn
  obtain ⟨x, h', e, h0, h1, a⟩ := draw_ok k h r (row.length : Int) hb (by omega) (Bl.mono (n := 64) (by unfold Bl; omega) (by decide))
  have hi : x.toNat < row.length := by omega
  have eg := atI_nat (l := row) (x := row[x.toNat]) h0 (List.getElem?_eq_getElem hi)
  refine ⟨row[x.toNat], h', ?_, List.getElem_mem hi, a⟩
  show SR.end (exs (cal T (k + 1)) T.xcs b12 [some (.ref r), some (.lst row)] h) = _
  simp -dsimp -implicitDefEqProofs only [exs, exc, ev, islM, evs, tst, tsts, evi, M.ret_def, M.lift_some, SR.end_rt, SR.end_nx, SR.end_ex, get_zero, get_succ, Tg.set_name, Tg.set_tup, setAll, List.set_cons_zero, List.set_cons_succ, Option.map_some, Option.map_none, eq_ints, ne_ints, lt_ints, le_ints, gt_ints, ge_ints, add_ints, sub_ints, truthy_bl, truthy_int, bi_int, bi_abs, bi_max2, bi_min2, bi_len_fz, bi_len_lst, bi_len_tup, bi_repr, ix_lst, ix_tup, ix_fz, at4_0, at4_1, at4_2, at4_3, set4_0, set4_1, set4_2, set4_3, at3_0, at3_1, at3_2, set3_0, set3_1, set3_2, decide_eq_true_eq, ite_true, ite_false, if_true, if_false, Bool.false_eq_true, Bool.not_eq_true', decide_eq_false_iff_not, Bool.not_true, Bool.not_false, List.foldr_cons, List.foldr_nil, Ty.has, Option.bind_some, ↓exc_whl, ↓exc_for, ↓ev_comp, ↓z_ite, ↓z_bind, ↓z_bd, ↓z_sbd, ↓z_sq, ↓z_tn, bdz_ok, bdz_exc, sbdz_ok, sbdz_exc, sqz_nx, sqz_rt, sqz_bk, sqz_ct, sqz_ex, tnz_nx, tnz_rt, tnz_bk, tnz_ct, tnz_ex, kFor_ok, runF_nil, turn_name, wipeE, Int.cast_ofNat_Int, Int.natCast_zero, Int.natCast_one, Int.reduceEq, Int.reduceLT, Int.reduceLE, Int.reduceNeg, part_nil, part_int, cutOf_tup, isi_def, items_lst, items_tup, items_fz, isAny, eq_self, decide_true, decide_false, not_true_eq_false, not_false_eq_true, ne_eq,  sizeLine_eq, List.length_cons, List.length_nil, Nat.reduceAdd, Nat.reduceLeDiff, Nat.zero_add, b12, e, eg]
theorem tape_ok (k : Nat) (ns : List Int) (hl : ns.length ≤ 63) : ∃ r h', cal T (k + 1) 10 [.fz (ns.map D.int)] [] = some (.ok (.ref r) h') ∧ Tape h' r := by
  rw [cal_unf (F := T.fns[10]) rfl rfl]
  show ∃ r h', SR.end (exs (cal T k) T.xcs b10 [some (.fz (ns.map D.int)), none, none] []) = _ ∧ _
  have lp := runF_inv (C := cal T k) (G := T.xcs) (t := .name 2) (b := (MSs.cons (MS.asg (Tg.name 1) (ME.bin (BOp.mod) (ME.bi (Bi.int) (MEs.cons (ME.bin (BOp.add) (ME.bin (BOp.mul) (ME.var 1) (ME.lit (D.int 31))) (ME.var 2)) (MEs.nil))) (ME.lit (D.int 1000003)))) (MSs.nil)))
    (fun ρ h => h = [] ∧ ∃ (s : Int) (x : Option D), ρ = [some (.fz (ns.map D.int)), some (.int s), x]) (ns.map D.int) (fun x hx ρ h ⟨eh, s, y, eρ⟩ => by
      subst eh; subst eρ
      obtain ⟨v, _, rfl⟩ := List.mem_map.mp hx
      have m1 : mulOk s 31 = true := mulOk_r (by decide)
      rw [turn_name]
      simp -dsimp -implicitDefEqProofs only [exs, exc, ev, islM, evs, tst, tsts, evi, M.ret_def, M.lift_some, SR.end_rt, SR.end_nx, SR.end_ex, get_zero, get_succ, Tg.set_name, Tg.set_tup, setAll, List.set_cons_zero, List.set_cons_succ, Option.map_some, Option.map_none, eq_ints, ne_ints, lt_ints, le_ints, gt_ints, ge_ints, add_ints, sub_ints, truthy_bl, truthy_int, bi_int, bi_abs, bi_max2, bi_min2, bi_len_fz, bi_len_lst, bi_len_tup, bi_repr, ix_lst, ix_tup, ix_fz, at4_0, at4_1, at4_2, at4_3, set4_0, set4_1, set4_2, set4_3, at3_0, at3_1, at3_2, set3_0, set3_1, set3_2, decide_eq_true_eq, ite_true, ite_false, if_true, if_false, Bool.false_eq_true, Bool.not_eq_true', decide_eq_false_iff_not, Bool.not_true, Bool.not_false, List.foldr_cons, List.foldr_nil, Ty.has, Option.bind_some, ↓exc_whl, ↓exc_for, ↓ev_comp, ↓z_ite, ↓z_bind, ↓z_bd, ↓z_sbd, ↓z_sq, ↓z_tn, bdz_ok, bdz_exc, sbdz_ok, sbdz_exc, sqz_nx, sqz_rt, sqz_bk, sqz_ct, sqz_ex, tnz_nx, tnz_rt, tnz_bk, tnz_ct, tnz_ex, kFor_ok, runF_nil, turn_name, wipeE, Int.cast_ofNat_Int, Int.natCast_zero, Int.natCast_one, Int.reduceEq, Int.reduceLT, Int.reduceLE, Int.reduceNeg, part_nil, part_int, cutOf_tup, isi_def, items_lst, items_tup, items_fz, isAny, eq_self, decide_true, decide_false, not_true_eq_false, not_false_eq_true, ne_eq,  sizeLine_eq, List.length_cons, List.length_nil, Nat.reduceAdd, Nat.reduceLeDiff, Nat.zero_add, mul_ints m1, mod_ints (show (1000003 : Int) ≠ 0 by decide)]
      exact ⟨_, _, rfl, rfl, _, _, rfl⟩) [some (.fz (ns.map D.int)), some (.int 7), none] [] ⟨rfl, 7, none, rfl⟩
  obtain ⟨ρ', h', e1, eh, s, x, eρ⟩ := lp
  subst eh; subst eρ
  have c1 := comp_run (C := cal T k) (elt := ME.bi (Bi.abs) (MEs.cons (ME.bi (Bi.int) (MEs.cons (ME.var 2) (MEs.nil))) (MEs.nil))) (t := .name 2) (cs := .nil) (own := [2]) (ρ := [some (.fz (ns.map D.int)), some (.int s), x]) (xs := ns.map D.int) (h := []) (small_le (m := 63) (by rw [List.length_map]; omega) (by decide)) (lc_pure (f := fun d => match d with | .int i => .int (i.natAbs : Int) | d => d) fun y hy => by
    obtain ⟨v, _, rfl⟩ := List.mem_map.mp hy
    refine step_nil (ρ' := [some (.fz (ns.map D.int)), some (.int s), some (.int v)]) rfl ?_
    simp -dsimp -implicitDefEqProofs only [exs, exc, ev, islM, evs, tst, tsts, evi, M.ret_def, M.lift_some, SR.end_rt, SR.end_nx, SR.end_ex, get_zero, get_succ, Tg.set_name, Tg.set_tup, setAll, List.set_cons_zero, List.set_cons_succ, Option.map_some, Option.map_none, eq_ints, ne_ints, lt_ints, le_ints, gt_ints, ge_ints, add_ints, sub_ints, truthy_bl, truthy_int, bi_int, bi_abs, bi_max2, bi_min2, bi_len_fz, bi_len_lst, bi_len_tup, bi_repr, ix_lst, ix_tup, ix_fz, at4_0, at4_1, at4_2, at4_3, set4_0, set4_1, set4_2, set4_3, at3_0, at3_1, at3_2, set3_0, set3_1, set3_2, decide_eq_true_eq, ite_true, ite_false, if_true, if_false, Bool.false_eq_true, Bool.not_eq_true', decide_eq_false_iff_not, Bool.not_true, Bool.not_false, List.foldr_cons, List.foldr_nil, Ty.has, Option.bind_some, ↓exc_whl, ↓exc_for, ↓ev_comp, ↓z_ite, ↓z_bind, ↓z_bd, ↓z_sbd, ↓z_sq, ↓z_tn, bdz_ok, bdz_exc, sbdz_ok, sbdz_exc, sqz_nx, sqz_rt, sqz_bk, sqz_ct, sqz_ex, tnz_nx, tnz_rt, tnz_bk, tnz_ct, tnz_ex, kFor_ok, runF_nil, turn_name, wipeE, Int.cast_ofNat_Int, Int.natCast_zero, Int.natCast_one, Int.reduceEq, Int.reduceLT, Int.reduceLE, Int.reduceNeg, part_nil, part_int, cutOf_tup, isi_def, items_lst, items_tup, items_fz, isAny, eq_self, decide_true, decide_false, not_true_eq_false, not_false_eq_true, ne_eq,  sizeLine_eq, List.length_cons, List.length_nil, Nat.reduceAdd, Nat.reduceLeDiff, Nat.zero_add])
  have em : (ns.map D.int).map (fun d => match d with | .int i => D.int (i.natAbs : Int) | d => d) = (ns.map fun i => (i.natAbs : Int)).map D.int := by
    rw [List.map_map, List.map_map]; rfl
  rw [em] at c1
  simp -dsimp -implicitDefEqProofs only [exs, exc, ev, islM, evs, tst, tsts, evi, M.ret_def, M.lift_some, SR.end_rt, SR.end_nx, SR.end_ex, get_zero, get_succ, Tg.set_name, Tg.set_tup, setAll, List.set_cons_zero, List.set_cons_succ, Option.map_some, Option.map_none, eq_ints, ne_ints, lt_ints, le_ints, gt_ints, ge_ints, add_ints, sub_ints, truthy_bl, truthy_int, bi_int, bi_abs, bi_max2, bi_min2, bi_len_fz, bi_len_lst, bi_len_tup, bi_repr, ix_lst, ix_tup, ix_fz, at4_0, at4_1, at4_2, at4_3, set4_0, set4_1, set4_2, set4_3, at3_0, at3_1, at3_2, set3_0, set3_1, set3_2, decide_eq_true_eq, ite_true, ite_false, if_true, if_false, Bool.false_eq_true, Bool.not_eq_true', decide_eq_false_iff_not, Bool.not_true, Bool.not_false, List.foldr_cons, List.foldr_nil, Ty.has, Option.bind_some, ↓exc_whl, ↓exc_for, ↓ev_comp, ↓z_ite, ↓z_bind, ↓z_bd, ↓z_sbd, ↓z_sq, ↓z_tn, bdz_ok, bdz_exc, sbdz_ok, sbdz_exc, sqz_nx, sqz_rt, sqz_bk, sqz_ct, sqz_ex, tnz_nx, tnz_rt, tnz_bk, tnz_ct, tnz_ex, kFor_ok, runF_nil, turn_name, wipeE, Int.cast_ofNat_Int, Int.natCast_zero, Int.natCast_one, Int.reduceEq, Int.reduceLT, Int.reduceLE, Int.reduceNeg, part_nil, part_int, cutOf_tup, isi_def, items_lst, items_tup, items_fz, isAny, eq_self, decide_true, decide_false, not_true_eq_false, not_false_eq_true, ne_eq,  sizeLine_eq, List.length_cons, List.length_nil, Nat.reduceAdd, Nat.reduceLeDiff, Nat.zero_add, b10, e1, c1, List.nil_append]
  exact ⟨1, _, rfl, 0, _, _, by decide, rfl, rfl⟩
end Mk

set_option Elab.async false
set_option linter.all false
set_option maxRecDepth 100000
set_option maxHeartbeats 4000000
namespace Mk
open PySem Mi
/-! plain digits -/
def dg (x : Int) (k : Nat) : Int := x / 2 ^ k % 2
def digs : Int → Nat → List Int
  | _, 0 => []
  | x, n + 1 => x % 2 :: digs (x / 2) n
def numb : List Int → Int
  | [] => 0
  | [d] => -d
  | d :: e :: r => 2 * numb (e :: r) + d
def Vv : List Int → Int
  | [] => 0
  | b :: bs => b + 2 * Vv bs
def bits01 (ds : List Int) : Prop := ∀ d ∈ ds, 0 ≤ d ∧ d < 2
theorem digs_len : ∀ (n : Nat) (x : Int), (digs x n).length = n
  | 0, _ => rfl
  | n + 1, x => by simp [digs, digs_len n]
theorem dg_succ (x : Int) (k : Nat) : dg x (k + 1) = dg (x / 2) k := by
  unfold dg
  rw [Int.pow_succ, Int.mul_comm, Int.ediv_ediv_of_nonneg (by omega)]
theorem dg_zero (x : Int) : dg x 0 = x % 2 := by simp [dg]
theorem dg_01 (x : Int) (k : Nat) : 0 ≤ dg x k ∧ dg x k < 2 := by unfold dg; omega
theorem digs_eq : ∀ (n : Nat) (x : Int), digs x n = (List.range n).map (dg x)
  | 0, _ => rfl
  | n + 1, x => by
    rw [digs, digs_eq n, List.range_succ_eq_map, List.map_cons, List.map_map, dg_zero]
    congr 1
    exact List.map_congr_left fun k _ => (dg_succ x k).symm
theorem digs_01 (n : Nat) (x : Int) : bits01 (digs x n) := by
  rw [digs_eq]
  intro d hd
  obtain ⟨k, _, rfl⟩ := List.mem_map.mp hd
  exact dg_01 x k
def fits (m : Nat) (x : Int) : Prop := -2 ^ (m - 1) ≤ x ∧ x < 2 ^ (m - 1)
theorem numb_digs : ∀ (n : Nat) (x : Int), fits (n + 1) x → numb (digs x (n + 1)) = x
  | 0, x, h => by
    unfold fits at h
    simp only [Nat.add_sub_cancel, Int.pow_zero] at h
    simp only [digs, numb]
    omega
  | n + 1, x, h => by
    have h' : fits (n + 1) (x / 2) := by
      unfold fits at *
      simp only [Nat.add_sub_cancel] at *
      have e : (2 : Int) ^ (n + 1) = 2 * 2 ^ n := by rw [Int.pow_succ, Int.mul_comm]
      rw [e] at h
      omega
    have ih := numb_digs n (x / 2) h'
    show 2 * numb (digs (x / 2) (n + 1)) + x % 2 = x
    rw [ih]; omega
theorem digs_numb : ∀ (ds : List Int), ds ≠ [] → bits01 ds → digs (numb ds) ds.length = ds
  | [], h, _ => absurd rfl h
  | [d], _, h => by
    have := h d List.mem_cons_self
    simp only [List.length_singleton, digs, numb]
    congr 1
    omega
  | d :: e :: r, _, h => by
    have ih := digs_numb (e :: r) (by simp) fun x hx => h x (List.mem_cons_of_mem _ hx)
    have := h d List.mem_cons_self
    show (2 * numb (e :: r) + d) % 2 :: digs ((2 * numb (e :: r) + d) / 2) (e :: r).length = _
    rw [show (2 * numb (e :: r) + d) / 2 = numb (e :: r) by omega, ih, show (2 * numb (e :: r) + d) % 2 = d by omega]
theorem digs_V : ∀ (bs : List Int), bits01 bs → digs (Vv bs) bs.length = bs
  | [], _ => rfl
  | b :: bs, h => by
    have ih := digs_V bs fun x hx => h x (List.mem_cons_of_mem _ hx)
    have := h b List.mem_cons_self
    show (b + 2 * Vv bs) % 2 :: digs ((b + 2 * Vv bs) / 2) bs.length = _
    rw [show (b + 2 * Vv bs) / 2 = Vv bs by omega, ih, show (b + 2 * Vv bs) % 2 = b by omega]
theorem V_digs : ∀ (n : Nat) (x : Int), 0 ≤ x → x < 2 ^ n → Vv (digs x n) = x
  | 0, x, h0, h1 => by
    simp only [Int.pow_zero] at h1
    simp only [digs, Vv]; omega
  | n + 1, x, h0, h1 => by
    have e : (2 : Int) ^ (n + 1) = 2 * 2 ^ n := by rw [Int.pow_succ, Int.mul_comm]
    rw [e] at h1
    show x % 2 + 2 * Vv (digs (x / 2) n) = x
    rw [V_digs n (x / 2) (by omega) (by omega)]; omega
theorem V_nn : ∀ (bs : List Int), bits01 bs → 0 ≤ Vv bs ∧ Vv bs < 2 ^ bs.length
  | [], _ => by decide
  | b :: bs, h => by
    have ih := V_nn bs fun x hx => h x (List.mem_cons_of_mem _ hx)
    have := h b List.mem_cons_self
    have e : (2 : Int) ^ (bs.length + 1) = 2 * 2 ^ bs.length := by rw [Int.pow_succ, Int.mul_comm]
    show 0 ≤ b + 2 * Vv bs ∧ b + 2 * Vv bs < 2 ^ (bs.length + 1)
    rw [e]; omega
/-- the letters of a point -/
def wrd (pt : List Int) (m : Nat) : List Int := (List.range m).map fun k => Vv (pt.map fun x => dg x k)
theorem col_01 (pt : List Int) (k : Nat) : bits01 (pt.map fun x => dg x k) := by
  intro d hd
  obtain ⟨x, _, rfl⟩ := List.mem_map.mp hd
  exact dg_01 x k
theorem dg_V (bs : List Int) (h : bits01 bs) (i : Nat) (hi : i < bs.length) : dg (Vv bs) i = bs[i] := by
  have e := digs_V bs h
  rw [digs_eq] at e
  have : ((List.range bs.length).map (dg (Vv bs)))[i]'(by simpa using hi) = bs[i] := by simp only [e]
  simpa using this
/-- how many bits -/
def nb (x : Int) : Nat := Builtin.Int.intBits (if x < 0 then -x - 1 else x)
def mny (pt : List Int) : Nat := (pt.map nb).foldr max 0 + 1
theorem intBits_lt {y : Int} (h : 0 ≤ y) (m : Nat) : y < 2 ^ m ↔ Builtin.Int.intBits y ≤ m := by
  have e : (Builtin.Int.intBits y : Nat) = if y.natAbs = 0 then 0 else y.natAbs.log2 + 1 := by
    unfold Builtin.Int.intBits
    split <;> simp_all
  rw [e]
  have p : (2 : Int) ^ m = ((2 ^ m : Nat) : Int) := by simp
  rw [p]
  split
  · rename_i z
    have : 0 < 2 ^ m := Nat.two_pow_pos m
    omega
  · rename_i z
    rw [Nat.succ_le_iff, Nat.log2_lt z]
    omega
theorem fits_iff {m : Nat} (hm : 1 ≤ m) (x : Int) : (-2 ^ (m - 1) ≤ x ∧ x < 2 ^ (m - 1)) ↔ nb x < m := by
  unfold nb
  have key : ∀ y : Int, 0 ≤ y → (Builtin.Int.intBits y < m ↔ y < 2 ^ (m - 1)) := fun y hy => by
    rw [intBits_lt hy]; omega
  have p : (0 : Int) < 2 ^ (m - 1) := Int.pow_pos (by decide)
  split
  · rw [key _ (by omega)]; omega
  · rw [key _ (by omega)]; omega
theorem all_fit (pt : List Int) (m : Nat) (hm : 1 ≤ m) : (∀ x ∈ pt, nb x < m) ↔ mny pt ≤ m := by
  unfold mny
  induction pt with
  | nil => simp; omega
  | cons x pt ih =>
    simp only [List.map_cons, List.foldr_cons, List.forall_mem_cons]
    rw [ih]; omega
theorem fd2 (x : Int) : x.fdiv 2 = x / 2 := Int.fdiv_eq_ediv_of_nonneg _ (by decide)
theorem fm2 (x : Int) : x.fmod 2 = x % 2 := Int.fmod_eq_emod_of_nonneg _ (by decide)
theorem div2 : divOk 2 = true := by decide
theorem iswh (k : Nat) (i : Int) (h : AH) : cal T (k + 1) 0 [.int i] h = some (.ok (.bl true) h) := by
  rw [cal_unf (F := T.fns[0]) rfl rfl]
  show SR.end (exs _ _ b0 [some (.int i)] h) = _
  simp -dsimp -implicitDefEqProofs only [exs, exc, ev, islM, evs, tst, tsts, evi, M.ret_def, M.lift_some, SR.end_rt, SR.end_nx, SR.end_ex, get_zero, get_succ, Tg.set_name, Tg.set_tup, setAll, List.set_cons_zero, List.set_cons_succ, Option.map_some, Option.map_none, eq_ints, ne_ints, lt_ints, le_ints, gt_ints, ge_ints, add_ints, sub_ints, truthy_bl, truthy_int, bi_int, bi_abs, bi_max2, bi_min2, bi_len_fz, bi_len_lst, bi_len_tup, bi_repr, ix_lst, ix_tup, ix_fz, at4_0, at4_1, at4_2, at4_3, set4_0, set4_1, set4_2, set4_3, at3_0, at3_1, at3_2, set3_0, set3_1, set3_2, decide_eq_true_eq, ite_true, ite_false, if_true, if_false, Bool.false_eq_true, Bool.not_eq_true', decide_eq_false_iff_not, Bool.not_true, Bool.not_false, List.foldr_cons, List.foldr_nil, Ty.has, Option.bind_some, ↓exc_whl, ↓exc_for, ↓ev_comp, ↓z_ite, ↓z_bind, ↓z_bd, ↓z_sbd, ↓z_sq, ↓z_tn, bdz_ok, bdz_exc, sbdz_ok, sbdz_exc, sqz_nx, sqz_rt, sqz_bk, sqz_ct, sqz_ex, tnz_nx, tnz_rt, tnz_bk, tnz_ct, tnz_ex, kFor_ok, runF_nil, turn_name, wipeE, Int.cast_ofNat_Int, Int.natCast_zero, Int.natCast_one, Int.reduceEq, Int.reduceLT, Int.reduceLE, Int.reduceNeg, part_nil, part_int, cutOf_tup, isi_def, items_lst, items_tup, items_fz, isAny, eq_self, decide_true, decide_false, not_true_eq_false, not_false_eq_true, ne_eq,  sizeLine_eq, List.length_cons, List.length_nil, Nat.reduceAdd, Nat.reduceLeDiff, Nat.zero_add, b0]
theorem isi_tup {ds : List D} {h : AH} : isAny (.tup ds) [.tuple] h = some true := rfl
theorem ispt (k : Nat) (pt : List Int) (hl : pt.length ≤ 100) (h : AH) : cal T (k + 2) 1 [.int pt.length, tI pt] h = some (.ok (.bl true) h) := by
  rw [cal_unf (F := T.fns[1]) rfl rfl]
  show SR.end (exs _ _ b1 [some (.int pt.length), some (.tup (pt.map D.int)), none] h) = _
  have c1 := comp_run (C := cal T (k + 1)) (elt := ME.call 0 (MEs.cons (ME.var 2) (MEs.nil))) (t := .name 2) (cs := .nil) (own := [2]) (ρ := [some (.int pt.length), some (.tup (pt.map D.int)), none]) (xs := pt.map D.int) (h := h) (small_le (m := 100) (by rw [List.length_map]; omega) (by decide)) (lc_pure (f := fun _ => .bl true) fun y hy => by
    obtain ⟨v, _, rfl⟩ := List.mem_map.mp hy
    refine step_nil (ρ' := [some (.int pt.length), some (.tup (pt.map D.int)), some (.int v)]) rfl ?_
    simp -dsimp -implicitDefEqProofs only [exs, exc, ev, islM, evs, tst, tsts, evi, M.ret_def, M.lift_some, SR.end_rt, SR.end_nx, SR.end_ex, get_zero, get_succ, Tg.set_name, Tg.set_tup, setAll, List.set_cons_zero, List.set_cons_succ, Option.map_some, Option.map_none, eq_ints, ne_ints, lt_ints, le_ints, gt_ints, ge_ints, add_ints, sub_ints, truthy_bl, truthy_int, bi_int, bi_abs, bi_max2, bi_min2, bi_len_fz, bi_len_lst, bi_len_tup, bi_repr, ix_lst, ix_tup, ix_fz, at4_0, at4_1, at4_2, at4_3, set4_0, set4_1, set4_2, set4_3, at3_0, at3_1, at3_2, set3_0, set3_1, set3_2, decide_eq_true_eq, ite_true, ite_false, if_true, if_false, Bool.false_eq_true, Bool.not_eq_true', decide_eq_false_iff_not, Bool.not_true, Bool.not_false, List.foldr_cons, List.foldr_nil, Ty.has, Option.bind_some, ↓exc_whl, ↓exc_for, ↓ev_comp, ↓z_ite, ↓z_bind, ↓z_bd, ↓z_sbd, ↓z_sq, ↓z_tn, bdz_ok, bdz_exc, sbdz_ok, sbdz_exc, sqz_nx, sqz_rt, sqz_bk, sqz_ct, sqz_ex, tnz_nx, tnz_rt, tnz_bk, tnz_ct, tnz_ex, kFor_ok, runF_nil, turn_name, wipeE, Int.cast_ofNat_Int, Int.natCast_zero, Int.natCast_one, Int.reduceEq, Int.reduceLT, Int.reduceLE, Int.reduceNeg, part_nil, part_int, cutOf_tup, isi_def, items_lst, items_tup, items_fz, isAny, eq_self, decide_true, decide_false, not_true_eq_false, not_false_eq_true, ne_eq,  sizeLine_eq, List.length_cons, List.length_nil, Nat.reduceAdd, Nat.reduceLeDiff, Nat.zero_add, iswh])
  simp -dsimp -implicitDefEqProofs only [exs, exc, ev, islM, evs, tst, tsts, evi, M.ret_def, M.lift_some, SR.end_rt, SR.end_nx, SR.end_ex, get_zero, get_succ, Tg.set_name, Tg.set_tup, setAll, List.set_cons_zero, List.set_cons_succ, Option.map_some, Option.map_none, eq_ints, ne_ints, lt_ints, le_ints, gt_ints, ge_ints, add_ints, sub_ints, truthy_bl, truthy_int, bi_int, bi_abs, bi_max2, bi_min2, bi_len_fz, bi_len_lst, bi_len_tup, bi_repr, ix_lst, ix_tup, ix_fz, at4_0, at4_1, at4_2, at4_3, set4_0, set4_1, set4_2, set4_3, at3_0, at3_1, at3_2, set3_0, set3_1, set3_2, decide_eq_true_eq, ite_true, ite_false, if_true, if_false, Bool.false_eq_true, Bool.not_eq_true', decide_eq_false_iff_not, Bool.not_true, Bool.not_false, List.foldr_cons, List.foldr_nil, Ty.has, Option.bind_some, ↓exc_whl, ↓exc_for, ↓ev_comp, ↓z_ite, ↓z_bind, ↓z_bd, ↓z_sbd, ↓z_sq, ↓z_tn, bdz_ok, bdz_exc, sbdz_ok, sbdz_exc, sqz_nx, sqz_rt, sqz_bk, sqz_ct, sqz_ex, tnz_nx, tnz_rt, tnz_bk, tnz_ct, tnz_ex, kFor_ok, runF_nil, turn_name, wipeE, Int.cast_ofNat_Int, Int.natCast_zero, Int.natCast_one, Int.reduceEq, Int.reduceLT, Int.reduceLE, Int.reduceNeg, part_nil, part_int, cutOf_tup, isi_def, items_lst, items_tup, items_fz, isAny, eq_self, decide_true, decide_false, not_true_eq_false, not_false_eq_true, ne_eq,  sizeLine_eq, List.length_cons, List.length_nil, Nat.reduceAdd, Nat.reduceLeDiff, Nat.zero_add, b1, isi_tup, List.length_map, c1, bi_all (truths_true _)]
  simp
theorem dof (k : Nat) (x : Int) (h : AH) : cal T (k + 1) 2 [.int x] h = some (.ok (.int (nb x)) h) := by
  rw [cal_unf (F := T.fns[2]) rfl rfl]
  show SR.end (exs _ _ b2 [some (.int x)] h) = _
  unfold nb
  by_cases c : x < 0
  · simp -dsimp -implicitDefEqProofs only [exs, exc, ev, islM, evs, tst, tsts, evi, M.ret_def, M.lift_some, SR.end_rt, SR.end_nx, SR.end_ex, get_zero, get_succ, Tg.set_name, Tg.set_tup, setAll, List.set_cons_zero, List.set_cons_succ, Option.map_some, Option.map_none, eq_ints, ne_ints, lt_ints, le_ints, gt_ints, ge_ints, add_ints, sub_ints, truthy_bl, truthy_int, bi_int, bi_abs, bi_max2, bi_min2, bi_len_fz, bi_len_lst, bi_len_tup, bi_repr, ix_lst, ix_tup, ix_fz, at4_0, at4_1, at4_2, at4_3, set4_0, set4_1, set4_2, set4_3, at3_0, at3_1, at3_2, set3_0, set3_1, set3_2, decide_eq_true_eq, ite_true, ite_false, if_true, if_false, Bool.false_eq_true, Bool.not_eq_true', decide_eq_false_iff_not, Bool.not_true, Bool.not_false, List.foldr_cons, List.foldr_nil, Ty.has, Option.bind_some, ↓exc_whl, ↓exc_for, ↓ev_comp, ↓z_ite, ↓z_bind, ↓z_bd, ↓z_sbd, ↓z_sq, ↓z_tn, bdz_ok, bdz_exc, sbdz_ok, sbdz_exc, sqz_nx, sqz_rt, sqz_bk, sqz_ct, sqz_ex, tnz_nx, tnz_rt, tnz_bk, tnz_ct, tnz_ex, kFor_ok, runF_nil, turn_name, wipeE, Int.cast_ofNat_Int, Int.natCast_zero, Int.natCast_one, Int.reduceEq, Int.reduceLT, Int.reduceLE, Int.reduceNeg, part_nil, part_int, cutOf_tup, isi_def, items_lst, items_tup, items_fz, isAny, eq_self, decide_true, decide_false, not_true_eq_false, not_false_eq_true, ne_eq,  sizeLine_eq, List.length_cons, List.length_nil, Nat.reduceAdd, Nat.reduceLeDiff, Nat.zero_add, b2, eq_true c]
  · simp -dsimp -implicitDefEqProofs only [exs, exc, ev, islM, evs, tst, tsts, evi, M.ret_def, M.lift_some, SR.end_rt, SR.end_nx, SR.end_ex, get_zero, get_succ, Tg.set_name, Tg.set_tup, setAll, List.set_cons_zero, List.set_cons_succ, Option.map_some, Option.map_none, eq_ints, ne_ints, lt_ints, le_ints, gt_ints, ge_ints, add_ints, sub_ints, truthy_bl, truthy_int, bi_int, bi_abs, bi_max2, bi_min2, bi_len_fz, bi_len_lst, bi_len_tup, bi_repr, ix_lst, ix_tup, ix_fz, at4_0, at4_1, at4_2, at4_3, set4_0, set4_1, set4_2, set4_3, at3_0, at3_1, at3_2, set3_0, set3_1, set3_2, decide_eq_true_eq, ite_true, ite_false, if_true, if_false, Bool.false_eq_true, Bool.not_eq_true', decide_eq_false_iff_not, Bool.not_true, Bool.not_false, List.foldr_cons, List.foldr_nil, Ty.has, Option.bind_some, ↓exc_whl, ↓exc_for, ↓ev_comp, ↓z_ite, ↓z_bind, ↓z_bd, ↓z_sbd, ↓z_sq, ↓z_tn, bdz_ok, bdz_exc, sbdz_ok, sbdz_exc, sqz_nx, sqz_rt, sqz_bk, sqz_ct, sqz_ex, tnz_nx, tnz_rt, tnz_bk, tnz_ct, tnz_ex, kFor_ok, runF_nil, turn_name, wipeE, Int.cast_ofNat_Int, Int.natCast_zero, Int.natCast_one, Int.reduceEq, Int.reduceLT, Int.reduceLE, Int.reduceNeg, part_nil, part_int, cutOf_tup, isi_def, items_lst, items_tup, items_fz, isAny, eq_self, decide_true, decide_false, not_true_eq_false, not_false_eq_true, ne_eq,  sizeLine_eq, List.length_cons, List.length_nil, Nat.reduceAdd, Nat.reduceLeDiff, Nat.zero_add, b2, eq_false c]
theorem atL (r : Nat) (h : r < 7) : L2.atI [D.int 1, D.int 2, D.int 4, D.int 8, D.int 16, D.int 32, D.int 64] (r : Int) = some (.int (2 ^ r)) := by
  match r, h with
  | 0, _ => rfl
  | 1, _ => rfl
  | 2, _ => rfl
  | 3, _ => rfl
  | 4, _ => rfl
  | 5, _ => rfl
  | 6, _ => rfl
  | n + 7, h => exact absurd h (by omega)
theorem p2n (r : Nat) : ((2 : Int) ^ r).natAbs = 2 ^ r := by simp [Int.natAbs_pow]
theorem p2pos (r : Nat) : (0 : Int) < 2 ^ r := Int.pow_pos (by decide)
theorem app_lst {ds : List D} {v : D} (h : ds.length < 1000) : appD (.lst ds) v = some (.lst (ds ++ [v])) := if_pos (show ds.length < sizeLine by rw [sizeLine_eq]; omega)
theorem dloop {C : Nat → List D → M D} {G : List XC} (mm : Option D) (h : AH) : ∀ (xs : List D) (x : Int) (acc : List Int) (i : Option D), acc.length + xs.length ≤ 1000 →
    ∃ i', runF C G (Tg.name 3) (MSs.cons (MS.app 2 (ME.bin (BOp.mod) (ME.var 0) (ME.lit (D.int 2)))) (MSs.cons (MS.asg (Tg.name 0) (ME.bin (BOp.fdiv) (ME.var 0) (ME.lit (D.int 2)))) (MSs.nil))) xs [some (.int x), mm, some (lI acc), i] h = some (.nx [some (.int (x / 2 ^ xs.length)), mm, some (lI (acc ++ digs x xs.length)), i'] h)
  | [], x, acc, i, _ => ⟨i, by simp [runF_nil, digs]⟩
  | y :: xs, x, acc, i, hl => by
    obtain ⟨i', e⟩ := dloop (C := C) (G := G) mm h xs (x / 2) (acc ++ [x % 2]) (some y) (by simp only [List.length_append, List.length_cons, List.length_nil] at *; omega)
    refine ⟨i', ?_⟩
    have ha : appD (.lst (acc.map D.int)) (.int (x % 2)) = some (.lst ((acc ++ [x % 2]).map D.int)) := by
      rw [app_lst (by simp only [List.length_map, List.length_cons] at *; omega)]; simp
    simp only [runF_cons, exs, exc, ev, islM, evs, tst, tsts, evi, M.ret_def, M.lift_some, SR.end_rt, SR.end_nx, SR.end_ex, get_zero, get_succ, Tg.set_name, Tg.set_tup, setAll, List.set_cons_zero, List.set_cons_succ, Option.map_some, Option.map_none, eq_ints, ne_ints, lt_ints, le_ints, gt_ints, ge_ints, add_ints, sub_ints, truthy_bl, truthy_int, bi_int, bi_abs, bi_max2, bi_min2, bi_len_fz, bi_len_lst, bi_len_tup, bi_repr, ix_lst, ix_tup, ix_fz, at4_0, at4_1, at4_2, at4_3, set4_0, set4_1, set4_2, set4_3, at3_0, at3_1, at3_2, set3_0, set3_1, set3_2, decide_eq_true_eq, ite_true, ite_false, if_true, if_false, Bool.false_eq_true, Bool.not_eq_true', decide_eq_false_iff_not, Bool.not_true, Bool.not_false, List.foldr_cons, List.foldr_nil, Ty.has, Option.bind_some, ↓exc_whl, ↓exc_for, ↓ev_comp, ↓z_ite, ↓z_bind, ↓z_bd, ↓z_sbd, ↓z_sq, ↓z_tn, bdz_ok, bdz_exc, sbdz_ok, sbdz_exc, sqz_nx, sqz_rt, sqz_bk, sqz_ct, sqz_ex, tnz_nx, tnz_rt, tnz_bk, tnz_ct, tnz_ex, kFor_ok, runF_nil, turn_name, wipeE, Int.cast_ofNat_Int, Int.natCast_zero, Int.natCast_one, Int.reduceEq, Int.reduceLT, Int.reduceLE, Int.reduceNeg, part_nil, part_int, cutOf_tup, isi_def, items_lst, items_tup, items_fz, isAny, eq_self, decide_true, decide_false, not_true_eq_false, not_false_eq_true, ne_eq,  sizeLine_eq, List.length_cons, List.length_nil, Nat.reduceAdd, Nat.reduceLeDiff, Nat.zero_add, lI, ha, fdiv_ints div2, mod_ints (show (2 : Int) ≠ 0 by decide), fm2, fd2]
    unfold lI at e
    rw [e, Int.ediv_ediv_of_nonneg (by omega), ← Int.pow_succ']
    simp [digs, List.append_assoc, List.length_cons]
theorem dlist (k : Nat) (x : Int) (m : Nat) (hm : m ≤ 1000) (h : AH) : cal T (k + 1) 3 [.int x, .int m] h = some (.ok (lI (digs x m)) h) := by
  rw [cal_unf (F := T.fns[3]) rfl rfl]
  show SR.end (exs _ _ b3 [some (.int x), some (.int m), none, none] h) = _
  have r1 := rng1_nat m (by omega)
  obtain ⟨i', e⟩ := dloop (C := cal T k) (G := T.xcs) (some (.int m)) h ((List.range m).map fun (i : Nat) => D.int (i : Int)) x [] none (by simp only [List.length_map, List.length_range, List.length_nil]; omega)
  simp only [List.length_map, List.length_range, List.nil_append] at e
  unfold lI at e
  simp -dsimp -implicitDefEqProofs only [exs, exc, ev, islM, evs, tst, tsts, evi, M.ret_def, M.lift_some, SR.end_rt, SR.end_nx, SR.end_ex, get_zero, get_succ, Tg.set_name, Tg.set_tup, setAll, List.set_cons_zero, List.set_cons_succ, Option.map_some, Option.map_none, eq_ints, ne_ints, lt_ints, le_ints, gt_ints, ge_ints, add_ints, sub_ints, truthy_bl, truthy_int, bi_int, bi_abs, bi_max2, bi_min2, bi_len_fz, bi_len_lst, bi_len_tup, bi_repr, ix_lst, ix_tup, ix_fz, at4_0, at4_1, at4_2, at4_3, set4_0, set4_1, set4_2, set4_3, at3_0, at3_1, at3_2, set3_0, set3_1, set3_2, decide_eq_true_eq, ite_true, ite_false, if_true, if_false, Bool.false_eq_true, Bool.not_eq_true', decide_eq_false_iff_not, Bool.not_true, Bool.not_false, List.foldr_cons, List.foldr_nil, Ty.has, Option.bind_some, ↓exc_whl, ↓exc_for, ↓ev_comp, ↓z_ite, ↓z_bind, ↓z_bd, ↓z_sbd, ↓z_sq, ↓z_tn, bdz_ok, bdz_exc, sbdz_ok, sbdz_exc, sqz_nx, sqz_rt, sqz_bk, sqz_ct, sqz_ex, tnz_nx, tnz_rt, tnz_bk, tnz_ct, tnz_ex, kFor_ok, runF_nil, turn_name, wipeE, Int.cast_ofNat_Int, Int.natCast_zero, Int.natCast_one, Int.reduceEq, Int.reduceLT, Int.reduceLE, Int.reduceNeg, part_nil, part_int, cutOf_tup, isi_def, items_lst, items_tup, items_fz, isAny, eq_self, decide_true, decide_false, not_true_eq_false, not_false_eq_true, ne_eq,  sizeLine_eq, List.length_cons, List.length_nil, Nat.reduceAdd, Nat.reduceLeDiff, Nat.zero_add, b3, r1, M.nox, List.map_nil] at e ⊢
  rw [e]
  simp -dsimp -implicitDefEqProofs only [exs, exc, ev, islM, evs, tst, tsts, evi, M.ret_def, M.lift_some, SR.end_rt, SR.end_nx, SR.end_ex, get_zero, get_succ, Tg.set_name, Tg.set_tup, setAll, List.set_cons_zero, List.set_cons_succ, Option.map_some, Option.map_none, eq_ints, ne_ints, lt_ints, le_ints, gt_ints, ge_ints, add_ints, sub_ints, truthy_bl, truthy_int, bi_int, bi_abs, bi_max2, bi_min2, bi_len_fz, bi_len_lst, bi_len_tup, bi_repr, ix_lst, ix_tup, ix_fz, at4_0, at4_1, at4_2, at4_3, set4_0, set4_1, set4_2, set4_3, at3_0, at3_1, at3_2, set3_0, set3_1, set3_2, decide_eq_true_eq, ite_true, ite_false, if_true, if_false, Bool.false_eq_true, Bool.not_eq_true', decide_eq_false_iff_not, Bool.not_true, Bool.not_false, List.foldr_cons, List.foldr_nil, Ty.has, Option.bind_some, ↓exc_whl, ↓exc_for, ↓ev_comp, ↓z_ite, ↓z_bind, ↓z_bd, ↓z_sbd, ↓z_sq, ↓z_tn, bdz_ok, bdz_exc, sbdz_ok, sbdz_exc, sqz_nx, sqz_rt, sqz_bk, sqz_ct, sqz_ex, tnz_nx, tnz_rt, tnz_bk, tnz_ct, tnz_ex, kFor_ok, runF_nil, turn_name, wipeE, Int.cast_ofNat_Int, Int.natCast_zero, Int.natCast_one, Int.reduceEq, Int.reduceLT, Int.reduceLE, Int.reduceNeg, part_nil, part_int, cutOf_tup, isi_def, items_lst, items_tup, items_fz, isAny, eq_self, decide_true, decide_false, not_true_eq_false, not_false_eq_true, ne_eq,  sizeLine_eq, List.length_cons, List.length_nil, Nat.reduceAdd, Nat.reduceLeDiff, Nat.zero_add, M.nox, lI]
end Mk

set_option Elab.async false
set_option linter.all false
set_option maxRecDepth 100000
set_option maxHeartbeats 4000000
namespace Mk
open PySem Mi
theorem ploop {C : Nat → List D → M D} {G : List XC} (mm : Option D) (h : AH) : ∀ (xs : List D) (x : Int) (i : Option D),
    ∃ i', runF C G (Tg.name 2) (MSs.cons (MS.asg (Tg.name 1) (ME.bin (BOp.mul) (ME.lit (D.int 2)) (ME.var 1))) (MSs.nil)) xs [mm, some (.int x), i] h = some (.nx [mm, some (.int (x * 2 ^ xs.length)), i'] h)
  | [], x, i => ⟨i, by simp [runF_nil]⟩
  | y :: xs, x, i => by
    obtain ⟨i', e⟩ := ploop (C := C) (G := G) mm h xs (2 * x) (some y)
    refine ⟨i', ?_⟩
    have m1 : mulOk 2 x = true := mulOk_l (by decide)
    simp only [runF_cons, exs, exc, ev, islM, evs, tst, tsts, evi, M.ret_def, M.lift_some, SR.end_rt, SR.end_nx, SR.end_ex, get_zero, get_succ, Tg.set_name, Tg.set_tup, setAll, List.set_cons_zero, List.set_cons_succ, Option.map_some, Option.map_none, eq_ints, ne_ints, lt_ints, le_ints, gt_ints, ge_ints, add_ints, sub_ints, truthy_bl, truthy_int, bi_int, bi_abs, bi_max2, bi_min2, bi_len_fz, bi_len_lst, bi_len_tup, bi_repr, ix_lst, ix_tup, ix_fz, at4_0, at4_1, at4_2, at4_3, set4_0, set4_1, set4_2, set4_3, at3_0, at3_1, at3_2, set3_0, set3_1, set3_2, decide_eq_true_eq, ite_true, ite_false, if_true, if_false, Bool.false_eq_true, Bool.not_eq_true', decide_eq_false_iff_not, Bool.not_true, Bool.not_false, List.foldr_cons, List.foldr_nil, Ty.has, Option.bind_some, ↓exc_whl, ↓exc_for, ↓ev_comp, ↓z_ite, ↓z_bind, ↓z_bd, ↓z_sbd, ↓z_sq, ↓z_tn, bdz_ok, bdz_exc, sbdz_ok, sbdz_exc, sqz_nx, sqz_rt, sqz_bk, sqz_ct, sqz_ex, tnz_nx, tnz_rt, tnz_bk, tnz_ct, tnz_ex, kFor_ok, runF_nil, turn_name, wipeE, Int.cast_ofNat_Int, Int.natCast_zero, Int.natCast_one, Int.reduceEq, Int.reduceLT, Int.reduceLE, Int.reduceNeg, part_nil, part_int, cutOf_tup, isi_def, items_lst, items_tup, items_fz, isAny, eq_self, decide_true, decide_false, not_true_eq_false, not_false_eq_true, ne_eq,  sizeLine_eq, List.length_cons, List.length_nil, Nat.reduceAdd, Nat.reduceLeDiff, Nat.zero_add, mul_ints m1]
    rw [e, show 2 * x * 2 ^ xs.length = x * 2 ^ (xs.length + 1) by rw [Int.pow_succ, Int.mul_comm 2 x, Int.mul_assoc, Int.mul_comm 2]]
theorem pow_ok (k : Nat) (j : Nat) (hj : j ≤ 1000) (h : AH) : cal T (k + 1) 15 [.int j] h = some (.ok (.int (2 ^ j)) h) := by
  rw [cal_unf (F := T.fns[15]) rfl rfl]
  show SR.end (exs _ _ b15 [some (.int j), none, none] h) = _
  have r1 := rng1_nat j (by omega)
  obtain ⟨i', e⟩ := ploop (C := cal T k) (G := T.xcs) (some (.int j)) h ((List.range j).map fun (i : Nat) => D.int (i : Int)) 1 none
  simp only [List.length_map, List.length_range, Int.one_mul] at e
  simp -dsimp -implicitDefEqProofs only [exs, exc, ev, islM, evs, tst, tsts, evi, M.ret_def, M.lift_some, SR.end_rt, SR.end_nx, SR.end_ex, get_zero, get_succ, Tg.set_name, Tg.set_tup, setAll, List.set_cons_zero, List.set_cons_succ, Option.map_some, Option.map_none, eq_ints, ne_ints, lt_ints, le_ints, gt_ints, ge_ints, add_ints, sub_ints, truthy_bl, truthy_int, bi_int, bi_abs, bi_max2, bi_min2, bi_len_fz, bi_len_lst, bi_len_tup, bi_repr, ix_lst, ix_tup, ix_fz, at4_0, at4_1, at4_2, at4_3, set4_0, set4_1, set4_2, set4_3, at3_0, at3_1, at3_2, set3_0, set3_1, set3_2, decide_eq_true_eq, ite_true, ite_false, if_true, if_false, Bool.false_eq_true, Bool.not_eq_true', decide_eq_false_iff_not, Bool.not_true, Bool.not_false, List.foldr_cons, List.foldr_nil, Ty.has, Option.bind_some, ↓exc_whl, ↓exc_for, ↓ev_comp, ↓z_ite, ↓z_bind, ↓z_bd, ↓z_sbd, ↓z_sq, ↓z_tn, bdz_ok, bdz_exc, sbdz_ok, sbdz_exc, sqz_nx, sqz_rt, sqz_bk, sqz_ct, sqz_ex, tnz_nx, tnz_rt, tnz_bk, tnz_ct, tnz_ex, kFor_ok, runF_nil, turn_name, wipeE, Int.cast_ofNat_Int, Int.natCast_zero, Int.natCast_one, Int.reduceEq, Int.reduceLT, Int.reduceLE, Int.reduceNeg, part_nil, part_int, cutOf_tup, isi_def, items_lst, items_tup, items_fz, isAny, eq_self, decide_true, decide_false, not_true_eq_false, not_false_eq_true, ne_eq,  sizeLine_eq, List.length_cons, List.length_nil, Nat.reduceAdd, Nat.reduceLeDiff, Nat.zero_add, b15, r1, e]
theorem lc_on {α : Type} {st : D → M (Option D)} {f g : α → D} {h : AH} (L : List α) (hs : ∀ a ∈ L, st (f a) h = some (.ok (some (g a)) h)) : lcM st (L.map f) h = some (.ok (L.map g) h) := by
  induction L with
  | nil => rfl
  | cons x xs ih =>
    simp only [List.map_cons, lcM, M.bind_def, hs x List.mem_cons_self, M.bd_ok, ih fun y hy => hs y (List.mem_cons_of_mem _ hy)]
    rfl
theorem lc_onI {α : Type} {st : D → M (Option D)} {f : α → D} {g : α → Int} {h : AH} (L : List α) (hs : ∀ a ∈ L, st (f a) h = some (.ok (some (.int (g a))) h)) : lcM st (L.map f) h = some (.ok ((L.map g).map D.int) h) := by
  rw [lc_on (g := fun a => .int (g a)) L hs, List.map_map]
  rfl
theorem maxN : ∀ (L : List Nat), L ≠ [] → maxI (L.map fun (n : Nat) => (n : Int)) = some ((L.foldr max 0 : Nat) : Int)
  | [], h => absurd rfl h
  | [x], _ => by simp [maxI]
  | x :: y :: r, _ => by
    have ih := maxN (y :: r) (by simp)
    show (maxI ((y :: r).map fun (n : Nat) => (n : Int))).map _ = _
    rw [ih]
    simp only [Option.map_some, List.foldr_cons]
    congr 1
    split <;> omega
theorem bi_max {ns : List Int} {m : Int} {h : AH} (e : maxI ns = some m) : biOf .max [.lst (ns.map D.int)] h = some (.ok (.int m) h) := by
  show (match D.ints? _ with | some ns => _ | none => _) = _
  rw [ints_map]
  simp only [e, Option.map_some]
theorem at_mid (pre : List Int) (a : Int) (r : List Int) : L2.atI ((pre ++ a :: r).map D.int) (pre.length : Int) = some (.int a) := by
  refine atI_nat (by omega) ?_
  simp
theorem set_mid (pre : List Int) (a v : Int) (r : List Int) : setIx (.lst ((pre ++ a :: r).map D.int)) (.int pre.length) (.int v) = some (.lst ((pre ++ v :: r).map D.int)) := by
  show (L2.ixN _ _).map _ = _
  have : L2.ixN ((pre ++ a :: r).map D.int).length (pre.length : Int) = some pre.length := by
    unfold L2.ixN
    rw [if_pos (by omega), if_pos (by simp; omega)]
    simp
  rw [this, Option.map_some]
  simp [List.set_append]
def ibody : MSs := (MSs.cons (MS.setx 2 (ME.var 5) (ME.bin (BOp.add) (ME.ix (ME.var 2) (ME.var 5)) (ME.bin (BOp.mul) (ME.var 6) (ME.ix (ME.lit (D.tup [D.int 1, D.int 2, D.int 4, D.int 8, D.int 16, D.int 32, D.int 64])) (ME.var 3))))) (MSs.nil))
theorem innr {C : Nat → List D → M D} {G : List XC} (p m x : Option D) (r : Nat) (hr : r < 7) (h : AH) : ∀ (ds pre rest : List Int) (x5 x6 : Option D), rest.length = ds.length → bits01 ds →
    ∃ y5 y6, runF C G (Tg.tup [5, 6]) ibody (enumD pre.length (ds.map D.int)) [p, m, some (.lst ((pre ++ rest).map D.int)), some (.int r), x, x5, x6] h = some (.nx [p, m, some (.lst ((pre ++ List.zipWith (fun a d => a + d * 2 ^ r) rest ds).map D.int)), some (.int r), x, y5, y6] h)
  | [], pre, rest, x5, x6, hl, _ => by
    have : rest = [] := List.length_eq_zero_iff.mp hl
    subst this
    exact ⟨x5, x6, by simp [enumD, runF_nil]⟩
  | d :: ds, pre, [], x5, x6, hl, _ => by simp at hl
  | d :: ds, pre, a :: rest, x5, x6, hl, hb => by
    obtain ⟨y5, y6, e⟩ := innr (C := C) (G := G) p m x r hr h ds (pre ++ [a + d * 2 ^ r]) rest (some (.int pre.length)) (some (.int d)) (by simpa using hl) (fun y hy => hb y (List.mem_cons_of_mem _ hy))
    refine ⟨y5, y6, ?_⟩
    have hd := hb d List.mem_cons_self
    have m1 : mulOk d (2 ^ r) = true := mulOk_l (by omega)
    rw [List.map_cons, enumD, runF_cons, turn_tup (ρ2 := [p, m, some (.lst ((pre ++ a :: rest).map D.int)), some (.int r), x, some (.int pre.length), some (.int d)]) rfl]
    simp only [List.append_assoc, List.singleton_append, List.length_append, List.length_cons, List.length_nil, Nat.zero_add] at e
    simp -dsimp -implicitDefEqProofs only [exs, exc, ev, islM, evs, tst, tsts, evi, M.ret_def, M.lift_some, SR.end_rt, SR.end_nx, SR.end_ex, get_zero, get_succ, Tg.set_name, Tg.set_tup, setAll, List.set_cons_zero, List.set_cons_succ, Option.map_some, Option.map_none, eq_ints, ne_ints, lt_ints, le_ints, gt_ints, ge_ints, add_ints, sub_ints, truthy_bl, truthy_int, bi_int, bi_abs, bi_max2, bi_min2, bi_len_fz, bi_len_lst, bi_len_tup, bi_repr, ix_lst, ix_tup, ix_fz, at4_0, at4_1, at4_2, at4_3, set4_0, set4_1, set4_2, set4_3, at3_0, at3_1, at3_2, set3_0, set3_1, set3_2, decide_eq_true_eq, ite_true, ite_false, if_true, if_false, Bool.false_eq_true, Bool.not_eq_true', decide_eq_false_iff_not, Bool.not_true, Bool.not_false, List.foldr_cons, List.foldr_nil, Ty.has, Option.bind_some, ↓exc_whl, ↓exc_for, ↓ev_comp, ↓z_ite, ↓z_bind, ↓z_bd, ↓z_sbd, ↓z_sq, ↓z_tn, bdz_ok, bdz_exc, sbdz_ok, sbdz_exc, sqz_nx, sqz_rt, sqz_bk, sqz_ct, sqz_ex, tnz_nx, tnz_rt, tnz_bk, tnz_ct, tnz_ex, kFor_ok, runF_nil, turn_name, wipeE, Int.cast_ofNat_Int, Int.natCast_zero, Int.natCast_one, Int.reduceEq, Int.reduceLT, Int.reduceLE, Int.reduceNeg, part_nil, part_int, cutOf_tup, isi_def, items_lst, items_tup, items_fz, isAny, eq_self, decide_true, decide_false, not_true_eq_false, not_false_eq_true, ne_eq,  sizeLine_eq, List.length_cons, List.length_nil, Nat.reduceAdd, Nat.reduceLeDiff, Nat.zero_add, ibody, at_mid, atL r hr, mul_ints m1, set_mid]
    show runF C G (Tg.tup [5, 6]) ibody _ _ h = _
    rw [e]
    simp
def obody : MSs := (MSs.cons (MS.for (Tg.tup [5, 6]) (MI.enum (ME.call 3 (MEs.cons (ME.var 4) (MEs.cons (ME.var 1) (MEs.nil))))) ibody) (MSs.nil))
theorem zip_range (m r : Nat) (f : Nat → Int) (x : Int) : List.zipWith (fun a d => a + d * 2 ^ r) ((List.range m).map f) (digs x m) = (List.range m).map fun k => f k + dg x k * 2 ^ r := by
  rw [digs_eq, List.zipWith_map]
  apply List.ext_getElem <;> simp
/-- what the rows put into a letter -/
def wsum : Nat → List Int → Nat → Int
  | _, [], _ => 0
  | r, x :: xs, k => dg x k * 2 ^ r + wsum (r + 1) xs k
theorem outr {k : Nat} {G : List XC} (p : Option D) (m : Nat) (hm : m ≤ 1000) (h : AH) : ∀ (pt : List Int) (r : Nat) (f : Nat → Int) (x3 x4 x5 x6 : Option D), r + pt.length ≤ 6 →
    ∃ y3 y4 y5 y6, runF (cal T (k + 1)) G (Tg.tup [3, 4]) obody (enumD r (pt.map D.int)) [p, some (.int m), some (.lst (((List.range m).map f).map D.int)), x3, x4, x5, x6] h = some (.nx [p, some (.int m), some (.lst (((List.range m).map fun j => f j + wsum r pt j).map D.int)), y3, y4, y5, y6] h)
  | [], r, f, x3, x4, x5, x6, _ => by
    refine ⟨x3, x4, x5, x6, ?_⟩
    simp [enumD, runF_nil, wsum]
  | x :: pt, r, f, x3, x4, x5, x6, hl => by
    simp only [List.length_cons] at hl
    obtain ⟨z5, z6, e1⟩ := innr (C := cal T (k + 1)) (G := G) p (some (.int m)) (some (.int x)) r (by omega) h (digs x m) [] ((List.range m).map f) x5 x6 (by simp [digs_len]) (digs_01 m x)
    obtain ⟨y3, y4, y5, y6, e⟩ := outr (k := k) (G := G) p m hm h pt (r + 1) (fun j => f j + dg x j * 2 ^ r) (some (.int r)) (some (.int x)) z5 z6 (by omega)
    refine ⟨y3, y4, y5, y6, ?_⟩
    rw [List.map_cons, enumD, runF_cons, turn_tup (ρ2 := [p, some (.int m), some (.lst (((List.range m).map f).map D.int)), some (.int r), some (.int x), x5, x6]) rfl]
    have q := dlist k x m hm h
    unfold lI at q
    simp only [List.nil_append, List.length_nil, zip_range] at e1
    simp -dsimp -implicitDefEqProofs only [exs, exc, ev, islM, evs, tst, tsts, evi, M.ret_def, M.lift_some, SR.end_rt, SR.end_nx, SR.end_ex, get_zero, get_succ, Tg.set_name, Tg.set_tup, setAll, List.set_cons_zero, List.set_cons_succ, Option.map_some, Option.map_none, eq_ints, ne_ints, lt_ints, le_ints, gt_ints, ge_ints, add_ints, sub_ints, truthy_bl, truthy_int, bi_int, bi_abs, bi_max2, bi_min2, bi_len_fz, bi_len_lst, bi_len_tup, bi_repr, ix_lst, ix_tup, ix_fz, at4_0, at4_1, at4_2, at4_3, set4_0, set4_1, set4_2, set4_3, at3_0, at3_1, at3_2, set3_0, set3_1, set3_2, decide_eq_true_eq, ite_true, ite_false, if_true, if_false, Bool.false_eq_true, Bool.not_eq_true', decide_eq_false_iff_not, Bool.not_true, Bool.not_false, List.foldr_cons, List.foldr_nil, Ty.has, Option.bind_some, ↓exc_whl, ↓exc_for, ↓ev_comp, ↓z_ite, ↓z_bind, ↓z_bd, ↓z_sbd, ↓z_sq, ↓z_tn, bdz_ok, bdz_exc, sbdz_ok, sbdz_exc, sqz_nx, sqz_rt, sqz_bk, sqz_ct, sqz_ex, tnz_nx, tnz_rt, tnz_bk, tnz_ct, tnz_ex, kFor_ok, runF_nil, turn_name, wipeE, Int.cast_ofNat_Int, Int.natCast_zero, Int.natCast_one, Int.reduceEq, Int.reduceLT, Int.reduceLE, Int.reduceNeg, part_nil, part_int, cutOf_tup, isi_def, items_lst, items_tup, items_fz, isAny, eq_self, decide_true, decide_false, not_true_eq_false, not_false_eq_true, ne_eq,  sizeLine_eq, List.length_cons, List.length_nil, Nat.reduceAdd, Nat.reduceLeDiff, Nat.zero_add, obody, q, e1]
    show runF (cal T (k + 1)) G (Tg.tup [3, 4]) obody _ _ h = _
    rw [e]
    simp only [wsum, Int.add_assoc]
theorem wsum_V : ∀ (pt : List Int) (r k : Nat), wsum r pt k = 2 ^ r * Vv (pt.map fun x => dg x k)
  | [], r, k => by simp [wsum, Vv]
  | x :: pt, r, k => by
    rw [wsum, wsum_V pt (r + 1) k, List.map_cons, Vv, Int.mul_add, Int.pow_succ, Int.mul_assoc, Int.mul_comm (dg x k)]
theorem wordof (k : Nat) (pt : List Int) (hl : pt.length ≤ 6) (hm : mny pt ≤ 1000) (h : AH) : cal T (k + 3) 4 [tI pt] h = some (.ok (tI (wrd pt (mny pt))) h) := by
  rw [cal_unf (F := T.fns[4]) rfl rfl]
  show SR.end (exs _ _ b4 [some (.tup (pt.map D.int)), none, none, none, none, none, none] h) = _
  have q1 := ispt k pt (by omega) h
  unfold tI at q1
  have g1 : ¬ (6 < (pt.length : Int)) := by omega
  have c1 := comp_run (C := cal T (k + 2)) (elt := ME.call 2 (MEs.cons (ME.var 4) (MEs.nil))) (t := .name 4) (cs := .nil) (own := [4]) (ρ := [some (.tup (pt.map D.int)), none, none, none, none, none, none]) (h := h) (small_le (m := 6) (by rw [List.length_map]; omega) (by decide)) (lc_onI (f := D.int) (g := fun x => (nb x : Int)) pt fun v hv => by
    refine step_nil (ρ' := [some (.tup (pt.map D.int)), none, none, none, some (.int v), none, none]) rfl ?_
    simp -dsimp -implicitDefEqProofs only [exs, exc, ev, islM, evs, tst, tsts, evi, M.ret_def, M.lift_some, SR.end_rt, SR.end_nx, SR.end_ex, get_zero, get_succ, Tg.set_name, Tg.set_tup, setAll, List.set_cons_zero, List.set_cons_succ, Option.map_some, Option.map_none, eq_ints, ne_ints, lt_ints, le_ints, gt_ints, ge_ints, add_ints, sub_ints, truthy_bl, truthy_int, bi_int, bi_abs, bi_max2, bi_min2, bi_len_fz, bi_len_lst, bi_len_tup, bi_repr, ix_lst, ix_tup, ix_fz, at4_0, at4_1, at4_2, at4_3, set4_0, set4_1, set4_2, set4_3, at3_0, at3_1, at3_2, set3_0, set3_1, set3_2, decide_eq_true_eq, ite_true, ite_false, if_true, if_false, Bool.false_eq_true, Bool.not_eq_true', decide_eq_false_iff_not, Bool.not_true, Bool.not_false, List.foldr_cons, List.foldr_nil, Ty.has, Option.bind_some, ↓exc_whl, ↓exc_for, ↓ev_comp, ↓z_ite, ↓z_bind, ↓z_bd, ↓z_sbd, ↓z_sq, ↓z_tn, bdz_ok, bdz_exc, sbdz_ok, sbdz_exc, sqz_nx, sqz_rt, sqz_bk, sqz_ct, sqz_ex, tnz_nx, tnz_rt, tnz_bk, tnz_ct, tnz_ex, kFor_ok, runF_nil, turn_name, wipeE, Int.cast_ofNat_Int, Int.natCast_zero, Int.natCast_one, Int.reduceEq, Int.reduceLT, Int.reduceLE, Int.reduceNeg, part_nil, part_int, cutOf_tup, isi_def, items_lst, items_tup, items_fz, isAny, eq_self, decide_true, decide_false, not_true_eq_false, not_false_eq_true, ne_eq,  sizeLine_eq, List.length_cons, List.length_nil, Nat.reduceAdd, Nat.reduceLeDiff, Nat.zero_add, dof])
  have a1 : D.bop .add (.lst [.int 0]) (.lst ((pt.map fun x => (nb x : Int)).map D.int)) = some (.lst (((0 :: pt.map nb).map fun (n : Nat) => (n : Int)).map D.int)) := by
    refine (if_pos (small_le (m := 7) (by simp; omega) (by decide))).trans ?_
    simp
  have m1 := maxN (0 :: pt.map nb) (by simp)
  have m2 := bi_max (h := h) m1
  have e3 : (((0 :: pt.map nb).foldr max 0 : Nat) : Int) + 1 = (mny pt : Int) := by simp [mny]
  obtain ⟨mx, hmx⟩ : ∃ mx, (0 :: pt.map nb).foldr max 0 = mx := ⟨_, rfl⟩
  rw [hmx] at m2 e3
  have r1 := rng1_nat (mny pt) (by omega)
  have c2 : ∀ (ρ : Mi.Env), ρ = [some (.tup (pt.map D.int)), some (.int (mny pt)), none, none, none, none, none] → kComp (cal T (k + 2)) (ME.lit (D.int 0)) (.name 5) .nil [5] ρ ((List.range (mny pt)).map fun (i : Nat) => D.int (i : Int)) h = some (.ok (.lst (((List.range (mny pt)).map fun _ => (0 : Int)).map D.int)) h) := fun ρ eρ => by
    subst eρ
    exact comp_run (small_le (m := 1000) (by rw [List.length_map, List.length_range]; omega) (by decide)) (lc_onI (f := fun (i : Nat) => D.int (i : Int)) (g := fun _ => 0) (List.range (mny pt)) fun i hi => step_nil (ρ' := [some (.tup (pt.map D.int)), some (.int (mny pt)), none, none, none, some (.int i), none]) rfl (by simp -dsimp -implicitDefEqProofs only [exs, exc, ev, islM, evs, tst, tsts, evi, M.ret_def, M.lift_some, SR.end_rt, SR.end_nx, SR.end_ex, get_zero, get_succ, Tg.set_name, Tg.set_tup, setAll, List.set_cons_zero, List.set_cons_succ, Option.map_some, Option.map_none, eq_ints, ne_ints, lt_ints, le_ints, gt_ints, ge_ints, add_ints, sub_ints, truthy_bl, truthy_int, bi_int, bi_abs, bi_max2, bi_min2, bi_len_fz, bi_len_lst, bi_len_tup, bi_repr, ix_lst, ix_tup, ix_fz, at4_0, at4_1, at4_2, at4_3, set4_0, set4_1, set4_2, set4_3, at3_0, at3_1, at3_2, set3_0, set3_1, set3_2, decide_eq_true_eq, ite_true, ite_false, if_true, if_false, Bool.false_eq_true, Bool.not_eq_true', decide_eq_false_iff_not, Bool.not_true, Bool.not_false, List.foldr_cons, List.foldr_nil, Ty.has, Option.bind_some, ↓exc_whl, ↓exc_for, ↓ev_comp, ↓z_ite, ↓z_bind, ↓z_bd, ↓z_sbd, ↓z_sq, ↓z_tn, bdz_ok, bdz_exc, sbdz_ok, sbdz_exc, sqz_nx, sqz_rt, sqz_bk, sqz_ct, sqz_ex, tnz_nx, tnz_rt, tnz_bk, tnz_ct, tnz_ex, kFor_ok, runF_nil, turn_name, wipeE, Int.cast_ofNat_Int, Int.natCast_zero, Int.natCast_one, Int.reduceEq, Int.reduceLT, Int.reduceLE, Int.reduceNeg, part_nil, part_int, cutOf_tup, isi_def, items_lst, items_tup, items_fz, isAny, eq_self, decide_true, decide_false, not_true_eq_false, not_false_eq_true, ne_eq,  sizeLine_eq, List.length_cons, List.length_nil, Nat.reduceAdd, Nat.reduceLeDiff, Nat.zero_add]))
  obtain ⟨y3, y4, y5, y6, e⟩ := outr (k := k + 1) (G := T.xcs) (some (.tup (pt.map D.int))) (mny pt) hm h pt 0 (fun _ => 0) none none none none (by omega)
  have e4 : (fun j => 0 + wsum 0 pt j) = fun j => Vv (pt.map fun x => dg x j) := by
    funext j; rw [wsum_V]; simp
  rw [e4] at e
  simp only [obody, ibody] at e
  simp -dsimp -implicitDefEqProofs only [exs, exc, ev, islM, evs, tst, tsts, evi, M.ret_def, M.lift_some, SR.end_rt, SR.end_nx, SR.end_ex, get_zero, get_succ, Tg.set_name, Tg.set_tup, setAll, List.set_cons_zero, List.set_cons_succ, Option.map_some, Option.map_none, eq_ints, ne_ints, lt_ints, le_ints, gt_ints, ge_ints, add_ints, sub_ints, truthy_bl, truthy_int, bi_int, bi_abs, bi_max2, bi_min2, bi_len_fz, bi_len_lst, bi_len_tup, bi_repr, ix_lst, ix_tup, ix_fz, at4_0, at4_1, at4_2, at4_3, set4_0, set4_1, set4_2, set4_3, at3_0, at3_1, at3_2, set3_0, set3_1, set3_2, decide_eq_true_eq, ite_true, ite_false, if_true, if_false, Bool.false_eq_true, Bool.not_eq_true', decide_eq_false_iff_not, Bool.not_true, Bool.not_false, List.foldr_cons, List.foldr_nil, Ty.has, Option.bind_some, ↓exc_whl, ↓exc_for, ↓ev_comp, ↓z_ite, ↓z_bind, ↓z_bd, ↓z_sbd, ↓z_sq, ↓z_tn, bdz_ok, bdz_exc, sbdz_ok, sbdz_exc, sqz_nx, sqz_rt, sqz_bk, sqz_ct, sqz_ex, tnz_nx, tnz_rt, tnz_bk, tnz_ct, tnz_ex, kFor_ok, runF_nil, turn_name, wipeE, Int.cast_ofNat_Int, Int.natCast_zero, Int.natCast_one, Int.reduceEq, Int.reduceLT, Int.reduceLE, Int.reduceNeg, part_nil, part_int, cutOf_tup, isi_def, items_lst, items_tup, items_fz, isAny, eq_self, decide_true, decide_false, not_true_eq_false, not_false_eq_true, ne_eq,  sizeLine_eq, List.length_cons, List.length_nil, Nat.reduceAdd, Nat.reduceLeDiff, Nat.zero_add, b4, isi_tup, List.length_map, q1, eq_false g1, c1, a1, m2, e3, r1, c2, e, bi_tuple, tI, wrd]
theorem lc_onF {α : Type} {st : D → M (Option D)} {f : α → D} {g : α → Option D} {h : AH} (L : List α) (hs : ∀ a ∈ L, st (f a) h = some (.ok (g a) h)) : lcM st (L.map f) h = some (.ok (L.filterMap g) h) := by
  induction L with
  | nil => rfl
  | cons x xs ih =>
    simp only [List.map_cons, lcM, M.bind_def, hs x List.mem_cons_self, M.bd_ok, ih fun y hy => hs y (List.mem_cons_of_mem _ hy)]
    cases q : g x with
    | none => simp [q, consO]
    | some y => simp [q, consO]
theorem at_map {α : Type} {f : α → D} {L : List α} {i : Nat} {d : α} (hi : i < L.length) : L2.atI (L.map f) (i : Int) = some (f (L.getD i d)) := by
  have e : L.getD i d = L[i] := by simp [List.getD, hi]
  rw [e]
  refine atI_nat (by omega) ?_
  simp [hi]
theorem getD_digs (x : Int) (m k : Nat) (hk : k < m) : (digs x m).getD k 0 = dg x k := by
  rw [digs_eq]
  simp [List.getD, hk]
theorem p1040 : powOk 10 40 = true := by decide
theorem p1039 : powOk 10 39 = true := by decide
theorem p1020 : powOk 10 20 = true := by decide
theorem e1040 : (10 : Int) ^ Int.toNat 40 = 10000000000000000000000000000000000000000 := by decide
theorem e1039 : (10 : Int) ^ Int.toNat 39 = 1000000000000000000000000000000000000000 := by decide
theorem e1020 : (10 : Int) ^ Int.toNat 20 = 100000000000000000000 := by decide
theorem number_ok (k : Nat) (h : AH) (r : Nat) (hb : Tape h r) : ∃ (x : Int) (h' : AH), cal T (k + 3) 14 [.ref r, .bl true] h = some (.ok (.int x) h') ∧ Bl x 210 ∧ Tape h' r := by
  rw [cal_unf (F := T.fns[14]) rfl rfl]
  show ∃ x h', SR.end (exs _ _ b14 [some (.ref r), some (.bl true), none] h) = _ ∧ _
  obtain ⟨kd, h1, e1, l1, u1, t1⟩ := draw_ok (k + 1) h r 8 hb (by decide) (Bl.mono (n := 64) (by unfold Bl; decide) (by decide))
  by_cases c1 : kd < 5
  · obtain ⟨x, h2, e2, l2, u2, t2⟩ := draw_ok (k + 1) h1 r 41 t1 (by decide) (Bl.mono (n := 64) (by unfold Bl; decide) (by decide))
    refine ⟨x - 20, h2, ?_, ?_, t2⟩
    · simp -dsimp -implicitDefEqProofs only [exs, exc, ev, islM, evs, tst, tsts, evi, M.ret_def, M.lift_some, SR.end_rt, SR.end_nx, SR.end_ex, get_zero, get_succ, Tg.set_name, Tg.set_tup, setAll, List.set_cons_zero, List.set_cons_succ, Option.map_some, Option.map_none, eq_ints, ne_ints, lt_ints, le_ints, gt_ints, ge_ints, add_ints, sub_ints, truthy_bl, truthy_int, bi_int, bi_abs, bi_max2, bi_min2, bi_len_fz, bi_len_lst, bi_len_tup, bi_repr, ix_lst, ix_tup, ix_fz, at4_0, at4_1, at4_2, at4_3, set4_0, set4_1, set4_2, set4_3, at3_0, at3_1, at3_2, set3_0, set3_1, set3_2, decide_eq_true_eq, ite_true, ite_false, if_true, if_false, Bool.false_eq_true, Bool.not_eq_true', decide_eq_false_iff_not, Bool.not_true, Bool.not_false, List.foldr_cons, List.foldr_nil, Ty.has, Option.bind_some, ↓exc_whl, ↓exc_for, ↓ev_comp, ↓z_ite, ↓z_bind, ↓z_bd, ↓z_sbd, ↓z_sq, ↓z_tn, bdz_ok, bdz_exc, sbdz_ok, sbdz_exc, sqz_nx, sqz_rt, sqz_bk, sqz_ct, sqz_ex, tnz_nx, tnz_rt, tnz_bk, tnz_ct, tnz_ex, kFor_ok, runF_nil, turn_name, wipeE, Int.cast_ofNat_Int, Int.natCast_zero, Int.natCast_one, Int.reduceEq, Int.reduceLT, Int.reduceLE, Int.reduceNeg, part_nil, part_int, cutOf_tup, isi_def, items_lst, items_tup, items_fz, isAny, eq_self, decide_true, decide_false, not_true_eq_false, not_false_eq_true, ne_eq,  sizeLine_eq, List.length_cons, List.length_nil, Nat.reduceAdd, Nat.reduceLeDiff, Nat.zero_add, b14, e1, eq_true c1, e2]
    · refine Bl.mono (n := 64) ?_ (by decide)
      unfold Bl; omega
  by_cases c2 : kd < 7
  · obtain ⟨x, h2, e2, l2, u2, t2⟩ := draw_ok (k + 1) h1 r 2000001 t1 (by decide) (Bl.mono (n := 64) (by unfold Bl; decide) (by decide))
    refine ⟨x - 1000000, h2, ?_, ?_, t2⟩
    · simp -dsimp -implicitDefEqProofs only [exs, exc, ev, islM, evs, tst, tsts, evi, M.ret_def, M.lift_some, SR.end_rt, SR.end_nx, SR.end_ex, get_zero, get_succ, Tg.set_name, Tg.set_tup, setAll, List.set_cons_zero, List.set_cons_succ, Option.map_some, Option.map_none, eq_ints, ne_ints, lt_ints, le_ints, gt_ints, ge_ints, add_ints, sub_ints, truthy_bl, truthy_int, bi_int, bi_abs, bi_max2, bi_min2, bi_len_fz, bi_len_lst, bi_len_tup, bi_repr, ix_lst, ix_tup, ix_fz, at4_0, at4_1, at4_2, at4_3, set4_0, set4_1, set4_2, set4_3, at3_0, at3_1, at3_2, set3_0, set3_1, set3_2, decide_eq_true_eq, ite_true, ite_false, if_true, if_false, Bool.false_eq_true, Bool.not_eq_true', decide_eq_false_iff_not, Bool.not_true, Bool.not_false, List.foldr_cons, List.foldr_nil, Ty.has, Option.bind_some, ↓exc_whl, ↓exc_for, ↓ev_comp, ↓z_ite, ↓z_bind, ↓z_bd, ↓z_sbd, ↓z_sq, ↓z_tn, bdz_ok, bdz_exc, sbdz_ok, sbdz_exc, sqz_nx, sqz_rt, sqz_bk, sqz_ct, sqz_ex, tnz_nx, tnz_rt, tnz_bk, tnz_ct, tnz_ex, kFor_ok, runF_nil, turn_name, wipeE, Int.cast_ofNat_Int, Int.natCast_zero, Int.natCast_one, Int.reduceEq, Int.reduceLT, Int.reduceLE, Int.reduceNeg, part_nil, part_int, cutOf_tup, isi_def, items_lst, items_tup, items_fz, isAny, eq_self, decide_true, decide_false, not_true_eq_false, not_false_eq_true, ne_eq,  sizeLine_eq, List.length_cons, List.length_nil, Nat.reduceAdd, Nat.reduceLeDiff, Nat.zero_add, b14, e1, eq_false c1, eq_true c2, e2]
    · refine Bl.mono (n := 64) ?_ (by decide)
      unfold Bl; omega
  obtain ⟨x, h2, e2, l2, u2, t2⟩ := draw_ok (k + 1) h1 r 10000000000000000000000000000000000000000 t1 (by decide) (Bl.mono (n := 140) (by unfold Bl; decide) (by decide))
  obtain ⟨y, h3, e3, m3, t3⟩ := pick_ok k h2 r [.int 1, .int 100000000000000000000] t2 (by simp) (by simp)
  have hx : Bl (x - 5000000000000000000000000000000000000000) 134 := by unfold Bl; omega
  have m0 : mulOk 5 1000000000000000000000000000000000000000 = true := mulOk_l (by decide)
  have e5 : (5 : Int) * 1000000000000000000000000000000000000000 = 5000000000000000000000000000000000000000 := by decide
  simp only [List.mem_cons, List.not_mem_nil, or_false] at m3
  rcases m3 with rfl | rfl
  · have hy : Bl (1 : Int) 70 := by unfold Bl; decide
    refine ⟨_, h3, ?_, Bl.mono (hx.mul hy) (by decide), t3⟩
    simp -dsimp -implicitDefEqProofs only [exs, exc, ev, islM, evs, tst, tsts, evi, M.ret_def, M.lift_some, SR.end_rt, SR.end_nx, SR.end_ex, get_zero, get_succ, Tg.set_name, Tg.set_tup, setAll, List.set_cons_zero, List.set_cons_succ, Option.map_some, Option.map_none, eq_ints, ne_ints, lt_ints, le_ints, gt_ints, ge_ints, add_ints, sub_ints, truthy_bl, truthy_int, bi_int, bi_abs, bi_max2, bi_min2, bi_len_fz, bi_len_lst, bi_len_tup, bi_repr, ix_lst, ix_tup, ix_fz, at4_0, at4_1, at4_2, at4_3, set4_0, set4_1, set4_2, set4_3, at3_0, at3_1, at3_2, set3_0, set3_1, set3_2, decide_eq_true_eq, ite_true, ite_false, if_true, if_false, Bool.false_eq_true, Bool.not_eq_true', decide_eq_false_iff_not, Bool.not_true, Bool.not_false, List.foldr_cons, List.foldr_nil, Ty.has, Option.bind_some, ↓exc_whl, ↓exc_for, ↓ev_comp, ↓z_ite, ↓z_bind, ↓z_bd, ↓z_sbd, ↓z_sq, ↓z_tn, bdz_ok, bdz_exc, sbdz_ok, sbdz_exc, sqz_nx, sqz_rt, sqz_bk, sqz_ct, sqz_ex, tnz_nx, tnz_rt, tnz_bk, tnz_ct, tnz_ex, kFor_ok, runF_nil, turn_name, wipeE, Int.cast_ofNat_Int, Int.natCast_zero, Int.natCast_one, Int.reduceEq, Int.reduceLT, Int.reduceLE, Int.reduceNeg, part_nil, part_int, cutOf_tup, isi_def, items_lst, items_tup, items_fz, isAny, eq_self, decide_true, decide_false, not_true_eq_false, not_false_eq_true, ne_eq,  sizeLine_eq, List.length_cons, List.length_nil, Nat.reduceAdd, Nat.reduceLeDiff, Nat.zero_add, b14, e1, eq_false c1, eq_false c2, pow_ints p1040, e1040, pow_ints p1039, e1039, pow_ints p1020, e1020, e2, e3, mul_ints m0, e5, mul_ints (mulOk_bl hx hy (by decide))]
  · have hy : Bl (100000000000000000000 : Int) 70 := by unfold Bl; decide
    refine ⟨_, h3, ?_, Bl.mono (hx.mul hy) (by decide), t3⟩
    simp -dsimp -implicitDefEqProofs only [exs, exc, ev, islM, evs, tst, tsts, evi, M.ret_def, M.lift_some, SR.end_rt, SR.end_nx, SR.end_ex, get_zero, get_succ, Tg.set_name, Tg.set_tup, setAll, List.set_cons_zero, List.set_cons_succ, Option.map_some, Option.map_none, eq_ints, ne_ints, lt_ints, le_ints, gt_ints, ge_ints, add_ints, sub_ints, truthy_bl, truthy_int, bi_int, bi_abs, bi_max2, bi_min2, bi_len_fz, bi_len_lst, bi_len_tup, bi_repr, ix_lst, ix_tup, ix_fz, at4_0, at4_1, at4_2, at4_3, set4_0, set4_1, set4_2, set4_3, at3_0, at3_1, at3_2, set3_0, set3_1, set3_2, decide_eq_true_eq, ite_true, ite_false, if_true, if_false, Bool.false_eq_true, Bool.not_eq_true', decide_eq_false_iff_not, Bool.not_true, Bool.not_false, List.foldr_cons, List.foldr_nil, Ty.has, Option.bind_some, ↓exc_whl, ↓exc_for, ↓ev_comp, ↓z_ite, ↓z_bind, ↓z_bd, ↓z_sbd, ↓z_sq, ↓z_tn, bdz_ok, bdz_exc, sbdz_ok, sbdz_exc, sqz_nx, sqz_rt, sqz_bk, sqz_ct, sqz_ex, tnz_nx, tnz_rt, tnz_bk, tnz_ct, tnz_ex, kFor_ok, runF_nil, turn_name, wipeE, Int.cast_ofNat_Int, Int.natCast_zero, Int.natCast_one, Int.reduceEq, Int.reduceLT, Int.reduceLE, Int.reduceNeg, part_nil, part_int, cutOf_tup, isi_def, items_lst, items_tup, items_fz, isAny, eq_self, decide_true, decide_false, not_true_eq_false, not_false_eq_true, ne_eq,  sizeLine_eq, List.length_cons, List.length_nil, Nat.reduceAdd, Nat.reduceLeDiff, Nat.zero_add, b14, e1, eq_false c1, eq_false c2, pow_ints p1040, e1040, pow_ints p1039, e1039, pow_ints p1020, e1020, e2, e3, mul_ints m0, e5, mul_ints (mulOk_bl hx hy (by decide))]
theorem point_ok (k : Nat) (h : AH) (r n : Nat) (hn : n < 7) (hb : Tape h r) : ∃ (pt : List Int) (h' : AH), cal T (k + 4) 16 [.ref r, .int n, .bl true] h = some (.ok (tI pt) h') ∧ pt.length = n ∧ (∀ x ∈ pt, Bl x 210) ∧ Tape h' r := by
  rw [cal_unf (F := T.fns[16]) rfl rfl]
  show ∃ pt h', SR.end (exs _ _ b16 [some (.ref r), some (.int n), some (.bl true), none] h) = _ ∧ _
  obtain ⟨L, h', e, hl, hp, t⟩ := lc_drawI (st := stepM (cal T (k + 3)) [3] (.name 3) .nil (ME.call 14 (MEs.cons (ME.var 0) (MEs.cons (ME.var 2) MEs.nil))) [some (.ref r), some (.int n), some (.bl true), none]) (fun h => Tape h r) (fun x => Bl x 210) ((List.range n).map fun (i : Nat) => D.int (i : Int)) (fun x hx h hb => by
    obtain ⟨i, _, rfl⟩ := List.mem_map.mp hx
    obtain ⟨x, h', e, b, t⟩ := number_ok k h r hb
    refine ⟨x, h', step_nil (ρ' := [some (.ref r), some (.int n), some (.bl true), some (.int i)]) rfl ?_, b, t⟩
    simp -dsimp -implicitDefEqProofs only [exs, exc, ev, islM, evs, tst, tsts, evi, M.ret_def, M.lift_some, SR.end_rt, SR.end_nx, SR.end_ex, get_zero, get_succ, Tg.set_name, Tg.set_tup, setAll, List.set_cons_zero, List.set_cons_succ, Option.map_some, Option.map_none, eq_ints, ne_ints, lt_ints, le_ints, gt_ints, ge_ints, add_ints, sub_ints, truthy_bl, truthy_int, bi_int, bi_abs, bi_max2, bi_min2, bi_len_fz, bi_len_lst, bi_len_tup, bi_repr, ix_lst, ix_tup, ix_fz, at4_0, at4_1, at4_2, at4_3, set4_0, set4_1, set4_2, set4_3, at3_0, at3_1, at3_2, set3_0, set3_1, set3_2, decide_eq_true_eq, ite_true, ite_false, if_true, if_false, Bool.false_eq_true, Bool.not_eq_true', decide_eq_false_iff_not, Bool.not_true, Bool.not_false, List.foldr_cons, List.foldr_nil, Ty.has, Option.bind_some, ↓exc_whl, ↓exc_for, ↓ev_comp, ↓z_ite, ↓z_bind, ↓z_bd, ↓z_sbd, ↓z_sq, ↓z_tn, bdz_ok, bdz_exc, sbdz_ok, sbdz_exc, sqz_nx, sqz_rt, sqz_bk, sqz_ct, sqz_ex, tnz_nx, tnz_rt, tnz_bk, tnz_ct, tnz_ex, kFor_ok, runF_nil, turn_name, wipeE, Int.cast_ofNat_Int, Int.natCast_zero, Int.natCast_one, Int.reduceEq, Int.reduceLT, Int.reduceLE, Int.reduceNeg, part_nil, part_int, cutOf_tup, isi_def, items_lst, items_tup, items_fz, isAny, eq_self, decide_true, decide_false, not_true_eq_false, not_false_eq_true, ne_eq,  sizeLine_eq, List.length_cons, List.length_nil, Nat.reduceAdd, Nat.reduceLeDiff, Nat.zero_add, e]) h hb
  have c1 := comp_run (small_le (m := 400) (by rw [List.length_map, List.length_range]; omega) (by decide)) e
  have r1 := rng1_nat n (by omega)
  refine ⟨L, h', ?_, by simpa using hl, hp, t⟩
  simp -dsimp -implicitDefEqProofs only [exs, exc, ev, islM, evs, tst, tsts, evi, M.ret_def, M.lift_some, SR.end_rt, SR.end_nx, SR.end_ex, get_zero, get_succ, Tg.set_name, Tg.set_tup, setAll, List.set_cons_zero, List.set_cons_succ, Option.map_some, Option.map_none, eq_ints, ne_ints, lt_ints, le_ints, gt_ints, ge_ints, add_ints, sub_ints, truthy_bl, truthy_int, bi_int, bi_abs, bi_max2, bi_min2, bi_len_fz, bi_len_lst, bi_len_tup, bi_repr, ix_lst, ix_tup, ix_fz, at4_0, at4_1, at4_2, at4_3, set4_0, set4_1, set4_2, set4_3, at3_0, at3_1, at3_2, set3_0, set3_1, set3_2, decide_eq_true_eq, ite_true, ite_false, if_true, if_false, Bool.false_eq_true, Bool.not_eq_true', decide_eq_false_iff_not, Bool.not_true, Bool.not_false, List.foldr_cons, List.foldr_nil, Ty.has, Option.bind_some, ↓exc_whl, ↓exc_for, ↓ev_comp, ↓z_ite, ↓z_bind, ↓z_bd, ↓z_sbd, ↓z_sq, ↓z_tn, bdz_ok, bdz_exc, sbdz_ok, sbdz_exc, sqz_nx, sqz_rt, sqz_bk, sqz_ct, sqz_ex, tnz_nx, tnz_rt, tnz_bk, tnz_ct, tnz_ex, kFor_ok, runF_nil, turn_name, wipeE, Int.cast_ofNat_Int, Int.natCast_zero, Int.natCast_one, Int.reduceEq, Int.reduceLT, Int.reduceLE, Int.reduceNeg, part_nil, part_int, cutOf_tup, isi_def, items_lst, items_tup, items_fz, isAny, eq_self, decide_true, decide_false, not_true_eq_false, not_false_eq_true, ne_eq,  sizeLine_eq, List.length_cons, List.length_nil, Nat.reduceAdd, Nat.reduceLeDiff, Nat.zero_add, b16, r1, c1, bi_tuple, tI]
theorem nb_le (pt : List Int) (h : ∀ x ∈ pt, Bl x 210) : mny pt ≤ 211 := by
  refine (all_fit pt 211 (by decide)).mp fun x hx => (fits_iff (by decide) x).mp ?_
  have := h x hx
  unfold Bl at this
  show -2 ^ 210 ≤ x ∧ x < 2 ^ 210
  omega
theorem is_tup_non {ds : List D} : D.cop .is (.tup ds) .non = some false := rfl
theorem is_int_non {i : Int} : D.cop .is (.int i) .non = some false := rfl
theorem ne_bls {a b : Bool} : D.cop .ne (.bl a) (.bl b) = some (!(a == b)) := rfl
theorem same_int (k : Nat) (i : Int) (h : AH) : cal T (k + 1) 13 [.int i, .int i] h = some (.ok (.bl true) h) := by
  rw [cal_unf (F := T.fns[13]) rfl rfl]
  show SR.end (exs _ _ b13 [some (.int i), some (.int i), none] h) = _
  simp -dsimp -implicitDefEqProofs only [exs, exc, ev, islM, evs, tst, tsts, evi, M.ret_def, M.lift_some, SR.end_rt, SR.end_nx, SR.end_ex, get_zero, get_succ, Tg.set_name, Tg.set_tup, setAll, List.set_cons_zero, List.set_cons_succ, Option.map_some, Option.map_none, eq_ints, ne_ints, lt_ints, le_ints, gt_ints, ge_ints, add_ints, sub_ints, truthy_bl, truthy_int, bi_int, bi_abs, bi_max2, bi_min2, bi_len_fz, bi_len_lst, bi_len_tup, bi_repr, ix_lst, ix_tup, ix_fz, at4_0, at4_1, at4_2, at4_3, set4_0, set4_1, set4_2, set4_3, at3_0, at3_1, at3_2, set3_0, set3_1, set3_2, decide_eq_true_eq, ite_true, ite_false, if_true, if_false, Bool.false_eq_true, Bool.not_eq_true', decide_eq_false_iff_not, Bool.not_true, Bool.not_false, List.foldr_cons, List.foldr_nil, Ty.has, Option.bind_some, ↓exc_whl, ↓exc_for, ↓ev_comp, ↓z_ite, ↓z_bind, ↓z_bd, ↓z_sbd, ↓z_sq, ↓z_tn, bdz_ok, bdz_exc, sbdz_ok, sbdz_exc, sqz_nx, sqz_rt, sqz_bk, sqz_ct, sqz_ex, tnz_nx, tnz_rt, tnz_bk, tnz_ct, tnz_ex, kFor_ok, runF_nil, turn_name, wipeE, Int.cast_ofNat_Int, Int.natCast_zero, Int.natCast_one, Int.reduceEq, Int.reduceLT, Int.reduceLE, Int.reduceNeg, part_nil, part_int, cutOf_tup, isi_def, items_lst, items_tup, items_fz, isAny, eq_self, decide_true, decide_false, not_true_eq_false, not_false_eq_true, ne_eq,  sizeLine_eq, List.length_cons, List.length_nil, Nat.reduceAdd, Nat.reduceLeDiff, Nat.zero_add, b13, is_int_non]
theorem notin_true (L : List Int) : D.cop .notin (.bl false) (.lst (L.map fun _ => .bl true)) = some true := by
  have e : D.isInL (.bl false) (L.map fun _ => D.bl true) = some false := by
    unfold D.isInL
    rw [if_pos (by simp [D.flat])]
    congr 1
    induction L with
    | nil => rfl
    | cons a L ih => simpa [D.eqv] using ih
  show (D.isInL _ _).map _ = _
  rw [e]; rfl
theorem same_tup (k : Nat) (w : List Int) (hl : w.length ≤ 1000) (h : AH) : cal T (k + 2) 13 [tI w, tI w] h = some (.ok (.bl true) h) := by
  rw [cal_unf (F := T.fns[13]) rfl rfl]
  show SR.end (exs _ _ b13 [some (.tup (w.map D.int)), some (.tup (w.map D.int)), none] h) = _
  have r1 := rng1_nat w.length (by omega)
  have c1 := comp_run (C := cal T (k + 1)) (elt := (ME.call 13 (MEs.cons (ME.ix (ME.var 0) (ME.var 2)) (MEs.cons (ME.ix (ME.var 1) (ME.var 2)) (MEs.nil))))) (t := .name 2) (cs := .nil) (own := [2]) (ρ := [some (.tup (w.map D.int)), some (.tup (w.map D.int)), none]) (h := h) (small_le (m := 1000) (by rw [List.length_map, List.length_range]; omega) (by decide)) (lc_on (f := fun (i : Nat) => D.int (i : Int)) (g := fun _ => .bl true) (List.range w.length) fun i hi => by
    have hi' := List.mem_range.mp hi
    refine step_nil (ρ' := [some (.tup (w.map D.int)), some (.tup (w.map D.int)), some (.int i)]) rfl ?_
    simp -dsimp -implicitDefEqProofs only [exs, exc, ev, islM, evs, tst, tsts, evi, M.ret_def, M.lift_some, SR.end_rt, SR.end_nx, SR.end_ex, get_zero, get_succ, Tg.set_name, Tg.set_tup, setAll, List.set_cons_zero, List.set_cons_succ, Option.map_some, Option.map_none, eq_ints, ne_ints, lt_ints, le_ints, gt_ints, ge_ints, add_ints, sub_ints, truthy_bl, truthy_int, bi_int, bi_abs, bi_max2, bi_min2, bi_len_fz, bi_len_lst, bi_len_tup, bi_repr, ix_lst, ix_tup, ix_fz, at4_0, at4_1, at4_2, at4_3, set4_0, set4_1, set4_2, set4_3, at3_0, at3_1, at3_2, set3_0, set3_1, set3_2, decide_eq_true_eq, ite_true, ite_false, if_true, if_false, Bool.false_eq_true, Bool.not_eq_true', decide_eq_false_iff_not, Bool.not_true, Bool.not_false, List.foldr_cons, List.foldr_nil, Ty.has, Option.bind_some, ↓exc_whl, ↓exc_for, ↓ev_comp, ↓z_ite, ↓z_bind, ↓z_bd, ↓z_sbd, ↓z_sq, ↓z_tn, bdz_ok, bdz_exc, sbdz_ok, sbdz_exc, sqz_nx, sqz_rt, sqz_bk, sqz_ct, sqz_ex, tnz_nx, tnz_rt, tnz_bk, tnz_ct, tnz_ex, kFor_ok, runF_nil, turn_name, wipeE, Int.cast_ofNat_Int, Int.natCast_zero, Int.natCast_one, Int.reduceEq, Int.reduceLT, Int.reduceLE, Int.reduceNeg, part_nil, part_int, cutOf_tup, isi_def, items_lst, items_tup, items_fz, isAny, eq_self, decide_true, decide_false, not_true_eq_false, not_false_eq_true, ne_eq,  sizeLine_eq, List.length_cons, List.length_nil, Nat.reduceAdd, Nat.reduceLeDiff, Nat.zero_add, at_ints hi', same_int])
  have nt := notin_true ((List.range w.length).map fun (i : Nat) => (i : Int))
  rw [List.map_map] at nt
  have en : ((fun _ => D.bl true) ∘ fun (i : Nat) => (i : Int)) = fun _ => D.bl true := rfl
  rw [en] at nt
  simp -dsimp -implicitDefEqProofs only [exs, exc, ev, islM, evs, tst, tsts, evi, M.ret_def, M.lift_some, SR.end_rt, SR.end_nx, SR.end_ex, get_zero, get_succ, Tg.set_name, Tg.set_tup, setAll, List.set_cons_zero, List.set_cons_succ, Option.map_some, Option.map_none, eq_ints, ne_ints, lt_ints, le_ints, gt_ints, ge_ints, add_ints, sub_ints, truthy_bl, truthy_int, bi_int, bi_abs, bi_max2, bi_min2, bi_len_fz, bi_len_lst, bi_len_tup, bi_repr, ix_lst, ix_tup, ix_fz, at4_0, at4_1, at4_2, at4_3, set4_0, set4_1, set4_2, set4_3, at3_0, at3_1, at3_2, set3_0, set3_1, set3_2, decide_eq_true_eq, ite_true, ite_false, if_true, if_false, Bool.false_eq_true, Bool.not_eq_true', decide_eq_false_iff_not, Bool.not_true, Bool.not_false, List.foldr_cons, List.foldr_nil, Ty.has, Option.bind_some, ↓exc_whl, ↓exc_for, ↓ev_comp, ↓z_ite, ↓z_bind, ↓z_bd, ↓z_sbd, ↓z_sq, ↓z_tn, bdz_ok, bdz_exc, sbdz_ok, sbdz_exc, sqz_nx, sqz_rt, sqz_bk, sqz_ct, sqz_ex, tnz_nx, tnz_rt, tnz_bk, tnz_ct, tnz_ex, kFor_ok, runF_nil, turn_name, wipeE, Int.cast_ofNat_Int, Int.natCast_zero, Int.natCast_one, Int.reduceEq, Int.reduceLT, Int.reduceLE, Int.reduceNeg, part_nil, part_int, cutOf_tup, isi_def, items_lst, items_tup, items_fz, isAny, eq_self, decide_true, decide_false, not_true_eq_false, not_false_eq_true, ne_eq,  sizeLine_eq, List.length_cons, List.length_nil, Nat.reduceAdd, Nat.reduceLeDiff, Nat.zero_add, b13, is_tup_non, ne_bls, beq_self_eq_true, List.length_map, r1, c1, nt]
theorem isn_non (k : Nat) (h : AH) : cal T (k + 1) 0 [.non] h = some (.ok (.bl false) h) := by
  rw [cal_unf (F := T.fns[0]) rfl rfl]
  show SR.end (exs _ _ b0 [some .non] h) = _
  simp -dsimp -implicitDefEqProofs only [exs, exc, ev, islM, evs, tst, tsts, evi, M.ret_def, M.lift_some, SR.end_rt, SR.end_nx, SR.end_ex, get_zero, get_succ, Tg.set_name, Tg.set_tup, setAll, List.set_cons_zero, List.set_cons_succ, Option.map_some, Option.map_none, eq_ints, ne_ints, lt_ints, le_ints, gt_ints, ge_ints, add_ints, sub_ints, truthy_bl, truthy_int, bi_int, bi_abs, bi_max2, bi_min2, bi_len_fz, bi_len_lst, bi_len_tup, bi_repr, ix_lst, ix_tup, ix_fz, at4_0, at4_1, at4_2, at4_3, set4_0, set4_1, set4_2, set4_3, at3_0, at3_1, at3_2, set3_0, set3_1, set3_2, decide_eq_true_eq, ite_true, ite_false, if_true, if_false, Bool.false_eq_true, Bool.not_eq_true', decide_eq_false_iff_not, Bool.not_true, Bool.not_false, List.foldr_cons, List.foldr_nil, Ty.has, Option.bind_some, ↓exc_whl, ↓exc_for, ↓ev_comp, ↓z_ite, ↓z_bind, ↓z_bd, ↓z_sbd, ↓z_sq, ↓z_tn, bdz_ok, bdz_exc, sbdz_ok, sbdz_exc, sqz_nx, sqz_rt, sqz_bk, sqz_ct, sqz_ex, tnz_nx, tnz_rt, tnz_bk, tnz_ct, tnz_ex, kFor_ok, runF_nil, turn_name, wipeE, Int.cast_ofNat_Int, Int.natCast_zero, Int.natCast_one, Int.reduceEq, Int.reduceLT, Int.reduceLE, Int.reduceNeg, part_nil, part_int, cutOf_tup, isi_def, items_lst, items_tup, items_fz, isAny, eq_self, decide_true, decide_false, not_true_eq_false, not_false_eq_true, ne_eq,  sizeLine_eq, List.length_cons, List.length_nil, Nat.reduceAdd, Nat.reduceLeDiff, Nat.zero_add, b0]
theorem isn_bl (k : Nat) (b : Bool) (h : AH) : cal T (k + 1) 0 [.bl b] h = some (.ok (.bl false) h) := by
  rw [cal_unf (F := T.fns[0]) rfl rfl]
  show SR.end (exs _ _ b0 [some (.bl b)] h) = _
  simp -dsimp -implicitDefEqProofs only [exs, exc, ev, islM, evs, tst, tsts, evi, M.ret_def, M.lift_some, SR.end_rt, SR.end_nx, SR.end_ex, get_zero, get_succ, Tg.set_name, Tg.set_tup, setAll, List.set_cons_zero, List.set_cons_succ, Option.map_some, Option.map_none, eq_ints, ne_ints, lt_ints, le_ints, gt_ints, ge_ints, add_ints, sub_ints, truthy_bl, truthy_int, bi_int, bi_abs, bi_max2, bi_min2, bi_len_fz, bi_len_lst, bi_len_tup, bi_repr, ix_lst, ix_tup, ix_fz, at4_0, at4_1, at4_2, at4_3, set4_0, set4_1, set4_2, set4_3, at3_0, at3_1, at3_2, set3_0, set3_1, set3_2, decide_eq_true_eq, ite_true, ite_false, if_true, if_false, Bool.false_eq_true, Bool.not_eq_true', decide_eq_false_iff_not, Bool.not_true, Bool.not_false, List.foldr_cons, List.foldr_nil, Ty.has, Option.bind_some, ↓exc_whl, ↓exc_for, ↓ev_comp, ↓z_ite, ↓z_bind, ↓z_bd, ↓z_sbd, ↓z_sq, ↓z_tn, bdz_ok, bdz_exc, sbdz_ok, sbdz_exc, sqz_nx, sqz_rt, sqz_bk, sqz_ct, sqz_ex, tnz_nx, tnz_rt, tnz_bk, tnz_ct, tnz_ex, kFor_ok, runF_nil, turn_name, wipeE, Int.cast_ofNat_Int, Int.natCast_zero, Int.natCast_one, Int.reduceEq, Int.reduceLT, Int.reduceLE, Int.reduceNeg, part_nil, part_int, cutOf_tup, isi_def, items_lst, items_tup, items_fz, isAny, eq_self, decide_true, decide_false, not_true_eq_false, not_false_eq_true, ne_eq,  sizeLine_eq, List.length_cons, List.length_nil, Nat.reduceAdd, Nat.reduceLeDiff, Nat.zero_add, b0]
theorem isn_str (k : Nat) (b : Str) (h : AH) : cal T (k + 1) 0 [.str b] h = some (.ok (.bl false) h) := by
  rw [cal_unf (F := T.fns[0]) rfl rfl]
  show SR.end (exs _ _ b0 [some (.str b)] h) = _
  simp -dsimp -implicitDefEqProofs only [exs, exc, ev, islM, evs, tst, tsts, evi, M.ret_def, M.lift_some, SR.end_rt, SR.end_nx, SR.end_ex, get_zero, get_succ, Tg.set_name, Tg.set_tup, setAll, List.set_cons_zero, List.set_cons_succ, Option.map_some, Option.map_none, eq_ints, ne_ints, lt_ints, le_ints, gt_ints, ge_ints, add_ints, sub_ints, truthy_bl, truthy_int, bi_int, bi_abs, bi_max2, bi_min2, bi_len_fz, bi_len_lst, bi_len_tup, bi_repr, ix_lst, ix_tup, ix_fz, at4_0, at4_1, at4_2, at4_3, set4_0, set4_1, set4_2, set4_3, at3_0, at3_1, at3_2, set3_0, set3_1, set3_2, decide_eq_true_eq, ite_true, ite_false, if_true, if_false, Bool.false_eq_true, Bool.not_eq_true', decide_eq_false_iff_not, Bool.not_true, Bool.not_false, List.foldr_cons, List.foldr_nil, Ty.has, Option.bind_some, ↓exc_whl, ↓exc_for, ↓ev_comp, ↓z_ite, ↓z_bind, ↓z_bd, ↓z_sbd, ↓z_sq, ↓z_tn, bdz_ok, bdz_exc, sbdz_ok, sbdz_exc, sqz_nx, sqz_rt, sqz_bk, sqz_ct, sqz_ex, tnz_nx, tnz_rt, tnz_bk, tnz_ct, tnz_ex, kFor_ok, runF_nil, turn_name, wipeE, Int.cast_ofNat_Int, Int.natCast_zero, Int.natCast_one, Int.reduceEq, Int.reduceLT, Int.reduceLE, Int.reduceNeg, part_nil, part_int, cutOf_tup, isi_def, items_lst, items_tup, items_fz, isAny, eq_self, decide_true, decide_false, not_true_eq_false, not_false_eq_true, ne_eq,  sizeLine_eq, List.length_cons, List.length_nil, Nat.reduceAdd, Nat.reduceLeDiff, Nat.zero_add, b0]
/-- a value that is one, or none, by its look -/
def isW : D → Bool
  | .int _ => true
  | _ => false
def plainD : D → Prop
  | .int _ => True
  | .non => True
  | .bl _ => True
  | .str _ => True
  | _ => False
theorem isn_any (k : Nat) (d : D) (hd : plainD d) (h : AH) : cal T (k + 1) 0 [d] h = some (.ok (.bl (isW d)) h) := by
  cases d with
  | int i => exact iswh k i h
  | non => exact isn_non k h
  | bl b => exact isn_bl k b h
  | str s => exact isn_str k s h
  | _ => exact absurd hd (by simp [plainD])
theorem truths_bl {α : Type} (f : α → Bool) (L : List α) : truths? (L.map fun d => D.bl (f d)) = some (L.map f) := by
  induction L with
  | nil => rfl
  | cons a L ih => simp only [List.map_cons, truths?, ih, Option.map_some]
theorem ispt_bad (k : Nat) (ds : List D) (hp : ∀ d ∈ ds, plainD d) (hw : ∃ d ∈ ds, isW d = false) (hl : ds.length ≤ 100) (h : AH) : cal T (k + 2) 1 [.int ds.length, .tup ds] h = some (.ok (.bl false) h) := by
  rw [cal_unf (F := T.fns[1]) rfl rfl]
  show SR.end (exs _ _ b1 [some (.int ds.length), some (.tup ds), none] h) = _
  have c1 := comp_run (C := cal T (k + 1)) (elt := ME.call 0 (MEs.cons (ME.var 2) (MEs.nil))) (t := .name 2) (cs := .nil) (own := [2]) (ρ := [some (.int ds.length), some (.tup ds), none]) (xs := ds) (h := h) (small_le (m := 100) hl (by decide)) (lc_pure (f := fun d => .bl (isW d)) fun y hy => by
    refine step_nil (ρ' := [some (.int ds.length), some (.tup ds), some y]) rfl ?_
    simp -dsimp -implicitDefEqProofs only [exs, exc, ev, islM, evs, tst, tsts, evi, M.ret_def, M.lift_some, SR.end_rt, SR.end_nx, SR.end_ex, get_zero, get_succ, Tg.set_name, Tg.set_tup, setAll, List.set_cons_zero, List.set_cons_succ, Option.map_some, Option.map_none, eq_ints, ne_ints, lt_ints, le_ints, gt_ints, ge_ints, add_ints, sub_ints, truthy_bl, truthy_int, bi_int, bi_abs, bi_max2, bi_min2, bi_len_fz, bi_len_lst, bi_len_tup, bi_repr, ix_lst, ix_tup, ix_fz, at4_0, at4_1, at4_2, at4_3, set4_0, set4_1, set4_2, set4_3, at3_0, at3_1, at3_2, set3_0, set3_1, set3_2, decide_eq_true_eq, ite_true, ite_false, if_true, if_false, Bool.false_eq_true, Bool.not_eq_true', decide_eq_false_iff_not, Bool.not_true, Bool.not_false, List.foldr_cons, List.foldr_nil, Ty.has, Option.bind_some, ↓exc_whl, ↓exc_for, ↓ev_comp, ↓z_ite, ↓z_bind, ↓z_bd, ↓z_sbd, ↓z_sq, ↓z_tn, bdz_ok, bdz_exc, sbdz_ok, sbdz_exc, sqz_nx, sqz_rt, sqz_bk, sqz_ct, sqz_ex, tnz_nx, tnz_rt, tnz_bk, tnz_ct, tnz_ex, kFor_ok, runF_nil, turn_name, wipeE, Int.cast_ofNat_Int, Int.natCast_zero, Int.natCast_one, Int.reduceEq, Int.reduceLT, Int.reduceLE, Int.reduceNeg, part_nil, part_int, cutOf_tup, isi_def, items_lst, items_tup, items_fz, isAny, eq_self, decide_true, decide_false, not_true_eq_false, not_false_eq_true, ne_eq,  sizeLine_eq, List.length_cons, List.length_nil, Nat.reduceAdd, Nat.reduceLeDiff, Nat.zero_add, isn_any k y (hp y hy)])
  have a : (ds.map isW).all id = false := by
    obtain ⟨d, hd, hd2⟩ := hw
    rw [List.all_eq_false]
    exact ⟨isW d, List.mem_map.mpr ⟨d, hd, rfl⟩, by simp [hd2]⟩
  simp -dsimp -implicitDefEqProofs only [exs, exc, ev, islM, evs, tst, tsts, evi, M.ret_def, M.lift_some, SR.end_rt, SR.end_nx, SR.end_ex, get_zero, get_succ, Tg.set_name, Tg.set_tup, setAll, List.set_cons_zero, List.set_cons_succ, Option.map_some, Option.map_none, eq_ints, ne_ints, lt_ints, le_ints, gt_ints, ge_ints, add_ints, sub_ints, truthy_bl, truthy_int, bi_int, bi_abs, bi_max2, bi_min2, bi_len_fz, bi_len_lst, bi_len_tup, bi_repr, ix_lst, ix_tup, ix_fz, at4_0, at4_1, at4_2, at4_3, set4_0, set4_1, set4_2, set4_3, at3_0, at3_1, at3_2, set3_0, set3_1, set3_2, decide_eq_true_eq, ite_true, ite_false, if_true, if_false, Bool.false_eq_true, Bool.not_eq_true', decide_eq_false_iff_not, Bool.not_true, Bool.not_false, List.foldr_cons, List.foldr_nil, Ty.has, Option.bind_some, ↓exc_whl, ↓exc_for, ↓ev_comp, ↓z_ite, ↓z_bind, ↓z_bd, ↓z_sbd, ↓z_sq, ↓z_tn, bdz_ok, bdz_exc, sbdz_ok, sbdz_exc, sqz_nx, sqz_rt, sqz_bk, sqz_ct, sqz_ex, tnz_nx, tnz_rt, tnz_bk, tnz_ct, tnz_ex, kFor_ok, runF_nil, turn_name, wipeE, Int.cast_ofNat_Int, Int.natCast_zero, Int.natCast_one, Int.reduceEq, Int.reduceLT, Int.reduceLE, Int.reduceNeg, part_nil, part_int, cutOf_tup, isi_def, items_lst, items_tup, items_fz, isAny, eq_self, decide_true, decide_false, not_true_eq_false, not_false_eq_true, ne_eq,  sizeLine_eq, List.length_cons, List.length_nil, Nat.reduceAdd, Nat.reduceLeDiff, Nat.zero_add, b1, isi_tup, c1, bi_all (truths_bl isW ds), a]
theorem wrd_len (pt : List Int) (m : Nat) : (wrd pt m).length = m := by simp [wrd]
theorem shps_ints (n : Nat) (ns : List Int) : D.shps n (ns.map D.int) = true := by
  induction ns with
  | nil => simp [D.shps]
  | cons a ns ih => simp [D.shps, D.shp, ih]
theorem eqvs_self (ns : List Int) : D.eqvs (ns.map D.int) (ns.map D.int) = true := by
  induction ns with
  | nil => simp [D.eqvs]
  | cons a ns ih => simp [D.eqvs, D.eqv, ih]
theorem ne_self (ns : List Int) : D.cop .ne (.tup (ns.map D.int)) (.tup (ns.map D.int)) = some false := by
  show (D.eq? _ _).map _ = _
  unfold D.eq?
  have s : D.shp 64 (.tup (ns.map D.int)) = true := by simp only [D.shp]; exact shps_ints _ ns
  rw [s, if_pos (by simp)]
  simp only [D.eqv, eqvs_self]
  rfl
end Mk

set_option Elab.async false
set_option linter.all false
set_option maxRecDepth 100000
set_option maxHeartbeats 4000000
namespace Mk
open PySem Mi
def okE (N : Int) : D → Bool
  | .int i => decide (0 ≤ i) && decide (i < N)
  | _ => false
def okP (L : Nat) (N : Int) (ds : List D) : Bool := decide (ds.length = L) && ds.all (okE N)
def sbody : MSs := match b5 with
  | .cons _ (.cons (.for _ _ b) _) => b
  | _ => .nil
theorem sturn (k : Nat) {G : List XC} (a0 a2 x3 x4 x5 : Option D) (L : Nat) (N : Int) (ds : List D) (hp : ∀ d ∈ ds, plainD d) (hl : ds.length ≤ 1000) (h : AH) :
    turn (cal T (k + 1)) G (.tup [3, 4]) sbody (.tup [.tup ds, .int N]) [a0, some (.int L), a2, x3, x4, x5] h = some (if okP L N ds = true then .nx [a0, some (.int L), a2, some (.tup ds), some (.int N), x5] h else .rt (.bl false) h) := by
  rw [turn_tup (ρ2 := [a0, some (.int L), a2, some (.tup ds), some (.int N), x5]) rfl]
  have c1 := comp_run (C := cal T (k + 1)) (elt := ME.and (ME.call 0 (MEs.cons (ME.var 5) MEs.nil)) (ME.chn COp.le COp.lt (ME.lit (D.int 0)) (ME.var 5) (ME.var 4))) (t := .name 5) (cs := .nil) (own := [5]) (ρ := [a0, some (.int L), a2, some (.tup ds), some (.int N), x5]) (xs := ds) (h := h) (small_le (m := 1000) hl (by decide)) (lc_pure (f := fun d => .bl (okE N d)) fun y hy => by
    refine step_nil (ρ' := [a0, some (.int L), a2, some (.tup ds), some (.int N), some y]) rfl ?_
    have pl := hp y hy
    cases y with
    | int i =>
      by_cases c1 : 0 ≤ i
      · simp -dsimp -implicitDefEqProofs only [exs, exc, ev, islM, evs, tst, tsts, evi, M.ret_def, M.lift_some, SR.end_rt, SR.end_nx, SR.end_ex, get_zero, get_succ, Tg.set_name, Tg.set_tup, setAll, List.set_cons_zero, List.set_cons_succ, Option.map_some, Option.map_none, eq_ints, ne_ints, lt_ints, le_ints, gt_ints, ge_ints, add_ints, sub_ints, truthy_bl, truthy_int, bi_int, bi_abs, bi_max2, bi_min2, bi_len_fz, bi_len_lst, bi_len_tup, bi_repr, ix_lst, ix_tup, ix_fz, at4_0, at4_1, at4_2, at4_3, set4_0, set4_1, set4_2, set4_3, at3_0, at3_1, at3_2, set3_0, set3_1, set3_2, decide_eq_true_eq, ite_true, ite_false, if_true, if_false, Bool.false_eq_true, Bool.not_eq_true', decide_eq_false_iff_not, Bool.not_true, Bool.not_false, List.foldr_cons, List.foldr_nil, Ty.has, Option.bind_some, ↓exc_whl, ↓exc_for, ↓ev_comp, ↓z_ite, ↓z_bind, ↓z_bd, ↓z_sbd, ↓z_sq, ↓z_tn, bdz_ok, bdz_exc, sbdz_ok, sbdz_exc, sqz_nx, sqz_rt, sqz_bk, sqz_ct, sqz_ex, tnz_nx, tnz_rt, tnz_bk, tnz_ct, tnz_ex, kFor_ok, runF_nil, turn_name, wipeE, Int.cast_ofNat_Int, Int.natCast_zero, Int.natCast_one, Int.reduceEq, Int.reduceLT, Int.reduceLE, Int.reduceNeg, part_nil, part_int, cutOf_tup, isi_def, items_lst, items_tup, items_fz, isAny, eq_self, decide_true, decide_false, not_true_eq_false, not_false_eq_true, ne_eq,  sizeLine_eq, List.length_cons, List.length_nil, Nat.reduceAdd, Nat.reduceLeDiff, Nat.zero_add, iswh, eq_true c1, okE, Bool.true_and]
      · simp -dsimp -implicitDefEqProofs only [exs, exc, ev, islM, evs, tst, tsts, evi, M.ret_def, M.lift_some, SR.end_rt, SR.end_nx, SR.end_ex, get_zero, get_succ, Tg.set_name, Tg.set_tup, setAll, List.set_cons_zero, List.set_cons_succ, Option.map_some, Option.map_none, eq_ints, ne_ints, lt_ints, le_ints, gt_ints, ge_ints, add_ints, sub_ints, truthy_bl, truthy_int, bi_int, bi_abs, bi_max2, bi_min2, bi_len_fz, bi_len_lst, bi_len_tup, bi_repr, ix_lst, ix_tup, ix_fz, at4_0, at4_1, at4_2, at4_3, set4_0, set4_1, set4_2, set4_3, at3_0, at3_1, at3_2, set3_0, set3_1, set3_2, decide_eq_true_eq, ite_true, ite_false, if_true, if_false, Bool.false_eq_true, Bool.not_eq_true', decide_eq_false_iff_not, Bool.not_true, Bool.not_false, List.foldr_cons, List.foldr_nil, Ty.has, Option.bind_some, ↓exc_whl, ↓exc_for, ↓ev_comp, ↓z_ite, ↓z_bind, ↓z_bd, ↓z_sbd, ↓z_sq, ↓z_tn, bdz_ok, bdz_exc, sbdz_ok, sbdz_exc, sqz_nx, sqz_rt, sqz_bk, sqz_ct, sqz_ex, tnz_nx, tnz_rt, tnz_bk, tnz_ct, tnz_ex, kFor_ok, runF_nil, turn_name, wipeE, Int.cast_ofNat_Int, Int.natCast_zero, Int.natCast_one, Int.reduceEq, Int.reduceLT, Int.reduceLE, Int.reduceNeg, part_nil, part_int, cutOf_tup, isi_def, items_lst, items_tup, items_fz, isAny, eq_self, decide_true, decide_false, not_true_eq_false, not_false_eq_true, ne_eq,  sizeLine_eq, List.length_cons, List.length_nil, Nat.reduceAdd, Nat.reduceLeDiff, Nat.zero_add, iswh, eq_false c1, okE, Bool.false_and]
    | non => simp -dsimp -implicitDefEqProofs only [exs, exc, ev, islM, evs, tst, tsts, evi, M.ret_def, M.lift_some, SR.end_rt, SR.end_nx, SR.end_ex, get_zero, get_succ, Tg.set_name, Tg.set_tup, setAll, List.set_cons_zero, List.set_cons_succ, Option.map_some, Option.map_none, eq_ints, ne_ints, lt_ints, le_ints, gt_ints, ge_ints, add_ints, sub_ints, truthy_bl, truthy_int, bi_int, bi_abs, bi_max2, bi_min2, bi_len_fz, bi_len_lst, bi_len_tup, bi_repr, ix_lst, ix_tup, ix_fz, at4_0, at4_1, at4_2, at4_3, set4_0, set4_1, set4_2, set4_3, at3_0, at3_1, at3_2, set3_0, set3_1, set3_2, decide_eq_true_eq, ite_true, ite_false, if_true, if_false, Bool.false_eq_true, Bool.not_eq_true', decide_eq_false_iff_not, Bool.not_true, Bool.not_false, List.foldr_cons, List.foldr_nil, Ty.has, Option.bind_some, ↓exc_whl, ↓exc_for, ↓ev_comp, ↓z_ite, ↓z_bind, ↓z_bd, ↓z_sbd, ↓z_sq, ↓z_tn, bdz_ok, bdz_exc, sbdz_ok, sbdz_exc, sqz_nx, sqz_rt, sqz_bk, sqz_ct, sqz_ex, tnz_nx, tnz_rt, tnz_bk, tnz_ct, tnz_ex, kFor_ok, runF_nil, turn_name, wipeE, Int.cast_ofNat_Int, Int.natCast_zero, Int.natCast_one, Int.reduceEq, Int.reduceLT, Int.reduceLE, Int.reduceNeg, part_nil, part_int, cutOf_tup, isi_def, items_lst, items_tup, items_fz, isAny, eq_self, decide_true, decide_false, not_true_eq_false, not_false_eq_true, ne_eq,  sizeLine_eq, List.length_cons, List.length_nil, Nat.reduceAdd, Nat.reduceLeDiff, Nat.zero_add, isn_non, okE]
    | bl b => simp -dsimp -implicitDefEqProofs only [exs, exc, ev, islM, evs, tst, tsts, evi, M.ret_def, M.lift_some, SR.end_rt, SR.end_nx, SR.end_ex, get_zero, get_succ, Tg.set_name, Tg.set_tup, setAll, List.set_cons_zero, List.set_cons_succ, Option.map_some, Option.map_none, eq_ints, ne_ints, lt_ints, le_ints, gt_ints, ge_ints, add_ints, sub_ints, truthy_bl, truthy_int, bi_int, bi_abs, bi_max2, bi_min2, bi_len_fz, bi_len_lst, bi_len_tup, bi_repr, ix_lst, ix_tup, ix_fz, at4_0, at4_1, at4_2, at4_3, set4_0, set4_1, set4_2, set4_3, at3_0, at3_1, at3_2, set3_0, set3_1, set3_2, decide_eq_true_eq, ite_true, ite_false, if_true, if_false, Bool.false_eq_true, Bool.not_eq_true', decide_eq_false_iff_not, Bool.not_true, Bool.not_false, List.foldr_cons, List.foldr_nil, Ty.has, Option.bind_some, ↓exc_whl, ↓exc_for, ↓ev_comp, ↓z_ite, ↓z_bind, ↓z_bd, ↓z_sbd, ↓z_sq, ↓z_tn, bdz_ok, bdz_exc, sbdz_ok, sbdz_exc, sqz_nx, sqz_rt, sqz_bk, sqz_ct, sqz_ex, tnz_nx, tnz_rt, tnz_bk, tnz_ct, tnz_ex, kFor_ok, runF_nil, turn_name, wipeE, Int.cast_ofNat_Int, Int.natCast_zero, Int.natCast_one, Int.reduceEq, Int.reduceLT, Int.reduceLE, Int.reduceNeg, part_nil, part_int, cutOf_tup, isi_def, items_lst, items_tup, items_fz, isAny, eq_self, decide_true, decide_false, not_true_eq_false, not_false_eq_true, ne_eq,  sizeLine_eq, List.length_cons, List.length_nil, Nat.reduceAdd, Nat.reduceLeDiff, Nat.zero_add, isn_bl, okE]
    | str s => simp -dsimp -implicitDefEqProofs only [exs, exc, ev, islM, evs, tst, tsts, evi, M.ret_def, M.lift_some, SR.end_rt, SR.end_nx, SR.end_ex, get_zero, get_succ, Tg.set_name, Tg.set_tup, setAll, List.set_cons_zero, List.set_cons_succ, Option.map_some, Option.map_none, eq_ints, ne_ints, lt_ints, le_ints, gt_ints, ge_ints, add_ints, sub_ints, truthy_bl, truthy_int, bi_int, bi_abs, bi_max2, bi_min2, bi_len_fz, bi_len_lst, bi_len_tup, bi_repr, ix_lst, ix_tup, ix_fz, at4_0, at4_1, at4_2, at4_3, set4_0, set4_1, set4_2, set4_3, at3_0, at3_1, at3_2, set3_0, set3_1, set3_2, decide_eq_true_eq, ite_true, ite_false, if_true, if_false, Bool.false_eq_true, Bool.not_eq_true', decide_eq_false_iff_not, Bool.not_true, Bool.not_false, List.foldr_cons, List.foldr_nil, Ty.has, Option.bind_some, ↓exc_whl, ↓exc_for, ↓ev_comp, ↓z_ite, ↓z_bind, ↓z_bd, ↓z_sbd, ↓z_sq, ↓z_tn, bdz_ok, bdz_exc, sbdz_ok, sbdz_exc, sqz_nx, sqz_rt, sqz_bk, sqz_ct, sqz_ex, tnz_nx, tnz_rt, tnz_bk, tnz_ct, tnz_ex, kFor_ok, runF_nil, turn_name, wipeE, Int.cast_ofNat_Int, Int.natCast_zero, Int.natCast_one, Int.reduceEq, Int.reduceLT, Int.reduceLE, Int.reduceNeg, part_nil, part_int, cutOf_tup, isi_def, items_lst, items_tup, items_fz, isAny, eq_self, decide_true, decide_false, not_true_eq_false, not_false_eq_true, ne_eq,  sizeLine_eq, List.length_cons, List.length_nil, Nat.reduceAdd, Nat.reduceLeDiff, Nat.zero_add, isn_str, okE]
    | _ => exact absurd pl (by simp [plainD]))
  by_cases g1 : ds.length = L
  · have g1' : ((ds.length : Nat) : Int) = (L : Int) := by omega
    have e : (ds.map (okE N)).all id = ds.all (okE N) := by rw [List.all_map]; rfl
    unfold okP
    rw [decide_eq_true g1, Bool.true_and]
    cases q : ds.all (okE N) with
    | true => rw [q] at e; simp -dsimp -implicitDefEqProofs only [exs, exc, ev, islM, evs, tst, tsts, evi, M.ret_def, M.lift_some, SR.end_rt, SR.end_nx, SR.end_ex, get_zero, get_succ, Tg.set_name, Tg.set_tup, setAll, List.set_cons_zero, List.set_cons_succ, Option.map_some, Option.map_none, eq_ints, ne_ints, lt_ints, le_ints, gt_ints, ge_ints, add_ints, sub_ints, truthy_bl, truthy_int, bi_int, bi_abs, bi_max2, bi_min2, bi_len_fz, bi_len_lst, bi_len_tup, bi_repr, ix_lst, ix_tup, ix_fz, at4_0, at4_1, at4_2, at4_3, set4_0, set4_1, set4_2, set4_3, at3_0, at3_1, at3_2, set3_0, set3_1, set3_2, decide_eq_true_eq, ite_true, ite_false, if_true, if_false, Bool.false_eq_true, Bool.not_eq_true', decide_eq_false_iff_not, Bool.not_true, Bool.not_false, List.foldr_cons, List.foldr_nil, Ty.has, Option.bind_some, ↓exc_whl, ↓exc_for, ↓ev_comp, ↓z_ite, ↓z_bind, ↓z_bd, ↓z_sbd, ↓z_sq, ↓z_tn, bdz_ok, bdz_exc, sbdz_ok, sbdz_exc, sqz_nx, sqz_rt, sqz_bk, sqz_ct, sqz_ex, tnz_nx, tnz_rt, tnz_bk, tnz_ct, tnz_ex, kFor_ok, runF_nil, turn_name, wipeE, Int.cast_ofNat_Int, Int.natCast_zero, Int.natCast_one, Int.reduceEq, Int.reduceLT, Int.reduceLE, Int.reduceNeg, part_nil, part_int, cutOf_tup, isi_def, items_lst, items_tup, items_fz, isAny, eq_self, decide_true, decide_false, not_true_eq_false, not_false_eq_true, ne_eq,  sizeLine_eq, List.length_cons, List.length_nil, Nat.reduceAdd, Nat.reduceLeDiff, Nat.zero_add, sbody, b5, eq_true g1', c1, bi_all (truths_bl (okE N) ds), e]
    | false => rw [q] at e; simp -dsimp -implicitDefEqProofs only [exs, exc, ev, islM, evs, tst, tsts, evi, M.ret_def, M.lift_some, SR.end_rt, SR.end_nx, SR.end_ex, get_zero, get_succ, Tg.set_name, Tg.set_tup, setAll, List.set_cons_zero, List.set_cons_succ, Option.map_some, Option.map_none, eq_ints, ne_ints, lt_ints, le_ints, gt_ints, ge_ints, add_ints, sub_ints, truthy_bl, truthy_int, bi_int, bi_abs, bi_max2, bi_min2, bi_len_fz, bi_len_lst, bi_len_tup, bi_repr, ix_lst, ix_tup, ix_fz, at4_0, at4_1, at4_2, at4_3, set4_0, set4_1, set4_2, set4_3, at3_0, at3_1, at3_2, set3_0, set3_1, set3_2, decide_eq_true_eq, ite_true, ite_false, if_true, if_false, Bool.false_eq_true, Bool.not_eq_true', decide_eq_false_iff_not, Bool.not_true, Bool.not_false, List.foldr_cons, List.foldr_nil, Ty.has, Option.bind_some, ↓exc_whl, ↓exc_for, ↓ev_comp, ↓z_ite, ↓z_bind, ↓z_bd, ↓z_sbd, ↓z_sq, ↓z_tn, bdz_ok, bdz_exc, sbdz_ok, sbdz_exc, sqz_nx, sqz_rt, sqz_bk, sqz_ct, sqz_ex, tnz_nx, tnz_rt, tnz_bk, tnz_ct, tnz_ex, kFor_ok, runF_nil, turn_name, wipeE, Int.cast_ofNat_Int, Int.natCast_zero, Int.natCast_one, Int.reduceEq, Int.reduceLT, Int.reduceLE, Int.reduceNeg, part_nil, part_int, cutOf_tup, isi_def, items_lst, items_tup, items_fz, isAny, eq_self, decide_true, decide_false, not_true_eq_false, not_false_eq_true, ne_eq,  sizeLine_eq, List.length_cons, List.length_nil, Nat.reduceAdd, Nat.reduceLeDiff, Nat.zero_add, sbody, b5, eq_true g1', c1, bi_all (truths_bl (okE N) ds), e]
  · have g1' : ¬ ((ds.length : Nat) : Int) = (L : Int) := by omega
    unfold okP
    rw [decide_eq_false g1, Bool.false_and]
    simp -dsimp -implicitDefEqProofs only [exs, exc, ev, islM, evs, tst, tsts, evi, M.ret_def, M.lift_some, SR.end_rt, SR.end_nx, SR.end_ex, get_zero, get_succ, Tg.set_name, Tg.set_tup, setAll, List.set_cons_zero, List.set_cons_succ, Option.map_some, Option.map_none, eq_ints, ne_ints, lt_ints, le_ints, gt_ints, ge_ints, add_ints, sub_ints, truthy_bl, truthy_int, bi_int, bi_abs, bi_max2, bi_min2, bi_len_fz, bi_len_lst, bi_len_tup, bi_repr, ix_lst, ix_tup, ix_fz, at4_0, at4_1, at4_2, at4_3, set4_0, set4_1, set4_2, set4_3, at3_0, at3_1, at3_2, set3_0, set3_1, set3_2, decide_eq_true_eq, ite_true, ite_false, if_true, if_false, Bool.false_eq_true, Bool.not_eq_true', decide_eq_false_iff_not, Bool.not_true, Bool.not_false, List.foldr_cons, List.foldr_nil, Ty.has, Option.bind_some, ↓exc_whl, ↓exc_for, ↓ev_comp, ↓z_ite, ↓z_bind, ↓z_bd, ↓z_sbd, ↓z_sq, ↓z_tn, bdz_ok, bdz_exc, sbdz_ok, sbdz_exc, sqz_nx, sqz_rt, sqz_bk, sqz_ct, sqz_ex, tnz_nx, tnz_rt, tnz_bk, tnz_ct, tnz_ex, kFor_ok, runF_nil, turn_name, wipeE, Int.cast_ofNat_Int, Int.natCast_zero, Int.natCast_one, Int.reduceEq, Int.reduceLT, Int.reduceLE, Int.reduceNeg, part_nil, part_int, cutOf_tup, isi_def, items_lst, items_tup, items_fz, isAny, eq_self, decide_true, decide_false, not_true_eq_false, not_false_eq_true, ne_eq,  sizeLine_eq, List.length_cons, List.length_nil, Nat.reduceAdd, Nat.reduceLeDiff, Nat.zero_add, sbody, b5, eq_false g1']
def stD (p : List D × List D) : D := .tup [.tup p.1, .tup p.2]
theorem isstate (k : Nat) (L : Nat) (N : Int) (p : List D × List D) (hp : (∀ d ∈ p.1, plainD d) ∧ ∀ d ∈ p.2, plainD d) (hl : p.1.length ≤ 1000 ∧ p.2.length ≤ 1000) (h : AH) :
    cal T (k + 2) 5 [stD p, .int L, .int N] h = some (.ok (.bl (okP L N p.1 && okP L 2 p.2)) h) := by
  rw [cal_unf (F := T.fns[5]) rfl rfl]
  show SR.end (exs _ _ b5 [some (.tup [.tup p.1, .tup p.2]), some (.int L), some (.int N), none, none, none] h) = _
  have t1 := sturn k (G := T.xcs) (some (.tup [.tup p.1, .tup p.2])) (some (.int N)) none none none L N p.1 hp.1 hl.1 h
  have t2 := sturn k (G := T.xcs) (some (.tup [.tup p.1, .tup p.2])) (some (.int N)) (some (.tup p.1)) (some (.int N)) none L 2 p.2 hp.2 hl.2 h
  simp only [sbody, b5] at t1 t2
  cases q1 : okP L N p.1 with
  | false =>
    rw [q1] at t1
    simp only [Bool.false_eq_true, if_false] at t1
    simp -dsimp -implicitDefEqProofs only [exs, exc, ev, islM, evs, tst, tsts, evi, M.ret_def, M.lift_some, SR.end_rt, SR.end_nx, SR.end_ex, get_zero, get_succ, Tg.set_name, Tg.set_tup, setAll, List.set_cons_zero, List.set_cons_succ, Option.map_some, Option.map_none, eq_ints, ne_ints, lt_ints, le_ints, gt_ints, ge_ints, add_ints, sub_ints, truthy_bl, truthy_int, bi_int, bi_abs, bi_max2, bi_min2, bi_len_fz, bi_len_lst, bi_len_tup, bi_repr, ix_lst, ix_tup, ix_fz, at4_0, at4_1, at4_2, at4_3, set4_0, set4_1, set4_2, set4_3, at3_0, at3_1, at3_2, set3_0, set3_1, set3_2, decide_eq_true_eq, ite_true, ite_false, if_true, if_false, Bool.false_eq_true, Bool.not_eq_true', decide_eq_false_iff_not, Bool.not_true, Bool.not_false, List.foldr_cons, List.foldr_nil, Ty.has, Option.bind_some, ↓exc_whl, ↓exc_for, ↓ev_comp, ↓z_ite, ↓z_bind, ↓z_bd, ↓z_sbd, ↓z_sq, ↓z_tn, bdz_ok, bdz_exc, sbdz_ok, sbdz_exc, sqz_nx, sqz_rt, sqz_bk, sqz_ct, sqz_ex, tnz_nx, tnz_rt, tnz_bk, tnz_ct, tnz_ex, kFor_ok, runF_nil, turn_name, wipeE, Int.cast_ofNat_Int, Int.natCast_zero, Int.natCast_one, Int.reduceEq, Int.reduceLT, Int.reduceLE, Int.reduceNeg, part_nil, part_int, cutOf_tup, isi_def, items_lst, items_tup, items_fz, isAny, eq_self, decide_true, decide_false, not_true_eq_false, not_false_eq_true, ne_eq,  sizeLine_eq, List.length_cons, List.length_nil, Nat.reduceAdd, Nat.reduceLeDiff, Nat.zero_add, b5, at2_0, at2_1, runF_cons, t1, Bool.false_and]
  | true =>
    rw [q1] at t1
    simp only [if_true] at t1
    cases q2 : okP L 2 p.2 with
    | false =>
      rw [q2] at t2
      simp only [Bool.false_eq_true, if_false] at t2
      simp -dsimp -implicitDefEqProofs only [exs, exc, ev, islM, evs, tst, tsts, evi, M.ret_def, M.lift_some, SR.end_rt, SR.end_nx, SR.end_ex, get_zero, get_succ, Tg.set_name, Tg.set_tup, setAll, List.set_cons_zero, List.set_cons_succ, Option.map_some, Option.map_none, eq_ints, ne_ints, lt_ints, le_ints, gt_ints, ge_ints, add_ints, sub_ints, truthy_bl, truthy_int, bi_int, bi_abs, bi_max2, bi_min2, bi_len_fz, bi_len_lst, bi_len_tup, bi_repr, ix_lst, ix_tup, ix_fz, at4_0, at4_1, at4_2, at4_3, set4_0, set4_1, set4_2, set4_3, at3_0, at3_1, at3_2, set3_0, set3_1, set3_2, decide_eq_true_eq, ite_true, ite_false, if_true, if_false, Bool.false_eq_true, Bool.not_eq_true', decide_eq_false_iff_not, Bool.not_true, Bool.not_false, List.foldr_cons, List.foldr_nil, Ty.has, Option.bind_some, ↓exc_whl, ↓exc_for, ↓ev_comp, ↓z_ite, ↓z_bind, ↓z_bd, ↓z_sbd, ↓z_sq, ↓z_tn, bdz_ok, bdz_exc, sbdz_ok, sbdz_exc, sqz_nx, sqz_rt, sqz_bk, sqz_ct, sqz_ex, tnz_nx, tnz_rt, tnz_bk, tnz_ct, tnz_ex, kFor_ok, runF_nil, turn_name, wipeE, Int.cast_ofNat_Int, Int.natCast_zero, Int.natCast_one, Int.reduceEq, Int.reduceLT, Int.reduceLE, Int.reduceNeg, part_nil, part_int, cutOf_tup, isi_def, items_lst, items_tup, items_fz, isAny, eq_self, decide_true, decide_false, not_true_eq_false, not_false_eq_true, ne_eq,  sizeLine_eq, List.length_cons, List.length_nil, Nat.reduceAdd, Nat.reduceLeDiff, Nat.zero_add, b5, at2_0, at2_1, runF_cons, t1, t2, Bool.and_false]
    | true =>
      rw [q2] at t2
      simp only [if_true] at t2
      simp -dsimp -implicitDefEqProofs only [exs, exc, ev, islM, evs, tst, tsts, evi, M.ret_def, M.lift_some, SR.end_rt, SR.end_nx, SR.end_ex, get_zero, get_succ, Tg.set_name, Tg.set_tup, setAll, List.set_cons_zero, List.set_cons_succ, Option.map_some, Option.map_none, eq_ints, ne_ints, lt_ints, le_ints, gt_ints, ge_ints, add_ints, sub_ints, truthy_bl, truthy_int, bi_int, bi_abs, bi_max2, bi_min2, bi_len_fz, bi_len_lst, bi_len_tup, bi_repr, ix_lst, ix_tup, ix_fz, at4_0, at4_1, at4_2, at4_3, set4_0, set4_1, set4_2, set4_3, at3_0, at3_1, at3_2, set3_0, set3_1, set3_2, decide_eq_true_eq, ite_true, ite_false, if_true, if_false, Bool.false_eq_true, Bool.not_eq_true', decide_eq_false_iff_not, Bool.not_true, Bool.not_false, List.foldr_cons, List.foldr_nil, Ty.has, Option.bind_some, ↓exc_whl, ↓exc_for, ↓ev_comp, ↓z_ite, ↓z_bind, ↓z_bd, ↓z_sbd, ↓z_sq, ↓z_tn, bdz_ok, bdz_exc, sbdz_ok, sbdz_exc, sqz_nx, sqz_rt, sqz_bk, sqz_ct, sqz_ex, tnz_nx, tnz_rt, tnz_bk, tnz_ct, tnz_ex, kFor_ok, runF_nil, turn_name, wipeE, Int.cast_ofNat_Int, Int.natCast_zero, Int.natCast_one, Int.reduceEq, Int.reduceLT, Int.reduceLE, Int.reduceNeg, part_nil, part_int, cutOf_tup, isi_def, items_lst, items_tup, items_fz, isAny, eq_self, decide_true, decide_false, not_true_eq_false, not_false_eq_true, ne_eq,  sizeLine_eq, List.length_cons, List.length_nil, Nat.reduceAdd, Nat.reduceLeDiff, Nat.zero_add, b5, at2_0, at2_1, runF_cons, t1, t2, Bool.and_true]
end Mk

set_option Elab.async false
set_option linter.all false
set_option maxRecDepth 100000
set_option maxHeartbeats 4000000
namespace Mk
open PySem Mi
abbrev St := List Int × List Int
def stI (p : St) : D := .tup [tI p.1, tI p.2]
structure okI (L N : Nat) (p : St) : Prop where
  l1 : p.1.length = L
  l2 : p.2.length = L
  n : ∀ x ∈ p.1, 0 ≤ x ∧ x < N
  o : ∀ x ∈ p.2, 0 ≤ x ∧ x < 2
def conj (S : List St) (p : St) (j : Nat) : Bool := decide (p.2.getD j 0 = (S.getD (p.1.getD j 0).toNat ([], [])).2.getD j 0)
def con (S : List St) (L : Nat) (p : St) : Bool := (List.range L).all (conj S p)
def mbody : MSs := match b6 with
  | .cons _ (.cons _ (.cons _ (.cons _ (.cons _ (.cons _ (.cons (.for _ _ b) _)))))) => b
  | _ => .nil
theorem at_i {ns : List Int} {j : Int} (h0 : 0 ≤ j) (hj : j < ns.length) : L2.atI (ns.map D.int) j = some (.int (ns.getD j.toNat 0)) := by
  have e := at_ints (ns := ns) (j := j.toNat) (by omega)
  rwa [show ((j.toNat : Nat) : Int) = j by omega] at e
theorem at_m {α : Type} {f : α → D} {L : List α} {i : Int} {d : α} (h0 : 0 ≤ i) (hi : i < L.length) : L2.atI (L.map f) i = some (f (L.getD i.toNat d)) := by
  have e := at_map (f := f) (L := L) (i := i.toNat) (d := d) (by omega)
  rwa [show ((i.toNat : Nat) : Int) = i by omega] at e
theorem mturn {C : Nat → List D → M D} {G : List XC} (a0 x3 x4 x5 x6 : Option D) (S : List St) (L : Nat) (hL : L ≤ 64) (hS : ∀ q ∈ S, okI L S.length q) (p : St) (hp : p ∈ S) (h : AH) :
    turn C G (.tup [3, 4]) mbody (stI p) [a0, some (.tup (S.map stI)), some (.int L), x3, x4, x5, x6] h = some (if con S L p = true then .nx [a0, some (.tup (S.map stI)), some (.int L), some (tI p.1), some (tI p.2), x5, x6] h else .rt (.bl false) h) := by
  rw [stI, turn_tup (ρ2 := [a0, some (.tup (S.map stI)), some (.int L), some (tI p.1), some (tI p.2), x5, x6]) rfl]
  have ok := hS p hp
  have r1 := rng1_nat L (by omega)
  have c1 := comp_run (C := C) (elt := (ME.cmp (COp.eq) (ME.ix (ME.var 4) (ME.var 6)) (ME.ix (ME.ix (ME.ix (ME.var 1) (ME.ix (ME.var 3) (ME.var 6))) (ME.lit (D.int 1))) (ME.var 6)))) (t := .name 6) (cs := .nil) (own := [6]) (ρ := [a0, some (.tup (S.map stI)), some (.int L), some (tI p.1), some (tI p.2), x5, x6]) (h := h) (small_le (m := 64) (by rw [List.length_map, List.length_range]; omega) (by decide)) (lc_on (f := fun (i : Nat) => D.int (i : Int)) (g := fun j => .bl (conj S p j)) (List.range L) fun j hj => by
    have hj' := List.mem_range.mp hj
    refine step_nil (ρ' := [a0, some (.tup (S.map stI)), some (.int L), some (tI p.1), some (tI p.2), x5, some (.int j)]) rfl ?_
    have a1 := at_ints (ns := p.2) (j := j) (by rw [ok.l2]; exact hj')
    have a2 := at_ints (ns := p.1) (j := j) (by rw [ok.l1]; exact hj')
    have m2 := ok.n _ (getDm (d := 0) (show j < p.1.length by rw [ok.l1]; exact hj'))
    have a3 := at_m (f := stI) (L := S) (i := p.1.getD j 0) (d := ([], [])) m2.1 m2.2
    have q := hS _ (getDm (d := (([], []) : St)) (show (p.1.getD j 0).toNat < S.length by omega))
    have a4 := at_ints (ns := (S.getD (p.1.getD j 0).toNat ([], [])).2) (j := j) (by rw [q.l2]; exact hj')
    simp only [stI] at a3
    simp -dsimp -implicitDefEqProofs only [exs, exc, ev, islM, evs, tst, tsts, evi, M.ret_def, M.lift_some, SR.end_rt, SR.end_nx, SR.end_ex, get_zero, get_succ, Tg.set_name, Tg.set_tup, setAll, List.set_cons_zero, List.set_cons_succ, Option.map_some, Option.map_none, eq_ints, ne_ints, lt_ints, le_ints, gt_ints, ge_ints, add_ints, sub_ints, truthy_bl, truthy_int, bi_int, bi_abs, bi_max2, bi_min2, bi_len_fz, bi_len_lst, bi_len_tup, bi_repr, ix_lst, ix_tup, ix_fz, at4_0, at4_1, at4_2, at4_3, set4_0, set4_1, set4_2, set4_3, at3_0, at3_1, at3_2, set3_0, set3_1, set3_2, decide_eq_true_eq, ite_true, ite_false, if_true, if_false, Bool.false_eq_true, Bool.not_eq_true', decide_eq_false_iff_not, Bool.not_true, Bool.not_false, List.foldr_cons, List.foldr_nil, Ty.has, Option.bind_some, ↓exc_whl, ↓exc_for, ↓ev_comp, ↓z_ite, ↓z_bind, ↓z_bd, ↓z_sbd, ↓z_sq, ↓z_tn, bdz_ok, bdz_exc, sbdz_ok, sbdz_exc, sqz_nx, sqz_rt, sqz_bk, sqz_ct, sqz_ex, tnz_nx, tnz_rt, tnz_bk, tnz_ct, tnz_ex, kFor_ok, runF_nil, turn_name, wipeE, Int.cast_ofNat_Int, Int.natCast_zero, Int.natCast_one, Int.reduceEq, Int.reduceLT, Int.reduceLE, Int.reduceNeg, part_nil, part_int, cutOf_tup, isi_def, items_lst, items_tup, items_fz, isAny, eq_self, decide_true, decide_false, not_true_eq_false, not_false_eq_true, ne_eq,  sizeLine_eq, List.length_cons, List.length_nil, Nat.reduceAdd, Nat.reduceLeDiff, Nat.zero_add, tI, a1, a2, a3, at2_1, a4, conj])
  have e : ((List.range L).map (conj S p)).all id = con S L p := by rw [List.all_map]; rfl
  cases q : con S L p with
  | true => rw [q] at e; simp -dsimp -implicitDefEqProofs only [exs, exc, ev, islM, evs, tst, tsts, evi, M.ret_def, M.lift_some, SR.end_rt, SR.end_nx, SR.end_ex, get_zero, get_succ, Tg.set_name, Tg.set_tup, setAll, List.set_cons_zero, List.set_cons_succ, Option.map_some, Option.map_none, eq_ints, ne_ints, lt_ints, le_ints, gt_ints, ge_ints, add_ints, sub_ints, truthy_bl, truthy_int, bi_int, bi_abs, bi_max2, bi_min2, bi_len_fz, bi_len_lst, bi_len_tup, bi_repr, ix_lst, ix_tup, ix_fz, at4_0, at4_1, at4_2, at4_3, set4_0, set4_1, set4_2, set4_3, at3_0, at3_1, at3_2, set3_0, set3_1, set3_2, decide_eq_true_eq, ite_true, ite_false, if_true, if_false, Bool.false_eq_true, Bool.not_eq_true', decide_eq_false_iff_not, Bool.not_true, Bool.not_false, List.foldr_cons, List.foldr_nil, Ty.has, Option.bind_some, ↓exc_whl, ↓exc_for, ↓ev_comp, ↓z_ite, ↓z_bind, ↓z_bd, ↓z_sbd, ↓z_sq, ↓z_tn, bdz_ok, bdz_exc, sbdz_ok, sbdz_exc, sqz_nx, sqz_rt, sqz_bk, sqz_ct, sqz_ex, tnz_nx, tnz_rt, tnz_bk, tnz_ct, tnz_ex, kFor_ok, runF_nil, turn_name, wipeE, Int.cast_ofNat_Int, Int.natCast_zero, Int.natCast_one, Int.reduceEq, Int.reduceLT, Int.reduceLE, Int.reduceNeg, part_nil, part_int, cutOf_tup, isi_def, items_lst, items_tup, items_fz, isAny, eq_self, decide_true, decide_false, not_true_eq_false, not_false_eq_true, ne_eq,  sizeLine_eq, List.length_cons, List.length_nil, Nat.reduceAdd, Nat.reduceLeDiff, Nat.zero_add, mbody, b6, r1, c1, bi_all (truths_bl (conj S p) (List.range L)), e]
  | false => rw [q] at e; simp -dsimp -implicitDefEqProofs only [exs, exc, ev, islM, evs, tst, tsts, evi, M.ret_def, M.lift_some, SR.end_rt, SR.end_nx, SR.end_ex, get_zero, get_succ, Tg.set_name, Tg.set_tup, setAll, List.set_cons_zero, List.set_cons_succ, Option.map_some, Option.map_none, eq_ints, ne_ints, lt_ints, le_ints, gt_ints, ge_ints, add_ints, sub_ints, truthy_bl, truthy_int, bi_int, bi_abs, bi_max2, bi_min2, bi_len_fz, bi_len_lst, bi_len_tup, bi_repr, ix_lst, ix_tup, ix_fz, at4_0, at4_1, at4_2, at4_3, set4_0, set4_1, set4_2, set4_3, at3_0, at3_1, at3_2, set3_0, set3_1, set3_2, decide_eq_true_eq, ite_true, ite_false, if_true, if_false, Bool.false_eq_true, Bool.not_eq_true', decide_eq_false_iff_not, Bool.not_true, Bool.not_false, List.foldr_cons, List.foldr_nil, Ty.has, Option.bind_some, ↓exc_whl, ↓exc_for, ↓ev_comp, ↓z_ite, ↓z_bind, ↓z_bd, ↓z_sbd, ↓z_sq, ↓z_tn, bdz_ok, bdz_exc, sbdz_ok, sbdz_exc, sqz_nx, sqz_rt, sqz_bk, sqz_ct, sqz_ex, tnz_nx, tnz_rt, tnz_bk, tnz_ct, tnz_ex, kFor_ok, runF_nil, turn_name, wipeE, Int.cast_ofNat_Int, Int.natCast_zero, Int.natCast_one, Int.reduceEq, Int.reduceLT, Int.reduceLE, Int.reduceNeg, part_nil, part_int, cutOf_tup, isi_def, items_lst, items_tup, items_fz, isAny, eq_self, decide_true, decide_false, not_true_eq_false, not_false_eq_true, ne_eq,  sizeLine_eq, List.length_cons, List.length_nil, Nat.reduceAdd, Nat.reduceLeDiff, Nat.zero_add, mbody, b6, r1, c1, bi_all (truths_bl (conj S p) (List.range L)), e]
theorem mloop {C : Nat → List D → M D} {G : List XC} (a0 x5 x6 : Option D) (S : List St) (L : Nat) (hL : L ≤ 64) (hS : ∀ q ∈ S, okI L S.length q) (h : AH) : ∀ (R : List St), (∀ p ∈ R, p ∈ S) → ∀ (x3 x4 : Option D),
    ∃ y3 y4, runF C G (.tup [3, 4]) mbody (R.map stI) [a0, some (.tup (S.map stI)), some (.int L), x3, x4, x5, x6] h = some (if R.all (con S L) = true then .nx [a0, some (.tup (S.map stI)), some (.int L), y3, y4, x5, x6] h else .rt (.bl false) h)
  | [], _, x3, x4 => ⟨x3, x4, by simp [runF_nil]⟩
  | p :: R, hR, x3, x4 => by
    obtain ⟨y3, y4, e⟩ := mloop (C := C) (G := G) a0 x5 x6 S L hL hS h R (fun q hq => hR q (List.mem_cons_of_mem _ hq)) (some (tI p.1)) (some (tI p.2))
    have t := mturn (C := C) (G := G) a0 x3 x4 x5 x6 S L hL hS p (hR p List.mem_cons_self) h
    refine ⟨y3, y4, ?_⟩
    rw [List.map_cons, runF_cons, t, List.all_cons]
    cases q : con S L p with
    | true => simp only [if_true, SR.tn_nx, e, Bool.true_and]
    | false => simp only [Bool.false_eq_true, if_false, SR.tn_rt, Bool.false_and]
def sMach : Str := ⟨#[109, 97, 99, 104, 105, 110, 101]⟩
def mv (n : Nat) (S : List D) : D := .tup [.str sMach, .int n, .tup S]
theorem at3 {a b c : D} : L2.atI [a, b, c] 2 = some c := rfl
/-- no states, or too many -/
theorem mach_many (k n : Nat) (hn : n < 7) (S : List D) (hS : S.length = 0 ∨ 2000 < S.length) (h : AH) : cal T (k + 3) 6 [mv n S] h = some (.ok (.bl false) h) := by
  rw [cal_unf (F := T.fns[6]) rfl rfl]
  show SR.end (exs _ _ b6 [some (.tup [.str ⟨#[109, 97, 99, 104, 105, 110, 101]⟩, .int n, .tup S]), none, none, none, none, none, none] h) = _
  have g1 : (0 : Int) ≤ n := by omega
  have g2 : (n : Int) ≤ 6 := by omega
  rcases hS with hS | hS
  · have g3 : ¬ (1 : Int) ≤ (S.length : Nat) := by omega
    simp -dsimp -implicitDefEqProofs only [exs, exc, ev, islM, evs, tst, tsts, evi, M.ret_def, M.lift_some, SR.end_rt, SR.end_nx, SR.end_ex, get_zero, get_succ, Tg.set_name, Tg.set_tup, setAll, List.set_cons_zero, List.set_cons_succ, Option.map_some, Option.map_none, eq_ints, ne_ints, lt_ints, le_ints, gt_ints, ge_ints, add_ints, sub_ints, truthy_bl, truthy_int, bi_int, bi_abs, bi_max2, bi_min2, bi_len_fz, bi_len_lst, bi_len_tup, bi_repr, ix_lst, ix_tup, ix_fz, at4_0, at4_1, at4_2, at4_3, set4_0, set4_1, set4_2, set4_3, at3_0, at3_1, at3_2, set3_0, set3_1, set3_2, decide_eq_true_eq, ite_true, ite_false, if_true, if_false, Bool.false_eq_true, Bool.not_eq_true', decide_eq_false_iff_not, Bool.not_true, Bool.not_false, List.foldr_cons, List.foldr_nil, Ty.has, Option.bind_some, ↓exc_whl, ↓exc_for, ↓ev_comp, ↓z_ite, ↓z_bind, ↓z_bd, ↓z_sbd, ↓z_sq, ↓z_tn, bdz_ok, bdz_exc, sbdz_ok, sbdz_exc, sqz_nx, sqz_rt, sqz_bk, sqz_ct, sqz_ex, tnz_nx, tnz_rt, tnz_bk, tnz_ct, tnz_ex, kFor_ok, runF_nil, turn_name, wipeE, Int.cast_ofNat_Int, Int.natCast_zero, Int.natCast_one, Int.reduceEq, Int.reduceLT, Int.reduceLE, Int.reduceNeg, part_nil, part_int, cutOf_tup, isi_def, items_lst, items_tup, items_fz, isAny, eq_self, decide_true, decide_false, not_true_eq_false, not_false_eq_true, ne_eq,  sizeLine_eq, List.length_cons, List.length_nil, Nat.reduceAdd, Nat.reduceLeDiff, Nat.zero_add, b6, at3_0, at3_1, at3_2, ne_strs, decide_true, Bool.not_true, iswh, eq_true g1, eq_true g2, eq_false g3]
  · have g3 : (1 : Int) ≤ (S.length : Nat) := by omega
    have g4 : ¬ ((S.length : Nat) : Int) ≤ 2000 := by omega
    simp -dsimp -implicitDefEqProofs only [exs, exc, ev, islM, evs, tst, tsts, evi, M.ret_def, M.lift_some, SR.end_rt, SR.end_nx, SR.end_ex, get_zero, get_succ, Tg.set_name, Tg.set_tup, setAll, List.set_cons_zero, List.set_cons_succ, Option.map_some, Option.map_none, eq_ints, ne_ints, lt_ints, le_ints, gt_ints, ge_ints, add_ints, sub_ints, truthy_bl, truthy_int, bi_int, bi_abs, bi_max2, bi_min2, bi_len_fz, bi_len_lst, bi_len_tup, bi_repr, ix_lst, ix_tup, ix_fz, at4_0, at4_1, at4_2, at4_3, set4_0, set4_1, set4_2, set4_3, at3_0, at3_1, at3_2, set3_0, set3_1, set3_2, decide_eq_true_eq, ite_true, ite_false, if_true, if_false, Bool.false_eq_true, Bool.not_eq_true', decide_eq_false_iff_not, Bool.not_true, Bool.not_false, List.foldr_cons, List.foldr_nil, Ty.has, Option.bind_some, ↓exc_whl, ↓exc_for, ↓ev_comp, ↓z_ite, ↓z_bind, ↓z_bd, ↓z_sbd, ↓z_sq, ↓z_tn, bdz_ok, bdz_exc, sbdz_ok, sbdz_exc, sqz_nx, sqz_rt, sqz_bk, sqz_ct, sqz_ex, tnz_nx, tnz_rt, tnz_bk, tnz_ct, tnz_ex, kFor_ok, runF_nil, turn_name, wipeE, Int.cast_ofNat_Int, Int.natCast_zero, Int.natCast_one, Int.reduceEq, Int.reduceLT, Int.reduceLE, Int.reduceNeg, part_nil, part_int, cutOf_tup, isi_def, items_lst, items_tup, items_fz, isAny, eq_self, decide_true, decide_false, not_true_eq_false, not_false_eq_true, ne_eq,  sizeLine_eq, List.length_cons, List.length_nil, Nat.reduceAdd, Nat.reduceLeDiff, Nat.zero_add, b6, at3_0, at3_1, at3_2, ne_strs, decide_true, Bool.not_true, iswh, eq_true g1, eq_true g2, eq_true g3, eq_false g4]
/-- a state that is none -/
theorem mach_bad (k n : Nat) (hn : n < 7) (S : List (List D × List D)) (hl : 1 ≤ S.length) (hu : S.length ≤ 2000) (hp : ∀ p ∈ S, (∀ d ∈ p.1, plainD d) ∧ (∀ d ∈ p.2, plainD d) ∧ p.1.length ≤ 1000 ∧ p.2.length ≤ 1000)
    (hb : ∃ p ∈ S, (okP (2 ^ n) S.length p.1 && okP (2 ^ n) 2 p.2) = false) (h : AH) : cal T (k + 3) 6 [mv n (S.map stD)] h = some (.ok (.bl false) h) := by
  rw [cal_unf (F := T.fns[6]) rfl rfl]
  show SR.end (exs _ _ b6 [some (.tup [.str ⟨#[109, 97, 99, 104, 105, 110, 101]⟩, .int n, .tup (S.map stD)]), none, none, none, none, none, none] h) = _
  have g1 : (0 : Int) ≤ n := by omega
  have g2 : (n : Int) ≤ 6 := by omega
  have g3 : (1 : Int) ≤ (S.length : Nat) := by omega
  have g4 : ((S.length : Nat) : Int) ≤ 2000 := by omega
  have pn : (2 : Int) ^ n = ((2 ^ n : Nat) : Int) := by simp
  have c1 := comp_run (C := cal T (k + 2)) (elt := (ME.call 5 (MEs.cons (ME.var 5) (MEs.cons (ME.var 2) (MEs.cons (ME.bi (Bi.len) (MEs.cons (ME.var 1) (MEs.nil))) (MEs.nil)))))) (t := .name 5) (cs := .nil) (own := [5]) (ρ := [some (.tup [.str ⟨#[109, 97, 99, 104, 105, 110, 101]⟩, .int n, .tup (S.map stD)]), some (.tup (S.map stD)), some (.int ((2 ^ n : Nat) : Int)), none, none, none, none]) (h := h) (small_le (m := 2000) (by rw [List.length_map]; omega) (by decide)) (lc_on (f := stD) (g := fun p => .bl (okP (2 ^ n) S.length p.1 && okP (2 ^ n) 2 p.2)) S fun p hpS => by
    obtain ⟨h1, h2, h3, h4⟩ := hp p hpS
    refine step_nil (ρ' := [some (.tup [.str ⟨#[109, 97, 99, 104, 105, 110, 101]⟩, .int n, .tup (S.map stD)]), some (.tup (S.map stD)), some (.int ((2 ^ n : Nat) : Int)), none, none, some (stD p), none]) rfl ?_
    simp -dsimp -implicitDefEqProofs only [exs, exc, ev, islM, evs, tst, tsts, evi, M.ret_def, M.lift_some, SR.end_rt, SR.end_nx, SR.end_ex, get_zero, get_succ, Tg.set_name, Tg.set_tup, setAll, List.set_cons_zero, List.set_cons_succ, Option.map_some, Option.map_none, eq_ints, ne_ints, lt_ints, le_ints, gt_ints, ge_ints, add_ints, sub_ints, truthy_bl, truthy_int, bi_int, bi_abs, bi_max2, bi_min2, bi_len_fz, bi_len_lst, bi_len_tup, bi_repr, ix_lst, ix_tup, ix_fz, at4_0, at4_1, at4_2, at4_3, set4_0, set4_1, set4_2, set4_3, at3_0, at3_1, at3_2, set3_0, set3_1, set3_2, decide_eq_true_eq, ite_true, ite_false, if_true, if_false, Bool.false_eq_true, Bool.not_eq_true', decide_eq_false_iff_not, Bool.not_true, Bool.not_false, List.foldr_cons, List.foldr_nil, Ty.has, Option.bind_some, ↓exc_whl, ↓exc_for, ↓ev_comp, ↓z_ite, ↓z_bind, ↓z_bd, ↓z_sbd, ↓z_sq, ↓z_tn, bdz_ok, bdz_exc, sbdz_ok, sbdz_exc, sqz_nx, sqz_rt, sqz_bk, sqz_ct, sqz_ex, tnz_nx, tnz_rt, tnz_bk, tnz_ct, tnz_ex, kFor_ok, runF_nil, turn_name, wipeE, Int.cast_ofNat_Int, Int.natCast_zero, Int.natCast_one, Int.reduceEq, Int.reduceLT, Int.reduceLE, Int.reduceNeg, part_nil, part_int, cutOf_tup, isi_def, items_lst, items_tup, items_fz, isAny, eq_self, decide_true, decide_false, not_true_eq_false, not_false_eq_true, ne_eq,  sizeLine_eq, List.length_cons, List.length_nil, Nat.reduceAdd, Nat.reduceLeDiff, Nat.zero_add, List.length_map, isstate k (2 ^ n) S.length p ⟨h1, h2⟩ ⟨h3, h4⟩])
  have e : (S.map fun p => okP (2 ^ n) S.length p.1 && okP (2 ^ n) 2 p.2).all id = false := by
    obtain ⟨p, hp1, hp2⟩ := hb
    rw [List.all_eq_false]
    exact ⟨_, List.mem_map.mpr ⟨p, hp1, rfl⟩, by rw [hp2]; simp⟩
  simp -dsimp -implicitDefEqProofs only [exs, exc, ev, islM, evs, tst, tsts, evi, M.ret_def, M.lift_some, SR.end_rt, SR.end_nx, SR.end_ex, get_zero, get_succ, Tg.set_name, Tg.set_tup, setAll, List.set_cons_zero, List.set_cons_succ, Option.map_some, Option.map_none, eq_ints, ne_ints, lt_ints, le_ints, gt_ints, ge_ints, add_ints, sub_ints, truthy_bl, truthy_int, bi_int, bi_abs, bi_max2, bi_min2, bi_len_fz, bi_len_lst, bi_len_tup, bi_repr, ix_lst, ix_tup, ix_fz, at4_0, at4_1, at4_2, at4_3, set4_0, set4_1, set4_2, set4_3, at3_0, at3_1, at3_2, set3_0, set3_1, set3_2, decide_eq_true_eq, ite_true, ite_false, if_true, if_false, Bool.false_eq_true, Bool.not_eq_true', decide_eq_false_iff_not, Bool.not_true, Bool.not_false, List.foldr_cons, List.foldr_nil, Ty.has, Option.bind_some, ↓exc_whl, ↓exc_for, ↓ev_comp, ↓z_ite, ↓z_bind, ↓z_bd, ↓z_sbd, ↓z_sq, ↓z_tn, bdz_ok, bdz_exc, sbdz_ok, sbdz_exc, sqz_nx, sqz_rt, sqz_bk, sqz_ct, sqz_ex, tnz_nx, tnz_rt, tnz_bk, tnz_ct, tnz_ex, kFor_ok, runF_nil, turn_name, wipeE, Int.cast_ofNat_Int, Int.natCast_zero, Int.natCast_one, Int.reduceEq, Int.reduceLT, Int.reduceLE, Int.reduceNeg, part_nil, part_int, cutOf_tup, isi_def, items_lst, items_tup, items_fz, isAny, eq_self, decide_true, decide_false, not_true_eq_false, not_false_eq_true, ne_eq,  sizeLine_eq, List.length_cons, List.length_nil, Nat.reduceAdd, Nat.reduceLeDiff, Nat.zero_add, b6, at3_0, at3_1, at3_2, ne_strs, decide_true, Bool.not_true, iswh, eq_true g1, eq_true g2, List.length_map, eq_true g3, eq_true g4, atL n hn, pn, c1, bi_all (truths_bl (fun p => okP (2 ^ n) S.length p.1 && okP (2 ^ n) 2 p.2) S), e]
theorem okP_ints (L : Nat) (N : Int) (ns : List Int) (hl : ns.length = L) (h : ∀ x ∈ ns, 0 ≤ x ∧ x < N) : okP L N (ns.map D.int) = true := by
  unfold okP
  rw [List.length_map, decide_eq_true hl, Bool.true_and, List.all_eq_true]
  intro d hd
  obtain ⟨x, hx, rfl⟩ := List.mem_map.mp hd
  have := h x hx
  simp only [okE, decide_eq_true this.1, decide_eq_true this.2, Bool.and_self]
/-- states of the right form -/
theorem mach_int (k n : Nat) (hn : n < 7) (S : List St) (hl : 1 ≤ S.length) (hu : S.length ≤ 2000) (hS : ∀ p ∈ S, okI (2 ^ n) S.length p) (h : AH) : cal T (k + 3) 6 [mv n (S.map stI)] h = some (.ok (.bl (S.all (con S (2 ^ n)))) h) := by
  rw [cal_unf (F := T.fns[6]) rfl rfl]
  show SR.end (exs _ _ b6 [some (.tup [.str ⟨#[109, 97, 99, 104, 105, 110, 101]⟩, .int n, .tup (S.map stI)]), none, none, none, none, none, none] h) = _
  have g1 : (0 : Int) ≤ n := by omega
  have g2 : (n : Int) ≤ 6 := by omega
  have g3 : (1 : Int) ≤ (S.length : Nat) := by omega
  have g4 : ((S.length : Nat) : Int) ≤ 2000 := by omega
  have pn : (2 : Int) ^ n = ((2 ^ n : Nat) : Int) := by simp
  have p64 : 2 ^ n ≤ 64 := Nat.pow_le_pow_right (n := 2) (by decide) (show n ≤ 6 by omega)
  have c1 := comp_run (C := cal T (k + 2)) (elt := (ME.call 5 (MEs.cons (ME.var 5) (MEs.cons (ME.var 2) (MEs.cons (ME.bi (Bi.len) (MEs.cons (ME.var 1) (MEs.nil))) (MEs.nil)))))) (t := .name 5) (cs := .nil) (own := [5]) (ρ := [some (.tup [.str ⟨#[109, 97, 99, 104, 105, 110, 101]⟩, .int n, .tup (S.map stI)]), some (.tup (S.map stI)), some (.int ((2 ^ n : Nat) : Int)), none, none, none, none]) (h := h) (small_le (m := 2000) (by rw [List.length_map]; omega) (by decide)) (lc_on (f := stI) (g := fun p => .bl true) S fun p hpS => by
    have ok := hS p hpS
    have q := isstate k (2 ^ n) S.length (p.1.map D.int, p.2.map D.int) ⟨fun d hd => by obtain ⟨x, _, rfl⟩ := List.mem_map.mp hd; trivial, fun d hd => by obtain ⟨x, _, rfl⟩ := List.mem_map.mp hd; trivial⟩ ⟨by rw [List.length_map, ok.l1]; omega, by rw [List.length_map, ok.l2]; omega⟩ h
    rw [okP_ints _ _ _ ok.l1 ok.n, okP_ints _ _ _ ok.l2 ok.o] at q
    refine step_nil (ρ' := [some (.tup [.str ⟨#[109, 97, 99, 104, 105, 110, 101]⟩, .int n, .tup (S.map stI)]), some (.tup (S.map stI)), some (.int ((2 ^ n : Nat) : Int)), none, none, some (stI p), none]) rfl ?_
    simp only [stD, Bool.and_self] at q
    simp -dsimp -implicitDefEqProofs only [exs, exc, ev, islM, evs, tst, tsts, evi, M.ret_def, M.lift_some, SR.end_rt, SR.end_nx, SR.end_ex, get_zero, get_succ, Tg.set_name, Tg.set_tup, setAll, List.set_cons_zero, List.set_cons_succ, Option.map_some, Option.map_none, eq_ints, ne_ints, lt_ints, le_ints, gt_ints, ge_ints, add_ints, sub_ints, truthy_bl, truthy_int, bi_int, bi_abs, bi_max2, bi_min2, bi_len_fz, bi_len_lst, bi_len_tup, bi_repr, ix_lst, ix_tup, ix_fz, at4_0, at4_1, at4_2, at4_3, set4_0, set4_1, set4_2, set4_3, at3_0, at3_1, at3_2, set3_0, set3_1, set3_2, decide_eq_true_eq, ite_true, ite_false, if_true, if_false, Bool.false_eq_true, Bool.not_eq_true', decide_eq_false_iff_not, Bool.not_true, Bool.not_false, List.foldr_cons, List.foldr_nil, Ty.has, Option.bind_some, ↓exc_whl, ↓exc_for, ↓ev_comp, ↓z_ite, ↓z_bind, ↓z_bd, ↓z_sbd, ↓z_sq, ↓z_tn, bdz_ok, bdz_exc, sbdz_ok, sbdz_exc, sqz_nx, sqz_rt, sqz_bk, sqz_ct, sqz_ex, tnz_nx, tnz_rt, tnz_bk, tnz_ct, tnz_ex, kFor_ok, runF_nil, turn_name, wipeE, Int.cast_ofNat_Int, Int.natCast_zero, Int.natCast_one, Int.reduceEq, Int.reduceLT, Int.reduceLE, Int.reduceNeg, part_nil, part_int, cutOf_tup, isi_def, items_lst, items_tup, items_fz, isAny, eq_self, decide_true, decide_false, not_true_eq_false, not_false_eq_true, ne_eq,  sizeLine_eq, List.length_cons, List.length_nil, Nat.reduceAdd, Nat.reduceLeDiff, Nat.zero_add, stI, tI, List.length_map, q])
  have e : (S.map fun _ => true).all id = true := by simp
  have tt : truths? (S.map fun _ => D.bl true) = some (S.map fun _ => true) := truths_true S
  obtain ⟨y3, y4, lp⟩ := mloop (C := cal T (k + 2)) (G := T.xcs) (some (.tup [.str ⟨#[109, 97, 99, 104, 105, 110, 101]⟩, .int n, .tup (S.map stI)])) none none S (2 ^ n) p64 hS h S (fun _ q => q) none none
  simp only [mbody, b6] at lp
  cases q : S.all (con S (2 ^ n)) with
  | true =>
    rw [q, if_pos rfl] at lp
    simp -dsimp -implicitDefEqProofs only [exs, exc, ev, islM, evs, tst, tsts, evi, M.ret_def, M.lift_some, SR.end_rt, SR.end_nx, SR.end_ex, get_zero, get_succ, Tg.set_name, Tg.set_tup, setAll, List.set_cons_zero, List.set_cons_succ, Option.map_some, Option.map_none, eq_ints, ne_ints, lt_ints, le_ints, gt_ints, ge_ints, add_ints, sub_ints, truthy_bl, truthy_int, bi_int, bi_abs, bi_max2, bi_min2, bi_len_fz, bi_len_lst, bi_len_tup, bi_repr, ix_lst, ix_tup, ix_fz, at4_0, at4_1, at4_2, at4_3, set4_0, set4_1, set4_2, set4_3, at3_0, at3_1, at3_2, set3_0, set3_1, set3_2, decide_eq_true_eq, ite_true, ite_false, if_true, if_false, Bool.false_eq_true, Bool.not_eq_true', decide_eq_false_iff_not, Bool.not_true, Bool.not_false, List.foldr_cons, List.foldr_nil, Ty.has, Option.bind_some, ↓exc_whl, ↓exc_for, ↓ev_comp, ↓z_ite, ↓z_bind, ↓z_bd, ↓z_sbd, ↓z_sq, ↓z_tn, bdz_ok, bdz_exc, sbdz_ok, sbdz_exc, sqz_nx, sqz_rt, sqz_bk, sqz_ct, sqz_ex, tnz_nx, tnz_rt, tnz_bk, tnz_ct, tnz_ex, kFor_ok, runF_nil, turn_name, wipeE, Int.cast_ofNat_Int, Int.natCast_zero, Int.natCast_one, Int.reduceEq, Int.reduceLT, Int.reduceLE, Int.reduceNeg, part_nil, part_int, cutOf_tup, isi_def, items_lst, items_tup, items_fz, isAny, eq_self, decide_true, decide_false, not_true_eq_false, not_false_eq_true, ne_eq,  sizeLine_eq, List.length_cons, List.length_nil, Nat.reduceAdd, Nat.reduceLeDiff, Nat.zero_add, b6, at3_0, at3_1, at3_2, ne_strs, decide_true, Bool.not_true, iswh, eq_true g1, eq_true g2, List.length_map, eq_true g3, eq_true g4, atL n hn, pn, c1, bi_all tt, e, lp]
  | false =>
    rw [q, if_neg Bool.false_ne_true] at lp
    simp -dsimp -implicitDefEqProofs only [exs, exc, ev, islM, evs, tst, tsts, evi, M.ret_def, M.lift_some, SR.end_rt, SR.end_nx, SR.end_ex, get_zero, get_succ, Tg.set_name, Tg.set_tup, setAll, List.set_cons_zero, List.set_cons_succ, Option.map_some, Option.map_none, eq_ints, ne_ints, lt_ints, le_ints, gt_ints, ge_ints, add_ints, sub_ints, truthy_bl, truthy_int, bi_int, bi_abs, bi_max2, bi_min2, bi_len_fz, bi_len_lst, bi_len_tup, bi_repr, ix_lst, ix_tup, ix_fz, at4_0, at4_1, at4_2, at4_3, set4_0, set4_1, set4_2, set4_3, at3_0, at3_1, at3_2, set3_0, set3_1, set3_2, decide_eq_true_eq, ite_true, ite_false, if_true, if_false, Bool.false_eq_true, Bool.not_eq_true', decide_eq_false_iff_not, Bool.not_true, Bool.not_false, List.foldr_cons, List.foldr_nil, Ty.has, Option.bind_some, ↓exc_whl, ↓exc_for, ↓ev_comp, ↓z_ite, ↓z_bind, ↓z_bd, ↓z_sbd, ↓z_sq, ↓z_tn, bdz_ok, bdz_exc, sbdz_ok, sbdz_exc, sqz_nx, sqz_rt, sqz_bk, sqz_ct, sqz_ex, tnz_nx, tnz_rt, tnz_bk, tnz_ct, tnz_ex, kFor_ok, runF_nil, turn_name, wipeE, Int.cast_ofNat_Int, Int.natCast_zero, Int.natCast_one, Int.reduceEq, Int.reduceLT, Int.reduceLE, Int.reduceNeg, part_nil, part_int, cutOf_tup, isi_def, items_lst, items_tup, items_fz, isAny, eq_self, decide_true, decide_false, not_true_eq_false, not_false_eq_true, ne_eq,  sizeLine_eq, List.length_cons, List.length_nil, Nat.reduceAdd, Nat.reduceLeDiff, Nat.zero_add, b6, at3_0, at3_1, at3_2, ne_strs, decide_true, Bool.not_true, iswh, eq_true g1, eq_true g2, List.length_map, eq_true g3, eq_true g4, atL n hn, pn, c1, bi_all tt, e, lp]
end Mk

set_option Elab.async false
set_option linter.all false
set_option maxRecDepth 100000
set_option maxHeartbeats 4000000
namespace Mk
open PySem Mi
def stp (S : List St) (s : Int) (l : Int) : Int := (S.getD s.toNat ([], [])).1.getD l.toNat 0
def fin (S : List St) (s : Int) (l : Int) : Int := (S.getD s.toNat ([], [])).2.getD l.toNat 0
/-- what a machine tells of a word -/
def outW (S : List St) : Int → List Int → Int
  | _, [] => 0
  | s, [l] => fin S s l
  | s, l :: e :: r => outW S (stp S s l) (e :: r)
structure okW (L : Nat) (w : List Int) : Prop where
  l : ∀ x ∈ w, 0 ≤ x ∧ x < L
theorem stp_in {S : List St} {L : Nat} (hS : ∀ q ∈ S, okI L S.length q) {s l : Int} (h0 : 0 ≤ s) (h1 : s < S.length) (l0 : 0 ≤ l) (l1 : l < L) : 0 ≤ stp S s l ∧ stp S s l < S.length := by
  have q := hS _ (getDm (d := (([], []) : St)) (show s.toNat < S.length by omega))
  exact q.n _ (getDm (d := 0) (show l.toNat < (S.getD s.toNat ([], [])).1.length by rw [q.l1]; omega))
theorem at_st {S : List St} {L : Nat} (hS : ∀ q ∈ S, okI L S.length q) {s l : Int} (h0 : 0 ≤ s) (h1 : s < S.length) (l0 : 0 ≤ l) (l1 : l < L) :
    L2.atI (S.map stI) s = some (.tup [.tup ((S.getD s.toNat ([], [])).1.map D.int), .tup ((S.getD s.toNat ([], [])).2.map D.int)]) ∧ L2.atI ((S.getD s.toNat ([], [])).1.map D.int) l = some (.int (stp S s l)) ∧ L2.atI ((S.getD s.toNat ([], [])).2.map D.int) l = some (.int (fin S s l)) := by
  have q := hS _ (getDm (d := (([], []) : St)) (show s.toNat < S.length by omega))
  exact ⟨at_m (f := stI) (d := ([], [])) h0 h1, at_i l0 (by rw [q.l1]; exact l1), at_i l0 (by rw [q.l2]; exact l1)⟩
def wbody : MSs := match b8 with
  | .cons _ (.cons (.for _ _ b) _) => b
  | _ => .nil
theorem wloop {C : Nat → List D → M D} {G : List XC} (n : Nat) (x2 x3 : Option D) (S : List St) (L : Nat) (hS : ∀ q ∈ S, okI L S.length q) (h : AH) : ∀ (w : List Int) (s : Int) (x4 : Option D), okW L w → 0 ≤ s → s < S.length →
    ∃ y4, runF C G (.name 4) wbody (w.map D.int) [some (mv n (S.map stI)), some (.int s), x2, x3, x4] h = some (.nx [some (mv n (S.map stI)), some (.int (w.foldl (stp S) s)), x2, x3, y4] h) ∧ 0 ≤ w.foldl (stp S) s ∧ w.foldl (stp S) s < S.length
  | [], s, x4, _, h0, h1 => ⟨x4, by simp [runF_nil], h0, h1⟩
  | l :: w, s, x4, W, h0, h1 => by
    have hl := W.l l List.mem_cons_self
    have i := stp_in hS h0 h1 hl.1 hl.2
    obtain ⟨y4, e, g⟩ := wloop (C := C) (G := G) n x2 x3 S L hS h w (stp S s l) (some (.int l)) ⟨fun x hx => W.l x (List.mem_cons_of_mem _ hx)⟩ i.1 i.2
    refine ⟨y4, ?_, g⟩
    have a := at_st hS h0 h1 hl.1 hl.2
    rw [List.map_cons, runF_cons]
    simp only [mv] at e
    simp -dsimp -implicitDefEqProofs only [exs, exc, ev, islM, evs, tst, tsts, evi, M.ret_def, M.lift_some, SR.end_rt, SR.end_nx, SR.end_ex, get_zero, get_succ, Tg.set_name, Tg.set_tup, setAll, List.set_cons_zero, List.set_cons_succ, Option.map_some, Option.map_none, eq_ints, ne_ints, lt_ints, le_ints, gt_ints, ge_ints, add_ints, sub_ints, truthy_bl, truthy_int, bi_int, bi_abs, bi_max2, bi_min2, bi_len_fz, bi_len_lst, bi_len_tup, bi_repr, ix_lst, ix_tup, ix_fz, at4_0, at4_1, at4_2, at4_3, set4_0, set4_1, set4_2, set4_3, at3_0, at3_1, at3_2, set3_0, set3_1, set3_2, decide_eq_true_eq, ite_true, ite_false, if_true, if_false, Bool.false_eq_true, Bool.not_eq_true', decide_eq_false_iff_not, Bool.not_true, Bool.not_false, List.foldr_cons, List.foldr_nil, Ty.has, Option.bind_some, ↓exc_whl, ↓exc_for, ↓ev_comp, ↓z_ite, ↓z_bind, ↓z_bd, ↓z_sbd, ↓z_sq, ↓z_tn, bdz_ok, bdz_exc, sbdz_ok, sbdz_exc, sqz_nx, sqz_rt, sqz_bk, sqz_ct, sqz_ex, tnz_nx, tnz_rt, tnz_bk, tnz_ct, tnz_ex, kFor_ok, runF_nil, turn_name, wipeE, Int.cast_ofNat_Int, Int.natCast_zero, Int.natCast_one, Int.reduceEq, Int.reduceLT, Int.reduceLE, Int.reduceNeg, part_nil, part_int, cutOf_tup, isi_def, items_lst, items_tup, items_fz, isAny, eq_self, decide_true, decide_false, not_true_eq_false, not_false_eq_true, ne_eq,  sizeLine_eq, List.length_cons, List.length_nil, Nat.reduceAdd, Nat.reduceLeDiff, Nat.zero_add, mv, wbody, b8, at3_2, a.1, at2_0, a.2.1]
    simp only [wbody, b8] at e
    rw [e]
    rfl
theorem outW_fold (S : List St) : ∀ (w : List Int) (hw : w ≠ []) (s : Int), outW S s w = fin S (w.dropLast.foldl (stp S) s) (w.getLast hw)
  | [], h, _ => absurd rfl h
  | [l], _, s => rfl
  | l :: e :: r, _, s => by
    rw [outW, outW_fold S (e :: r) (by simp)]
    rfl
theorem outfrom (k n : Nat) (S : List St) (L : Nat) (hS : ∀ q ∈ S, okI L S.length q) (w : List Int) (hw : w ≠ []) (W : okW L w) (s : Int) (h0 : 0 ≤ s) (h1 : s < S.length) (h : AH) :
    cal T (k + 1) 8 [mv n (S.map stI), .int s, tI w] h = some (.ok (.int (outW S s w)) h) := by
  rw [cal_unf (F := T.fns[8]) rfl rfl]
  show SR.end (exs _ _ b8 [some (mv n (S.map stI)), some (.int s), some (.tup (w.map D.int)), none, none] h) = _
  have hp : 0 < w.length := List.length_pos_iff.mpr hw
  have e1 : ((w.length : Nat) : Int) - 1 = ((w.length - 1 : Nat) : Int) := by omega
  have e2 : cutD (w.map D.int) none (some ((w.length - 1 : Nat) : Int)) = w.dropLast.map D.int := by
    rw [cut_to, List.dropLast_eq_take, List.map_take]
  have W' : okW L w.dropLast := ⟨fun x hx => W.l x (List.dropLast_subset w hx)⟩
  obtain ⟨y4, e, g0, g1⟩ := wloop (C := cal T k) (G := T.xcs) n (some (.tup (w.map D.int))) (some (.int ((w.length - 1 : Nat) : Int))) S L hS h w.dropLast s none W' h0 h1
  have a1 := at_ints (ns := w) (j := w.length - 1) (by omega)
  have hlast : w.getD (w.length - 1) 0 = w.getLast hw := by
    rw [List.getLast_eq_getElem, List.getD_eq_getElem?_getD, List.getElem?_eq_getElem (by omega)]
    rfl
  rw [hlast] at a1
  have hl := W.l _ (List.getLast_mem hw)
  have a := at_st hS g0 g1 hl.1 hl.2
  rw [outW_fold S w hw]
  simp only [wbody, b8, mv] at e
  simp -dsimp -implicitDefEqProofs only [exs, exc, ev, islM, evs, tst, tsts, evi, M.ret_def, M.lift_some, SR.end_rt, SR.end_nx, SR.end_ex, get_zero, get_succ, Tg.set_name, Tg.set_tup, setAll, List.set_cons_zero, List.set_cons_succ, Option.map_some, Option.map_none, eq_ints, ne_ints, lt_ints, le_ints, gt_ints, ge_ints, add_ints, sub_ints, truthy_bl, truthy_int, bi_int, bi_abs, bi_max2, bi_min2, bi_len_fz, bi_len_lst, bi_len_tup, bi_repr, ix_lst, ix_tup, ix_fz, at4_0, at4_1, at4_2, at4_3, set4_0, set4_1, set4_2, set4_3, at3_0, at3_1, at3_2, set3_0, set3_1, set3_2, decide_eq_true_eq, ite_true, ite_false, if_true, if_false, Bool.false_eq_true, Bool.not_eq_true', decide_eq_false_iff_not, Bool.not_true, Bool.not_false, List.foldr_cons, List.foldr_nil, Ty.has, Option.bind_some, ↓exc_whl, ↓exc_for, ↓ev_comp, ↓z_ite, ↓z_bind, ↓z_bd, ↓z_sbd, ↓z_sq, ↓z_tn, bdz_ok, bdz_exc, sbdz_ok, sbdz_exc, sqz_nx, sqz_rt, sqz_bk, sqz_ct, sqz_ex, tnz_nx, tnz_rt, tnz_bk, tnz_ct, tnz_ex, kFor_ok, runF_nil, turn_name, wipeE, Int.cast_ofNat_Int, Int.natCast_zero, Int.natCast_one, Int.reduceEq, Int.reduceLT, Int.reduceLE, Int.reduceNeg, part_nil, part_int, cutOf_tup, isi_def, items_lst, items_tup, items_fz, isAny, eq_self, decide_true, decide_false, not_true_eq_false, not_false_eq_true, ne_eq,  sizeLine_eq, List.length_cons, List.length_nil, Nat.reduceAdd, Nat.reduceLeDiff, Nat.zero_add, mv, b8, List.length_map, e1, e2, e, at3_2, a.1, at2_1, a1, a.2.2]
theorem made_BM (d : D) : madeX T.xcs ⟨#[66, 97, 100, 77, 97, 99, 104, 105, 110, 101]⟩ [d] = some [(⟨#[112, 108, 97, 99, 101]⟩, d)] := by
  have e : T.xcs.find? (fun k => k.name == (⟨#[66, 97, 100, 77, 97, 99, 104, 105, 110, 101]⟩ : Str)) = some ⟨⟨#[66, 97, 100, 77, 97, 99, 104, 105, 110, 101]⟩, [⟨#[87, 104, 111, 108, 101, 69, 114, 114, 111, 114]⟩], [⟨#[112, 108, 97, 99, 101]⟩]⟩ := by kernel_rfl
  simp only [madeX, e, List.length_cons, List.length_nil, if_true, List.zip_cons_cons, List.zip_nil_right, List.reverse_cons, List.reverse_nil, List.nil_append]
theorem made_BP : madeX T.xcs ⟨#[66, 97, 100, 80, 111, 105, 110, 116]⟩ [] = some [] := by kernel_rfl
theorem check_ok (k : Nat) (m : D) (h : AH) (e : cal T (k + 3) 6 [m] h = some (.ok (.bl true) h)) : cal T (k + 4) 7 [m, .int 0] h = some (.ok .non h) := by
  rw [cal_unf (F := T.fns[7]) rfl rfl]
  show SR.end (exs _ _ b7 [some m, some (.int 0)] h) = _
  simp -dsimp -implicitDefEqProofs only [exs, exc, ev, islM, evs, tst, tsts, evi, M.ret_def, M.lift_some, SR.end_rt, SR.end_nx, SR.end_ex, get_zero, get_succ, Tg.set_name, Tg.set_tup, setAll, List.set_cons_zero, List.set_cons_succ, Option.map_some, Option.map_none, eq_ints, ne_ints, lt_ints, le_ints, gt_ints, ge_ints, add_ints, sub_ints, truthy_bl, truthy_int, bi_int, bi_abs, bi_max2, bi_min2, bi_len_fz, bi_len_lst, bi_len_tup, bi_repr, ix_lst, ix_tup, ix_fz, at4_0, at4_1, at4_2, at4_3, set4_0, set4_1, set4_2, set4_3, at3_0, at3_1, at3_2, set3_0, set3_1, set3_2, decide_eq_true_eq, ite_true, ite_false, if_true, if_false, Bool.false_eq_true, Bool.not_eq_true', decide_eq_false_iff_not, Bool.not_true, Bool.not_false, List.foldr_cons, List.foldr_nil, Ty.has, Option.bind_some, ↓exc_whl, ↓exc_for, ↓ev_comp, ↓z_ite, ↓z_bind, ↓z_bd, ↓z_sbd, ↓z_sq, ↓z_tn, bdz_ok, bdz_exc, sbdz_ok, sbdz_exc, sqz_nx, sqz_rt, sqz_bk, sqz_ct, sqz_ex, tnz_nx, tnz_rt, tnz_bk, tnz_ct, tnz_ex, kFor_ok, runF_nil, turn_name, wipeE, Int.cast_ofNat_Int, Int.natCast_zero, Int.natCast_one, Int.reduceEq, Int.reduceLT, Int.reduceLE, Int.reduceNeg, part_nil, part_int, cutOf_tup, isi_def, items_lst, items_tup, items_fz, isAny, eq_self, decide_true, decide_false, not_true_eq_false, not_false_eq_true, ne_eq,  sizeLine_eq, List.length_cons, List.length_nil, Nat.reduceAdd, Nat.reduceLeDiff, Nat.zero_add, b7, e]
theorem check_no (k : Nat) (m : D) (h : AH) (e : cal T (k + 3) 6 [m] h = some (.ok (.bl false) h)) : cal T (k + 4) 7 [m, .int 0] h = some (.exc ⟨#[66, 97, 100, 77, 97, 99, 104, 105, 110, 101]⟩ [(⟨#[112, 108, 97, 99, 101]⟩, .int 0)] h) := by
  rw [cal_unf (F := T.fns[7]) rfl rfl]
  show SR.end (exs _ _ b7 [some m, some (.int 0)] h) = _
  simp -dsimp -implicitDefEqProofs only [exs, exc, ev, islM, evs, tst, tsts, evi, M.ret_def, M.lift_some, SR.end_rt, SR.end_nx, SR.end_ex, get_zero, get_succ, Tg.set_name, Tg.set_tup, setAll, List.set_cons_zero, List.set_cons_succ, Option.map_some, Option.map_none, eq_ints, ne_ints, lt_ints, le_ints, gt_ints, ge_ints, add_ints, sub_ints, truthy_bl, truthy_int, bi_int, bi_abs, bi_max2, bi_min2, bi_len_fz, bi_len_lst, bi_len_tup, bi_repr, ix_lst, ix_tup, ix_fz, at4_0, at4_1, at4_2, at4_3, set4_0, set4_1, set4_2, set4_3, at3_0, at3_1, at3_2, set3_0, set3_1, set3_2, decide_eq_true_eq, ite_true, ite_false, if_true, if_false, Bool.false_eq_true, Bool.not_eq_true', decide_eq_false_iff_not, Bool.not_true, Bool.not_false, List.foldr_cons, List.foldr_nil, Ty.has, Option.bind_some, ↓exc_whl, ↓exc_for, ↓ev_comp, ↓z_ite, ↓z_bind, ↓z_bd, ↓z_sbd, ↓z_sq, ↓z_tn, bdz_ok, bdz_exc, sbdz_ok, sbdz_exc, sqz_nx, sqz_rt, sqz_bk, sqz_ct, sqz_ex, tnz_nx, tnz_rt, tnz_bk, tnz_ct, tnz_ex, kFor_ok, runF_nil, turn_name, wipeE, Int.cast_ofNat_Int, Int.natCast_zero, Int.natCast_one, Int.reduceEq, Int.reduceLT, Int.reduceLE, Int.reduceNeg, part_nil, part_int, cutOf_tup, isi_def, items_lst, items_tup, items_fz, isAny, eq_self, decide_true, decide_false, not_true_eq_false, not_false_eq_true, ne_eq,  sizeLine_eq, List.length_cons, List.length_nil, Nat.reduceAdd, Nat.reduceLeDiff, Nat.zero_add, b7, e, made_BM]
def sPoint : Str := ⟨#[112, 111, 105, 110, 116]⟩
theorem takes1 : takes T.xcs ⟨#[66, 97, 100, 77, 97, 99, 104, 105, 110, 101]⟩ ⟨#[66, 97, 100, 80, 111, 105, 110, 116]⟩ = false := by kernel_rfl
theorem takes2 : takes T.xcs ⟨#[66, 97, 100, 77, 97, 99, 104, 105, 110, 101]⟩ ⟨#[66, 97, 100, 77, 97, 99, 104, 105, 110, 101]⟩ = true := by kernel_rfl
theorem takes3 : takes T.xcs ⟨#[66, 97, 100, 80, 111, 105, 110, 116]⟩ ⟨#[66, 97, 100, 80, 111, 105, 110, 116]⟩ = true := by kernel_rfl
/-- no machine: the answer is 0 -/
theorem call_no (k : Nat) (m pt : D) (h : AH) (e : cal T (k + 3) 6 [m] h = some (.ok (.bl false) h)) : cal T (k + 6) 17 [m, pt] h = some (.ok (.int 0) h) := by
  have e1 := check_no k m h e
  have e2 : cal T (k + 5) 9 [m, pt] h = some (.exc ⟨#[66, 97, 100, 77, 97, 99, 104, 105, 110, 101]⟩ [(⟨#[112, 108, 97, 99, 101]⟩, .int 0)] h) := by
    rw [cal_unf (F := T.fns[9]) rfl rfl]
    show SR.end (exs _ _ b9 [some m, some pt] h) = _
    simp -dsimp -implicitDefEqProofs only [exs, exc, ev, islM, evs, tst, tsts, evi, M.ret_def, M.lift_some, SR.end_rt, SR.end_nx, SR.end_ex, get_zero, get_succ, Tg.set_name, Tg.set_tup, setAll, List.set_cons_zero, List.set_cons_succ, Option.map_some, Option.map_none, eq_ints, ne_ints, lt_ints, le_ints, gt_ints, ge_ints, add_ints, sub_ints, truthy_bl, truthy_int, bi_int, bi_abs, bi_max2, bi_min2, bi_len_fz, bi_len_lst, bi_len_tup, bi_repr, ix_lst, ix_tup, ix_fz, at4_0, at4_1, at4_2, at4_3, set4_0, set4_1, set4_2, set4_3, at3_0, at3_1, at3_2, set3_0, set3_1, set3_2, decide_eq_true_eq, ite_true, ite_false, if_true, if_false, Bool.false_eq_true, Bool.not_eq_true', decide_eq_false_iff_not, Bool.not_true, Bool.not_false, List.foldr_cons, List.foldr_nil, Ty.has, Option.bind_some, ↓exc_whl, ↓exc_for, ↓ev_comp, ↓z_ite, ↓z_bind, ↓z_bd, ↓z_sbd, ↓z_sq, ↓z_tn, bdz_ok, bdz_exc, sbdz_ok, sbdz_exc, sqz_nx, sqz_rt, sqz_bk, sqz_ct, sqz_ex, tnz_nx, tnz_rt, tnz_bk, tnz_ct, tnz_ex, kFor_ok, runF_nil, turn_name, wipeE, Int.cast_ofNat_Int, Int.natCast_zero, Int.natCast_one, Int.reduceEq, Int.reduceLT, Int.reduceLE, Int.reduceNeg, part_nil, part_int, cutOf_tup, isi_def, items_lst, items_tup, items_fz, isAny, eq_self, decide_true, decide_false, not_true_eq_false, not_false_eq_true, ne_eq,  sizeLine_eq, List.length_cons, List.length_nil, Nat.reduceAdd, Nat.reduceLeDiff, Nat.zero_add, b9, e1]
  rw [cal_unf (F := T.fns[17]) rfl rfl]
  show SR.end (exs _ _ b17 [some m, some pt, none, none] h) = _
  simp -dsimp -implicitDefEqProofs only [exs, exc, ev, islM, evs, tst, tsts, evi, M.ret_def, M.lift_some, SR.end_rt, SR.end_nx, SR.end_ex, get_zero, get_succ, Tg.set_name, Tg.set_tup, setAll, List.set_cons_zero, List.set_cons_succ, Option.map_some, Option.map_none, eq_ints, ne_ints, lt_ints, le_ints, gt_ints, ge_ints, add_ints, sub_ints, truthy_bl, truthy_int, bi_int, bi_abs, bi_max2, bi_min2, bi_len_fz, bi_len_lst, bi_len_tup, bi_repr, ix_lst, ix_tup, ix_fz, at4_0, at4_1, at4_2, at4_3, set4_0, set4_1, set4_2, set4_3, at3_0, at3_1, at3_2, set3_0, set3_1, set3_2, decide_eq_true_eq, ite_true, ite_false, if_true, if_false, Bool.false_eq_true, Bool.not_eq_true', decide_eq_false_iff_not, Bool.not_true, Bool.not_false, List.foldr_cons, List.foldr_nil, Ty.has, Option.bind_some, ↓exc_whl, ↓exc_for, ↓ev_comp, ↓z_ite, ↓z_bind, ↓z_bd, ↓z_sbd, ↓z_sq, ↓z_tn, bdz_ok, bdz_exc, sbdz_ok, sbdz_exc, sqz_nx, sqz_rt, sqz_bk, sqz_ct, sqz_ex, tnz_nx, tnz_rt, tnz_bk, tnz_ct, tnz_ex, kFor_ok, runF_nil, turn_name, wipeE, Int.cast_ofNat_Int, Int.natCast_zero, Int.natCast_one, Int.reduceEq, Int.reduceLT, Int.reduceLE, Int.reduceNeg, part_nil, part_int, cutOf_tup, isi_def, items_lst, items_tup, items_fz, isAny, eq_self, decide_true, decide_false, not_true_eq_false, not_false_eq_true, ne_eq,  sizeLine_eq, List.length_cons, List.length_nil, Nat.reduceAdd, Nat.reduceLeDiff, Nat.zero_add, b17, e2]
  simp [takes1, takes2, hdl, List.lookup]
  rfl
/-- a machine, no point -/
theorem call_odd (k n : Nat) (S : List D) (pt : D) (h : AH) (e : cal T (k + 3) 6 [mv n S] h = some (.ok (.bl true) h)) (ep : cal T (k + 4) 1 [.int n, pt] h = some (.ok (.bl false) h)) : cal T (k + 6) 17 [mv n S, pt] h = some (.ok (.str sPoint) h) := by
  have e1 := check_ok k (mv n S) h e
  have e2 : cal T (k + 5) 9 [mv n S, pt] h = some (.exc ⟨#[66, 97, 100, 80, 111, 105, 110, 116]⟩ [] h) := by
    rw [cal_unf (F := T.fns[9]) rfl rfl]
    show SR.end (exs _ _ b9 [some (mv n S), some pt] h) = _
    simp only [mv] at e1 ⊢
    simp -dsimp -implicitDefEqProofs only [exs, exc, ev, islM, evs, tst, tsts, evi, M.ret_def, M.lift_some, SR.end_rt, SR.end_nx, SR.end_ex, get_zero, get_succ, Tg.set_name, Tg.set_tup, setAll, List.set_cons_zero, List.set_cons_succ, Option.map_some, Option.map_none, eq_ints, ne_ints, lt_ints, le_ints, gt_ints, ge_ints, add_ints, sub_ints, truthy_bl, truthy_int, bi_int, bi_abs, bi_max2, bi_min2, bi_len_fz, bi_len_lst, bi_len_tup, bi_repr, ix_lst, ix_tup, ix_fz, at4_0, at4_1, at4_2, at4_3, set4_0, set4_1, set4_2, set4_3, at3_0, at3_1, at3_2, set3_0, set3_1, set3_2, decide_eq_true_eq, ite_true, ite_false, if_true, if_false, Bool.false_eq_true, Bool.not_eq_true', decide_eq_false_iff_not, Bool.not_true, Bool.not_false, List.foldr_cons, List.foldr_nil, Ty.has, Option.bind_some, ↓exc_whl, ↓exc_for, ↓ev_comp, ↓z_ite, ↓z_bind, ↓z_bd, ↓z_sbd, ↓z_sq, ↓z_tn, bdz_ok, bdz_exc, sbdz_ok, sbdz_exc, sqz_nx, sqz_rt, sqz_bk, sqz_ct, sqz_ex, tnz_nx, tnz_rt, tnz_bk, tnz_ct, tnz_ex, kFor_ok, runF_nil, turn_name, wipeE, Int.cast_ofNat_Int, Int.natCast_zero, Int.natCast_one, Int.reduceEq, Int.reduceLT, Int.reduceLE, Int.reduceNeg, part_nil, part_int, cutOf_tup, isi_def, items_lst, items_tup, items_fz, isAny, eq_self, decide_true, decide_false, not_true_eq_false, not_false_eq_true, ne_eq,  sizeLine_eq, List.length_cons, List.length_nil, Nat.reduceAdd, Nat.reduceLeDiff, Nat.zero_add, b9, e1, at3_1, ep, made_BP]
  rw [cal_unf (F := T.fns[17]) rfl rfl]
  show SR.end (exs _ _ b17 [some (mv n S), some pt, none, none] h) = _
  simp -dsimp -implicitDefEqProofs only [exs, exc, ev, islM, evs, tst, tsts, evi, M.ret_def, M.lift_some, SR.end_rt, SR.end_nx, SR.end_ex, get_zero, get_succ, Tg.set_name, Tg.set_tup, setAll, List.set_cons_zero, List.set_cons_succ, Option.map_some, Option.map_none, eq_ints, ne_ints, lt_ints, le_ints, gt_ints, ge_ints, add_ints, sub_ints, truthy_bl, truthy_int, bi_int, bi_abs, bi_max2, bi_min2, bi_len_fz, bi_len_lst, bi_len_tup, bi_repr, ix_lst, ix_tup, ix_fz, at4_0, at4_1, at4_2, at4_3, set4_0, set4_1, set4_2, set4_3, at3_0, at3_1, at3_2, set3_0, set3_1, set3_2, decide_eq_true_eq, ite_true, ite_false, if_true, if_false, Bool.false_eq_true, Bool.not_eq_true', decide_eq_false_iff_not, Bool.not_true, Bool.not_false, List.foldr_cons, List.foldr_nil, Ty.has, Option.bind_some, ↓exc_whl, ↓exc_for, ↓ev_comp, ↓z_ite, ↓z_bind, ↓z_bd, ↓z_sbd, ↓z_sq, ↓z_tn, bdz_ok, bdz_exc, sbdz_ok, sbdz_exc, sqz_nx, sqz_rt, sqz_bk, sqz_ct, sqz_ex, tnz_nx, tnz_rt, tnz_bk, tnz_ct, tnz_ex, kFor_ok, runF_nil, turn_name, wipeE, Int.cast_ofNat_Int, Int.natCast_zero, Int.natCast_one, Int.reduceEq, Int.reduceLT, Int.reduceLE, Int.reduceNeg, part_nil, part_int, cutOf_tup, isi_def, items_lst, items_tup, items_fz, isAny, eq_self, decide_true, decide_false, not_true_eq_false, not_false_eq_true, ne_eq,  sizeLine_eq, List.length_cons, List.length_nil, Nat.reduceAdd, Nat.reduceLeDiff, Nat.zero_add, b17, e2]
  simp [takes3, hdl]
  rfl
/-- a machine and a point -/
theorem call_tak (k n : Nat) (S : List St) (hl : 1 ≤ S.length) (hS : ∀ q ∈ S, okI (2 ^ n) S.length q) (e : ∀ h, cal T (k + 3) 6 [mv n (S.map stI)] h = some (.ok (.bl true) h)) (pt : List Int) (hp : pt.length = n) (hn : n < 7) (hm : mny pt ≤ 1000) (h : AH) :
    cal T (k + 6) 17 [mv n (S.map stI), tI pt] h = some (.ok (.bl (decide (outW S 0 (wrd pt (mny pt)) = 1))) h) := by
  have e1 := check_ok k _ h (e h)
  have ep := ispt (k + 2) pt (by omega) h
  rw [hp] at ep
  have ew := wordof (k + 1) pt (by omega) hm h
  have hw : wrd pt (mny pt) ≠ [] := fun q => by
    have := wrd_len pt (mny pt)
    rw [q] at this
    unfold mny at this
    simp at this
  have W : okW (2 ^ n) (wrd pt (mny pt)) := ⟨fun l hl => by
    unfold wrd at hl
    obtain ⟨j, _, rfl⟩ := List.mem_map.mp hl
    have := V_nn _ (col_01 pt j)
    rw [List.length_map, hp] at this
    have pn : (2 : Int) ^ n = ((2 ^ n : Nat) : Int) := by simp
    rw [← pn]
    exact this⟩
  have eo := outfrom (k + 3) n S (2 ^ n) hS _ hw W 0 (by decide) (by omega) h
  have e2 : cal T (k + 5) 9 [mv n (S.map stI), tI pt] h = some (.ok (.bl (decide (outW S 0 (wrd pt (mny pt)) = 1))) h) := by
    rw [cal_unf (F := T.fns[9]) rfl rfl]
    show SR.end (exs _ _ b9 [some (mv n (S.map stI)), some (tI pt)] h) = _
    simp only [mv] at e1 eo ⊢
    simp -dsimp -implicitDefEqProofs only [exs, exc, ev, islM, evs, tst, tsts, evi, M.ret_def, M.lift_some, SR.end_rt, SR.end_nx, SR.end_ex, get_zero, get_succ, Tg.set_name, Tg.set_tup, setAll, List.set_cons_zero, List.set_cons_succ, Option.map_some, Option.map_none, eq_ints, ne_ints, lt_ints, le_ints, gt_ints, ge_ints, add_ints, sub_ints, truthy_bl, truthy_int, bi_int, bi_abs, bi_max2, bi_min2, bi_len_fz, bi_len_lst, bi_len_tup, bi_repr, ix_lst, ix_tup, ix_fz, at4_0, at4_1, at4_2, at4_3, set4_0, set4_1, set4_2, set4_3, at3_0, at3_1, at3_2, set3_0, set3_1, set3_2, decide_eq_true_eq, ite_true, ite_false, if_true, if_false, Bool.false_eq_true, Bool.not_eq_true', decide_eq_false_iff_not, Bool.not_true, Bool.not_false, List.foldr_cons, List.foldr_nil, Ty.has, Option.bind_some, ↓exc_whl, ↓exc_for, ↓ev_comp, ↓z_ite, ↓z_bind, ↓z_bd, ↓z_sbd, ↓z_sq, ↓z_tn, bdz_ok, bdz_exc, sbdz_ok, sbdz_exc, sqz_nx, sqz_rt, sqz_bk, sqz_ct, sqz_ex, tnz_nx, tnz_rt, tnz_bk, tnz_ct, tnz_ex, kFor_ok, runF_nil, turn_name, wipeE, Int.cast_ofNat_Int, Int.natCast_zero, Int.natCast_one, Int.reduceEq, Int.reduceLT, Int.reduceLE, Int.reduceNeg, part_nil, part_int, cutOf_tup, isi_def, items_lst, items_tup, items_fz, isAny, eq_self, decide_true, decide_false, not_true_eq_false, not_false_eq_true, ne_eq,  sizeLine_eq, List.length_cons, List.length_nil, Nat.reduceAdd, Nat.reduceLeDiff, Nat.zero_add, b9, e1, at3_1, ep, ew, eo]
  rw [cal_unf (F := T.fns[17]) rfl rfl]
  show SR.end (exs _ _ b17 [some (mv n (S.map stI)), some (tI pt), none, none] h) = _
  simp -dsimp -implicitDefEqProofs only [exs, exc, ev, islM, evs, tst, tsts, evi, M.ret_def, M.lift_some, SR.end_rt, SR.end_nx, SR.end_ex, get_zero, get_succ, Tg.set_name, Tg.set_tup, setAll, List.set_cons_zero, List.set_cons_succ, Option.map_some, Option.map_none, eq_ints, ne_ints, lt_ints, le_ints, gt_ints, ge_ints, add_ints, sub_ints, truthy_bl, truthy_int, bi_int, bi_abs, bi_max2, bi_min2, bi_len_fz, bi_len_lst, bi_len_tup, bi_repr, ix_lst, ix_tup, ix_fz, at4_0, at4_1, at4_2, at4_3, set4_0, set4_1, set4_2, set4_3, at3_0, at3_1, at3_2, set3_0, set3_1, set3_2, decide_eq_true_eq, ite_true, ite_false, if_true, if_false, Bool.false_eq_true, Bool.not_eq_true', decide_eq_false_iff_not, Bool.not_true, Bool.not_false, List.foldr_cons, List.foldr_nil, Ty.has, Option.bind_some, ↓exc_whl, ↓exc_for, ↓ev_comp, ↓z_ite, ↓z_bind, ↓z_bd, ↓z_sbd, ↓z_sq, ↓z_tn, bdz_ok, bdz_exc, sbdz_ok, sbdz_exc, sqz_nx, sqz_rt, sqz_bk, sqz_ct, sqz_ex, tnz_nx, tnz_rt, tnz_bk, tnz_ct, tnz_ex, kFor_ok, runF_nil, turn_name, wipeE, Int.cast_ofNat_Int, Int.natCast_zero, Int.natCast_one, Int.reduceEq, Int.reduceLT, Int.reduceLE, Int.reduceNeg, part_nil, part_int, cutOf_tup, isi_def, items_lst, items_tup, items_fz, isAny, eq_self, decide_true, decide_false, not_true_eq_false, not_false_eq_true, ne_eq,  sizeLine_eq, List.length_cons, List.length_nil, Nat.reduceAdd, Nat.reduceLeDiff, Nat.zero_add, b17, e2]
end Mk

set_option Elab.async false
set_option linter.all false
set_option maxRecDepth 100000
set_option maxHeartbeats 4000000
namespace Mk
open PySem Mi
/-! plain: machines of rests -/
def dot : List Int → List Int → Int
  | f :: fs, b :: bs => f * b + dot fs bs
  | _, _ => 0
def dd (F : List Int) (l : Int) : Int := dot F (digs l F.length)
theorem dd_V (F bs : List Int) (h : bits01 bs) (hl : bs.length = F.length) : dd F (Vv bs) = dot F bs := by
  unfold dd
  rw [← hl, digs_V bs h]
theorem numb_lin (c : Int) : ∀ (L : List Nat) (a b : Nat → Int), numb (L.map fun k => c * a k + b k) = c * numb (L.map a) + numb (L.map b)
  | [], a, b => by simp [numb]
  | [x], a, b => by
    simp only [List.map_cons, List.map_nil, numb]
    grind
  | x :: y :: r, a, b => by
    have ih := numb_lin c (y :: r) a b
    simp only [List.map_cons, numb] at ih ⊢
    rw [ih]
    grind
theorem numb_zero : ∀ (L : List Nat), numb (L.map fun _ => (0 : Int)) = 0
  | [] => rfl
  | [x] => rfl
  | x :: y :: r => by
    have ih := numb_zero (y :: r)
    simp only [List.map_cons, numb] at ih ⊢
    rw [ih]; rfl
theorem numb_dot (M : Nat) (hM : 1 ≤ M) : ∀ (F pt : List Int), F.length = pt.length → mny pt ≤ M → numb ((List.range M).map fun k => dot F (pt.map fun x => dg x k)) = dot F pt
  | [], [], _, _ => numb_zero _
  | f :: F, x :: pt, hl, hm => by
    have hm2 : mny pt ≤ M := by
      unfold mny at *
      simp only [List.map_cons, List.foldr_cons] at hm
      omega
    have ih := numb_dot M hM F pt (by simpa using hl) hm2
    have e : (fun k => dot (f :: F) ((x :: pt).map fun x => dg x k)) = fun k => f * dg x k + dot F (pt.map fun x => dg x k) := rfl
    rw [e, numb_lin, ih]
    have nx : numb ((List.range M).map (dg x)) = x := by
      rw [← digs_eq]
      obtain ⟨m', rfl⟩ : ∃ m', M = m' + 1 := ⟨M - 1, by omega⟩
      exact numb_digs m' x ((fits_iff hM x).mpr ((all_fit _ _ hM).mpr hm x List.mem_cons_self))
    rw [nx]
    rfl
  | [], _ :: _, hl, _ => by simp at hl
  | _ :: _, [], hl, _ => by simp at hl
/-! the states as numbers -/
section
variable (m : Nat) (F G : List Int)
def nxI (s b : Int) : Int := (s / m + s % m * dd F b) % m * m + 2 * (s % m) % m
def ouI (s b : Int) : Int := G.getD ((s / m - s % m * dd F b) % m).toNat 0
def ordN : List Nat := (1 % m) :: (List.range (m * m)).filter fun k => k ≠ 1 % m
def posN (s : Int) : Nat := (ordN m).idxOf s.toNat
def mst (n : Nat) (s : Nat) : St := ((List.range (2 ^ n)).map (fun (b : Nat) => ((posN m (nxI m F s b) : Nat) : Int)), (List.range (2 ^ n)).map fun (b : Nat) => ouI m F G s b)
def mkS (n : Nat) : List St := (ordN m).map (mst m F G n)
end
section
variable {m : Nat} {F G : List Int} {n : Nat}
theorem nx_div (hm : 0 < m) (s b : Int) : nxI m F s b / m = (s / m + s % m * dd F b) % m ∧ nxI m F s b % m = 2 * (s % m) % m := by
  unfold nxI
  have h0 : (m : Int) ≠ 0 := by omega
  have r0 := Int.emod_nonneg (2 * (s % m)) h0
  have r1 := Int.emod_lt_of_pos (2 * (s % m)) (show (0 : Int) < m by omega)
  constructor
  · rw [Int.add_comm, Int.add_mul_ediv_right _ _ h0, Int.ediv_eq_zero_of_lt r0 r1, Int.zero_add]
  · rw [Int.add_comm, Int.add_mul_emod_self_right, Int.emod_emod_of_dvd _ (Int.dvd_refl _)]
theorem nx_in (hm : 0 < m) (s b : Int) : 0 ≤ nxI m F s b ∧ nxI m F s b < m * m := by
  unfold nxI
  have h0 : (m : Int) ≠ 0 := by omega
  have hp : (0 : Int) < m := by omega
  have a0 := Int.emod_nonneg (s / m + s % m * dd F b) h0
  have a1 := Int.emod_lt_of_pos (s / m + s % m * dd F b) hp
  have r0 := Int.emod_nonneg (2 * (s % m)) h0
  have r1 := Int.emod_lt_of_pos (2 * (s % m)) hp
  have x0 := Int.mul_nonneg a0 (Int.le_of_lt hp)
  have x1 : (s / m + s % m * dd F b) % m * m ≤ (m - 1) * m := Int.mul_le_mul_of_nonneg_right (by omega) (Int.le_of_lt hp)
  have e : ((m : Int) - 1) * m = m * m - m := by grind
  rw [e] at x1
  omega
/-- what is told does not change on the way -/
theorem ou_nx (hm : 0 < m) (s b : Int) : ouI m F G (nxI m F s b) b = ouI m F G s b := by
  unfold ouI
  obtain ⟨e1, e2⟩ := nx_div (F := F) hm s b
  rw [e1, e2]
  have e : ((s / m + s % m * dd F b) % m - 2 * (s % m) % m * dd F b) % m = (s / m - s % m * dd F b) % m := by
    rw [Int.emod_def (s / m + s % m * dd F b) m, Int.emod_def (2 * (s % m)) m]
    have : s / m + s % m * dd F b - m * ((s / m + s % m * dd F b) / m) - (2 * (s % m) - m * (2 * (s % m) / m)) * dd F b = (s / m - s % m * dd F b) + m * ((2 * (s % m) / m) * dd F b - (s / m + s % m * dd F b) / m) := by grind
    rw [this, Int.add_mul_emod_self_left]
  rw [e]
/-- the whole of a word -/
def runI (m : Nat) (F G : List Int) : Int → List Int → Int
  | _, [] => 0
  | s, [l] => ouI m F G s l
  | s, l :: e :: r => runI m F G (nxI m F s l) (e :: r)
theorem runI_eq (hm : 0 < m) : ∀ (w : List Int), w ≠ [] → ∀ s : Int, runI m F G s w = G.getD ((s / m + s % m * numb (w.map (dd F))) % m).toNat 0
  | [], h, _ => absurd rfl h
  | [l], _, s => by
    simp only [runI, ouI, List.map_cons, List.map_nil, numb]
    rw [show s / (m : Int) + s % m * -dd F l = s / m - s % m * dd F l by grind]
  | l :: e :: r, _, s => by
    have ih := runI_eq hm (e :: r) (by simp) (nxI m F s l)
    obtain ⟨e1, e2⟩ := nx_div (F := F) hm s l
    rw [e1, e2] at ih
    rw [runI, ih]
    have q : ((s / m + s % m * dd F l) % m + 2 * (s % m) % m * numb ((e :: r).map (dd F))) % m = (s / m + s % m * numb ((l :: e :: r).map (dd F))) % m := by
      rw [Int.emod_def (s / m + s % m * dd F l) m, Int.emod_def (2 * (s % m)) m]
      simp only [List.map_cons, numb]
      have : ∀ N : Int, s / m + s % m * dd F l - m * ((s / m + s % m * dd F l) / m) + (2 * (s % m) - m * (2 * (s % m) / m)) * N = (s / m + s % m * (2 * N + dd F l)) + m * (-((s / m + s % m * dd F l) / m) - (2 * (s % m) / m) * N) := fun N => by grind
      rw [this, Int.add_mul_emod_self_left]
    rw [q]
/-! the order -/
theorem mem_ord (hm : 0 < m) (x : Nat) : x ∈ ordN m ↔ x < m * m := by
  unfold ordN
  have h1 : 1 % m < m * m := Nat.lt_of_lt_of_le (Nat.mod_lt _ hm) (Nat.le_mul_of_pos_left m hm)
  simp only [List.mem_cons, List.mem_filter, List.mem_range, decide_not, Bool.not_eq_true', decide_eq_false_iff_not]
  constructor
  · rintro (rfl | ⟨h, _⟩)
    · exact h1
    · exact h
  · intro h
    by_cases e : x = 1 % m
    · exact .inl e
    · exact .inr ⟨h, e⟩
theorem nodup_ord : (ordN m).Nodup := by
  unfold ordN
  rw [List.nodup_cons]
  constructor
  · simp
  · exact List.Pairwise.filter _ List.nodup_range
theorem len_ord (hm : 0 < m) : (ordN m).length = m * m := by
  have p := (List.perm_ext_iff_of_nodup nodup_ord (List.nodup_range (n := m * m))).mpr fun x => by rw [mem_ord hm, List.mem_range]
  rw [p.length_eq, List.length_range]
theorem pos_lt (hm : 0 < m) {s : Int} (h0 : 0 ≤ s) (h1 : s < m * m) : posN m s < m * m := by
  unfold posN
  rw [← len_ord hm]
  exact List.idxOf_lt_length_of_mem ((mem_ord hm _).mpr (by
    have : ((m : Int) * m) = ((m * m : Nat) : Int) := by simp
    omega))
theorem ord_pos (hm : 0 < m) {s : Int} (h0 : 0 ≤ s) (h1 : s < m * m) : (ordN m)[posN m s]'(by rw [len_ord hm]; exact pos_lt hm h0 h1) = s.toNat := List.getElem_idxOf _
theorem len_S (hm : 0 < m) : (mkS m F G n).length = m * m := by unfold mkS; rw [List.length_map, len_ord hm]
theorem S_pos (hm : 0 < m) {s : Int} (h0 : 0 ≤ s) (h1 : s < m * m) : (mkS m F G n).getD (posN m s) ([], []) = mst m F G n s.toNat := by
  have hl : posN m s < (mkS m F G n).length := by rw [len_S hm]; exact pos_lt hm h0 h1
  rw [List.getD_eq_getElem?_getD, List.getElem?_eq_getElem hl]
  simp only [mkS, List.getElem_map, ord_pos hm h0 h1, Option.getD_some]
theorem S_ok (hm : 0 < m) (hG : G.length = m) (h01 : ∀ g ∈ G, 0 ≤ g ∧ g < 2) : ∀ q ∈ mkS m F G n, okI (2 ^ n) (mkS m F G n).length q := by
  intro q hq
  unfold mkS at hq
  obtain ⟨s, hs, rfl⟩ := List.mem_map.mp hq
  rw [len_S hm]
  refine ⟨by simp [mst], by simp [mst], fun x hx => ?_, fun x hx => ?_⟩
  · obtain ⟨b, _, rfl⟩ := List.mem_map.mp hx
    have i := nx_in (F := F) hm s b
    have := pos_lt hm i.1 i.2
    omega
  · obtain ⟨b, _, rfl⟩ := List.mem_map.mp hx
    refine h01 _ (getDm ?_)
    rw [hG]
    have h0 : (m : Int) ≠ 0 := by omega
    have a0 := Int.emod_nonneg ((s : Int) / m - (s : Int) % m * dd F b) h0
    have a1 := Int.emod_lt_of_pos ((s : Int) / m - (s : Int) % m * dd F b) (show (0 : Int) < m by omega)
    omega
theorem getD_range {α : Type} (f : Nat → α) (d : α) (k j : Nat) (h : j < k) : ((List.range k).map f).getD j d = f j := by
  simp [List.getD, h]
theorem S_con (hm : 0 < m) : (mkS m F G n).all (con (mkS m F G n) (2 ^ n)) = true := by
  rw [List.all_eq_true]
  intro q hq
  have hq' := hq
  unfold mkS at hq'
  obtain ⟨s, hs, rfl⟩ := List.mem_map.mp hq'
  unfold con
  rw [List.all_eq_true]
  intro j hj
  have hj' := List.mem_range.mp hj
  unfold conj
  have i := nx_in (F := F) hm s j
  have e1 : (mst m F G n s).1.getD j 0 = ((posN m (nxI m F s j) : Nat) : Int) := getD_range _ _ _ _ hj'
  have e2 : (mst m F G n s).2.getD j 0 = ouI m F G s j := getD_range _ _ _ _ hj'
  rw [e1, e2, Int.toNat_natCast, S_pos hm i.1 i.2]
  have e3 : (mst m F G n (nxI m F s j).toNat).2.getD j 0 = ouI m F G ((nxI m F s j).toNat : Nat) j := getD_range _ _ _ _ hj'
  rw [e3, show (((nxI m F s j).toNat : Nat) : Int) = nxI m F s j by omega, ou_nx hm, decide_eq_true_eq]
theorem out_run (hm : 0 < m) : ∀ (w : List Int), (∀ x ∈ w, 0 ≤ x ∧ x < ((2 ^ n : Nat) : Int)) → ∀ s : Int, 0 ≤ s → s < m * m → outW (mkS m F G n) (posN m s) w = runI m F G s w
  | [], _, s, _, _ => rfl
  | [l], hw, s, h0, h1 => by
    have hl := hw l List.mem_cons_self
    simp only [outW, fin, runI, Int.toNat_natCast, S_pos hm h0 h1]
    have e : (mst m F G n s.toNat).2.getD l.toNat 0 = ouI m F G (s.toNat : Nat) (l.toNat : Nat) := getD_range _ _ _ _ (by omega)
    rw [e, show ((s.toNat : Nat) : Int) = s by omega, show ((l.toNat : Nat) : Int) = l by omega]
  | l :: e :: r, hw, s, h0, h1 => by
    have hl := hw l List.mem_cons_self
    have i := nx_in (F := F) hm s l
    have ih := out_run hm (e :: r) (fun x hx => hw x (List.mem_cons_of_mem _ hx)) (nxI m F s l) i.1 i.2
    rw [outW, runI, ← ih]
    simp only [stp, Int.toNat_natCast, S_pos hm h0 h1]
    have e : (mst m F G n s.toNat).1.getD l.toNat 0 = ((posN m (nxI m F (s.toNat : Nat) (l.toNat : Nat)) : Nat) : Int) := getD_range _ _ _ _ (by omega)
    rw [e, show ((s.toNat : Nat) : Int) = s by omega, show ((l.toNat : Nat) : Int) = l by omega]
/-- the machine takes what the sum tells -/
theorem made_tak (hm : 0 < m) (pt : List Int) (hF : F.length = n) (hp : pt.length = n) : outW (mkS m F G n) 0 (wrd pt (mny pt)) = G.getD ((dot F pt) % m).toNat 0 := by
  have h0 : (m : Int) ≠ 0 := by omega
  have hw : ∀ x ∈ wrd pt (mny pt), 0 ≤ x ∧ x < ((2 ^ n : Nat) : Int) := fun l hl => by
    unfold wrd at hl
    obtain ⟨j, _, rfl⟩ := List.mem_map.mp hl
    have := V_nn _ (col_01 pt j)
    rw [List.length_map, hp] at this
    have pn : (2 : Int) ^ n = ((2 ^ n : Nat) : Int) := by simp
    rw [← pn]
    exact this
  have s0 : (0 : Int) ≤ (1 % m : Nat) := by omega
  have s1 : ((1 % m : Nat) : Int) < m * m := by
    have : 1 % m < m * m := Nat.lt_of_lt_of_le (Nat.mod_lt _ hm) (Nat.le_mul_of_pos_left m hm)
    have e : ((m : Int) * m) = ((m * m : Nat) : Int) := by simp
    omega
  have p0 : posN m ((1 % m : Nat) : Int) = 0 := by
    unfold posN
    rw [Int.toNat_natCast]
    unfold ordN
    exact List.idxOf_cons_self
  have o := out_run (F := F) (G := G) hm (wrd pt (mny pt)) hw ((1 % m : Nat) : Int) s0 s1
  rw [p0] at o
  have hne : wrd pt (mny pt) ≠ [] := fun q => by
    have := wrd_len pt (mny pt)
    rw [q] at this
    unfold mny at this
    simp at this
  rw [show (0 : Int) = ((0 : Nat) : Int) from rfl, o, runI_eq hm _ hne]
  have e1 : (wrd pt (mny pt)).map (dd F) = (List.range (mny pt)).map fun k => dot F (pt.map fun x => dg x k) := by
    unfold wrd
    rw [List.map_map]
    refine List.map_congr_left fun k _ => ?_
    exact dd_V F _ (col_01 pt k) (by rw [List.length_map, hp, hF])
  rw [e1, numb_dot (mny pt) (by unfold mny; omega) F pt (by rw [hF, hp]) (Nat.le_refl _)]
  have e2 : (((1 % m : Nat) : Int) / m + ((1 % m : Nat) : Int) % m * dot F pt) % m = dot F pt % m := by
    have lt := Nat.mod_lt 1 hm
    have lt' : ((1 % m : Nat) : Int) < (m : Int) := Int.ofNat_lt.mpr lt
    have ge' : (0 : Int) ≤ ((1 % m : Nat) : Int) := Int.natCast_nonneg _
    rw [Int.ediv_eq_zero_of_lt ge' lt', Int.zero_add, Int.emod_eq_of_lt ge' lt']
    by_cases h1 : m = 1
    · subst h1; simp [Int.emod_one]
    · rw [Nat.mod_eq_of_lt (by omega)]; simp
  rw [e2]
  rfl
end
end Mk

set_option Elab.async false
set_option linter.all false
set_option maxRecDepth 100000
set_option maxHeartbeats 4000000
namespace Mk
open PySem Mi
theorem putD_new (k v : D) (ks vs : List D) (h : ∀ x ∈ ks, D.eqv x k = false) : putD k v ks vs = (ks ++ [k], vs ++ [v]) := by
  unfold putD
  rw [if_neg]
  rw [List.any_eq_true]
  rintro ⟨x, hx, e⟩
  rw [h x hx] at e; cases e
theorem eqv_int (a b : Int) : D.eqv (.int a) (.int b) = (a == b) := by simp [D.eqv]
theorem pairs_new : ∀ (P : List (Nat × Nat)) (K V : List Nat), (K ++ P.map Prod.fst).Nodup →
    pairsD false (P.map fun p => .tup [.int (p.1 : Nat), .int (p.2 : Nat)]) (K.map fun (x : Nat) => D.int (x : Int)) (V.map fun (x : Nat) => D.int (x : Int)) = some ((K ++ P.map Prod.fst).map fun (x : Nat) => D.int (x : Int), (V ++ P.map Prod.snd).map fun (x : Nat) => D.int (x : Int))
  | [], K, V, _ => by simp [pairsD]
  | p :: P, K, V, nd => by
    have nd' : ((K ++ [p.1]) ++ P.map Prod.fst).Nodup := by simpa using nd
    have ih := pairs_new P (K ++ [p.1]) (V ++ [p.2]) nd'
    have hk : ∀ x ∈ K.map (fun (x : Nat) => D.int (x : Int)), D.eqv x (.int (p.1 : Nat)) = false := fun x hx => by
      obtain ⟨y, hy, rfl⟩ := List.mem_map.mp hx
      rw [eqv_int]
      have : y ≠ p.1 := fun z => by
        subst z
        rw [List.map_cons] at nd
        have := (List.nodup_append.mp nd).2.2 p.1 hy p.1 List.mem_cons_self
        exact this rfl
      rw [beq_eq_false_iff_ne]
      omega
    rw [List.map_cons, pairsD, if_pos (by rfl), putD_new _ _ _ _ hk]
    simp only [List.map_append, List.map_cons, List.map_nil] at ih ⊢
    rw [ih]
    simp
theorem look_idx (s : Nat) : ∀ (L : List Nat) (off : Nat), s ∈ L → lookD (.int (s : Int)) (L.map fun (x : Nat) => D.int (x : Int)) ((List.range' off L.length).map fun (x : Nat) => D.int (x : Int)) = some (.int ((L.idxOf s + off : Nat) : Int))
  | [], _, h => nomatch h
  | x :: L, off, h => by
    rw [List.map_cons, List.length_cons, List.range'_succ, List.map_cons, lookD, eqv_int, List.idxOf_cons]
    by_cases e : x = s
    · subst e
      simp
    · have hs : s ∈ L := by
        rcases List.mem_cons.mp h with rfl | h
        · exact absurd rfl e
        · exact h
      have ih := look_idx s L (off + 1) hs
      rw [if_neg (by rw [beq_iff_eq]; omega), ih]
      have : (x == s) = false := by simpa using e
      rw [this]
      simp only [Option.some.injEq, D.int.injEq, cond_false]
      omega
theorem sumF (b : Int) : ∀ (F : List Int) (r : Nat), ((List.range F.length).filterMap fun i => if dg b (i + r) = 1 then some (F.getD i 0) else none).sum = dot F (digs (b / 2 ^ r) F.length)
  | [], r => rfl
  | f :: F, r => by
    rw [List.length_cons, List.range_succ_eq_map, List.filterMap_cons, List.filterMap_map, digs, dot]
    have ih := sumF b F (r + 1)
    have e : ((fun i => if dg b (i + r) = 1 then some ((f :: F).getD i 0) else none) ∘ Nat.succ) = fun i => if dg b (i + (r + 1)) = 1 then some (F.getD i 0) else none := by
      funext i
      show (if dg b (i + 1 + r) = 1 then some (F.getD i 0) else none) = _
      rw [show i + 1 + r = i + (r + 1) by omega]
    rw [e]
    have e2 : b / 2 ^ r / 2 = b / 2 ^ (r + 1) := by rw [Int.pow_succ, Int.ediv_ediv_of_nonneg (by have := p2pos r; omega)]
    rw [e2, ← ih]
    have d01 := dg_01 b r
    have ed : b / 2 ^ r % 2 = dg b r := rfl
    rw [ed, Nat.zero_add]
    by_cases c : dg b r = 1
    · rw [c]; simp
    · have c0 : dg b r = 0 := by omega
      rw [c0]; simp
theorem filt_eq (b : Int) (F : List Int) (n : Nat) : ((List.range n).filterMap fun i => if dg b i = 1 then some (D.int (F.getD i 0)) else none) = ((List.range n).filterMap fun i => if dg b i = 1 then some (F.getD i 0) else none).map D.int := by
  rw [List.map_filterMap]
  congr 1
  funext i
  split <;> rfl
/-- the sum of a letter's factors -/
theorem dsum (k : Nat) (F : List Int) (n : Nat) (hF : F.length = n) (hn : n ≤ 6) (b : Int) (a0 a1 a2 a4 a5 a6 a7 a8 a9 a10 a11 a12 a13 a14 a16 a17 a18 : Option D) (h : AH) (e1 : a1 = some (.int n)) :
    kComp (cal T (k + 1)) (ME.ix (ME.var 3) (ME.var 16)) (Tg.name 16) (MEs.cons (ME.cmp (COp.eq) (ME.bin (BOp.mod) (ME.bin (BOp.fdiv) (ME.var 15) (ME.call 15 (MEs.cons (ME.var 16) (MEs.nil)))) (ME.lit (D.int 2))) (ME.lit (D.int 1))) (MEs.nil)) [16]
      [a0, a1, a2, some (lI F), a4, a5, a6, a7, a8, a9, a10, a11, a12, a13, a14, some (.int b), a16, a17, a18] ((List.range n).map fun (i : Nat) => D.int (i : Int)) h = some (.ok (.lst (((List.range n).filterMap fun i => if dg b i = 1 then some (F.getD i 0) else none).map D.int)) h) := by
  rw [← filt_eq]
  refine comp_run (small_le (m := 6) (by rw [List.length_map, List.length_range]; omega) (by decide)) (lc_onF (f := fun (i : Nat) => D.int (i : Int)) (List.range n) fun i hi => ?_)
  have hi' := List.mem_range.mp hi
  have pw := pow_ok k i (by omega) h
  have p := p2pos i
  have d1 : divOk (2 ^ i) = true := divOk_bl (n := 8) (by omega) (by unfold Bl; rw [p2n]; exact Nat.pow_lt_pow_right (by decide) (by omega)) (by decide)
  have ef : (b.fdiv (2 ^ i)).fmod 2 = dg b i := by
    rw [Int.fdiv_eq_ediv_of_nonneg _ (by omega), fm2]; rfl
  by_cases c : dg b i = 1
  · rw [if_pos c]
    refine step_yes (h2 := h) (ρ' := [a0, a1, a2, some (lI F), a4, a5, a6, a7, a8, a9, a10, a11, a12, a13, a14, some (.int b), some (.int i), a17, a18]) rfl ?_ ?_
    · simp -dsimp -implicitDefEqProofs only [exs, exc, ev, islM, evs, tst, tsts, evi, M.ret_def, M.lift_some, SR.end_rt, SR.end_nx, SR.end_ex, get_zero, get_succ, Tg.set_name, Tg.set_tup, setAll, List.set_cons_zero, List.set_cons_succ, Option.map_some, Option.map_none, eq_ints, ne_ints, lt_ints, le_ints, gt_ints, ge_ints, add_ints, sub_ints, truthy_bl, truthy_int, bi_int, bi_abs, bi_max2, bi_min2, bi_len_fz, bi_len_lst, bi_len_tup, bi_repr, ix_lst, ix_tup, ix_fz, at4_0, at4_1, at4_2, at4_3, set4_0, set4_1, set4_2, set4_3, at3_0, at3_1, at3_2, set3_0, set3_1, set3_2, decide_eq_true_eq, ite_true, ite_false, if_true, if_false, Bool.false_eq_true, Bool.not_eq_true', decide_eq_false_iff_not, Bool.not_true, Bool.not_false, List.foldr_cons, List.foldr_nil, Ty.has, Option.bind_some, ↓exc_whl, ↓exc_for, ↓ev_comp, ↓z_ite, ↓z_bind, ↓z_bd, ↓z_sbd, ↓z_sq, ↓z_tn, bdz_ok, bdz_exc, sbdz_ok, sbdz_exc, sqz_nx, sqz_rt, sqz_bk, sqz_ct, sqz_ex, tnz_nx, tnz_rt, tnz_bk, tnz_ct, tnz_ex, kFor_ok, runF_nil, turn_name, wipeE, Int.cast_ofNat_Int, Int.natCast_zero, Int.natCast_one, Int.reduceEq, Int.reduceLT, Int.reduceLE, Int.reduceNeg, part_nil, part_int, cutOf_tup, isi_def, items_lst, items_tup, items_fz, isAny, eq_self, decide_true, decide_false, not_true_eq_false, not_false_eq_true, ne_eq,  sizeLine_eq, List.length_cons, List.length_nil, Nat.reduceAdd, Nat.reduceLeDiff, Nat.zero_add, pw, fdiv_ints d1, mod_ints (show (2 : Int) ≠ 0 by decide), ef, eq_true c]
    · simp -dsimp -implicitDefEqProofs only [exs, exc, ev, islM, evs, tst, tsts, evi, M.ret_def, M.lift_some, SR.end_rt, SR.end_nx, SR.end_ex, get_zero, get_succ, Tg.set_name, Tg.set_tup, setAll, List.set_cons_zero, List.set_cons_succ, Option.map_some, Option.map_none, eq_ints, ne_ints, lt_ints, le_ints, gt_ints, ge_ints, add_ints, sub_ints, truthy_bl, truthy_int, bi_int, bi_abs, bi_max2, bi_min2, bi_len_fz, bi_len_lst, bi_len_tup, bi_repr, ix_lst, ix_tup, ix_fz, at4_0, at4_1, at4_2, at4_3, set4_0, set4_1, set4_2, set4_3, at3_0, at3_1, at3_2, set3_0, set3_1, set3_2, decide_eq_true_eq, ite_true, ite_false, if_true, if_false, Bool.false_eq_true, Bool.not_eq_true', decide_eq_false_iff_not, Bool.not_true, Bool.not_false, List.foldr_cons, List.foldr_nil, Ty.has, Option.bind_some, ↓exc_whl, ↓exc_for, ↓ev_comp, ↓z_ite, ↓z_bind, ↓z_bd, ↓z_sbd, ↓z_sq, ↓z_tn, bdz_ok, bdz_exc, sbdz_ok, sbdz_exc, sqz_nx, sqz_rt, sqz_bk, sqz_ct, sqz_ex, tnz_nx, tnz_rt, tnz_bk, tnz_ct, tnz_ex, kFor_ok, runF_nil, turn_name, wipeE, Int.cast_ofNat_Int, Int.natCast_zero, Int.natCast_one, Int.reduceEq, Int.reduceLT, Int.reduceLE, Int.reduceNeg, part_nil, part_int, cutOf_tup, isi_def, items_lst, items_tup, items_fz, isAny, eq_self, decide_true, decide_false, not_true_eq_false, not_false_eq_true, ne_eq,  sizeLine_eq, List.length_cons, List.length_nil, Nat.reduceAdd, Nat.reduceLeDiff, Nat.zero_add, lI, at_ints (ns := F) (j := i) (by omega)]
  · rw [if_neg c]
    refine step_not (h2 := h) (ρ' := [a0, a1, a2, some (lI F), a4, a5, a6, a7, a8, a9, a10, a11, a12, a13, a14, some (.int b), some (.int i), a17, a18]) rfl ?_
    simp -dsimp -implicitDefEqProofs only [exs, exc, ev, islM, evs, tst, tsts, evi, M.ret_def, M.lift_some, SR.end_rt, SR.end_nx, SR.end_ex, get_zero, get_succ, Tg.set_name, Tg.set_tup, setAll, List.set_cons_zero, List.set_cons_succ, Option.map_some, Option.map_none, eq_ints, ne_ints, lt_ints, le_ints, gt_ints, ge_ints, add_ints, sub_ints, truthy_bl, truthy_int, bi_int, bi_abs, bi_max2, bi_min2, bi_len_fz, bi_len_lst, bi_len_tup, bi_repr, ix_lst, ix_tup, ix_fz, at4_0, at4_1, at4_2, at4_3, set4_0, set4_1, set4_2, set4_3, at3_0, at3_1, at3_2, set3_0, set3_1, set3_2, decide_eq_true_eq, ite_true, ite_false, if_true, if_false, Bool.false_eq_true, Bool.not_eq_true', decide_eq_false_iff_not, Bool.not_true, Bool.not_false, List.foldr_cons, List.foldr_nil, Ty.has, Option.bind_some, ↓exc_whl, ↓exc_for, ↓ev_comp, ↓z_ite, ↓z_bind, ↓z_bd, ↓z_sbd, ↓z_sq, ↓z_tn, bdz_ok, bdz_exc, sbdz_ok, sbdz_exc, sqz_nx, sqz_rt, sqz_bk, sqz_ct, sqz_ex, tnz_nx, tnz_rt, tnz_bk, tnz_ct, tnz_ex, kFor_ok, runF_nil, turn_name, wipeE, Int.cast_ofNat_Int, Int.natCast_zero, Int.natCast_one, Int.reduceEq, Int.reduceLT, Int.reduceLE, Int.reduceNeg, part_nil, part_int, cutOf_tup, isi_def, items_lst, items_tup, items_fz, isAny, eq_self, decide_true, decide_false, not_true_eq_false, not_false_eq_true, ne_eq,  sizeLine_eq, List.length_cons, List.length_nil, Nat.reduceAdd, Nat.reduceLeDiff, Nat.zero_add, pw, fdiv_ints d1, mod_ints (show (2 : Int) ≠ 0 by decide), ef, eq_false c]
end Mk

set_option Elab.async false
set_option linter.all false
set_option maxRecDepth 100000
set_option maxHeartbeats 4000000
namespace Mk
open PySem Mi
def oby : MSs := match b18 with
  | .cons _ (.cons _ (.cons _ (.cons _ (.cons (.for _ _ b) _)))) => b
  | _ => .nil
def iby : MSs := match oby with
  | .cons _ (.cons _ (.cons _ (.cons _ (.cons (.for _ _ b) _)))) => b
  | _ => .nil
theorem fdm {m : Nat} (hm : 0 < m) (x : Int) : x.fdiv m = x / m := Int.fdiv_eq_ediv_of_nonneg _ (by omega)
theorem fmm {m : Nat} (hm : 0 < m) (x : Int) : x.fmod m = x % m := Int.fmod_eq_emod_of_nonneg _ (by omega)
theorem bloop (k : Nat) {Gx : List XC} (m n : Nat) (hm : 0 < m) (hm2 : m < 100) (hn : n ≤ 6) (F G : List Int) (hF : F.length = n) (hG : G.length = m) (s : Int) (a0 a5 a6 a7 a8 a9 a10 a16 a18 : Option D) (h : AH) : ∀ (bs : List Nat) (c1 c2 : List Int) (x15 x17 : Option D), c1.length + bs.length ≤ 900 → c2.length + bs.length ≤ 900 →
    ∃ y15 y17, runF (cal T (k + 1)) Gx (.name 15) iby (bs.map fun (b : Nat) => D.int (b : Int)) [a0, some (.int n), some (.int m), some (lI F), some (lI G), a5, a6, a7, a8, a9, a10, some (.int (s / m)), some (.int (s % m)), some (lI c1), some (lI c2), x15, a16, x17, a18] h =
      some (.nx [a0, some (.int n), some (.int m), some (lI F), some (lI G), a5, a6, a7, a8, a9, a10, some (.int (s / m)), some (.int (s % m)), some (lI (c1 ++ bs.map fun (b : Nat) => nxI m F s b)), some (lI (c2 ++ bs.map fun (b : Nat) => ouI m F G s b)), y15, a16, y17, a18] h)
  | [], c1, c2, x15, x17, _, _ => ⟨x15, x17, by simp [runF_nil]⟩
  | b :: bs, c1, c2, x15, x17, hl1, hl2 => by
    simp only [List.length_cons] at hl1 hl2
    obtain ⟨y15, y17, e⟩ := bloop k (Gx := Gx) m n hm hm2 hn F G hF hG s a0 a5 a6 a7 a8 a9 a10 a16 a18 h bs (c1 ++ [nxI m F s b]) (c2 ++ [ouI m F G s b]) (some (.int b)) (some (.int (dd F b))) (by simp; omega) (by simp; omega)
    refine ⟨y15, y17, ?_⟩
    have h0 : (m : Int) ≠ 0 := by omega
    have hp : (0 : Int) < m := by omega
    have p0 := Int.emod_nonneg s h0
    have p1 := Int.emod_lt_of_pos s hp
    have r1 := rng1_nat n (by omega)
    have ds := dsum k F n hF hn b a0 (some (.int n)) (some (.int m)) (some (lI G)) a5 a6 a7 a8 a9 a10 (some (.int (s / m))) (some (.int (s % m))) (some (lI c1)) (some (lI c2)) a16 x17 a18 h rfl
    have sf := sumF b F 0
    simp only [Nat.add_zero, Int.pow_zero, Int.ediv_one] at sf
    rw [hF] at sf
    have sm := bi_sum (ns := (List.range n).filterMap fun i => if dg b i = 1 then some (F.getD i 0) else none) (h := h)
    rw [sf] at sm
    have ed : dot F (digs b n) = dd F b := by unfold dd; rw [hF]
    rw [ed] at sm
    have m1 : mulOk (s % m) (dd F b) = true := mulOk_l (by omega)
    have q0 := Int.emod_nonneg (s / m + s % m * dd F b) h0
    have m2 : mulOk ((s / m + s % m * dd F b) % m) m = true := mulOk_r (by omega)
    have m3 : mulOk 2 (s % m) = true := mulOk_l (by decide)
    have o0 := Int.emod_nonneg (s / m - s % m * dd F b) h0
    have o1 := Int.emod_lt_of_pos (s / m - s % m * dd F b) hp
    have ao := at_i (ns := G) o0 (by rw [hG]; exact o1)
    have ha1 : appD (.lst (c1.map D.int)) (.int (nxI m F s b)) = some (.lst ((c1 ++ [nxI m F s b]).map D.int)) := by
      rw [app_lst (by rw [List.length_map]; omega)]; simp
    have ha2 : appD (.lst (c2.map D.int)) (.int (ouI m F G s b)) = some (.lst ((c2 ++ [ouI m F G s b]).map D.int)) := by
      rw [app_lst (by rw [List.length_map]; omega)]; simp
    have en : (s / m + s % m * dd F b) % m * m + 2 * (s % m) % m = nxI m F s b := rfl
    have eo : G.getD ((s / m - s % m * dd F b) % m).toNat 0 = ouI m F G s b := rfl
    rw [eo] at ao
    rw [List.map_cons, runF_cons]
    simp only [lI] at ds e ⊢
    simp -dsimp -implicitDefEqProofs only [exs, exc, ev, islM, evs, tst, tsts, evi, M.ret_def, M.lift_some, SR.end_rt, SR.end_nx, SR.end_ex, get_zero, get_succ, Tg.set_name, Tg.set_tup, setAll, List.set_cons_zero, List.set_cons_succ, Option.map_some, Option.map_none, eq_ints, ne_ints, lt_ints, le_ints, gt_ints, ge_ints, add_ints, sub_ints, truthy_bl, truthy_int, bi_int, bi_abs, bi_max2, bi_min2, bi_len_fz, bi_len_lst, bi_len_tup, bi_repr, ix_lst, ix_tup, ix_fz, at4_0, at4_1, at4_2, at4_3, set4_0, set4_1, set4_2, set4_3, at3_0, at3_1, at3_2, set3_0, set3_1, set3_2, decide_eq_true_eq, ite_true, ite_false, if_true, if_false, Bool.false_eq_true, Bool.not_eq_true', decide_eq_false_iff_not, Bool.not_true, Bool.not_false, List.foldr_cons, List.foldr_nil, Ty.has, Option.bind_some, ↓exc_whl, ↓exc_for, ↓ev_comp, ↓z_ite, ↓z_bind, ↓z_bd, ↓z_sbd, ↓z_sq, ↓z_tn, bdz_ok, bdz_exc, sbdz_ok, sbdz_exc, sqz_nx, sqz_rt, sqz_bk, sqz_ct, sqz_ex, tnz_nx, tnz_rt, tnz_bk, tnz_ct, tnz_ex, kFor_ok, runF_nil, turn_name, wipeE, Int.cast_ofNat_Int, Int.natCast_zero, Int.natCast_one, Int.reduceEq, Int.reduceLT, Int.reduceLE, Int.reduceNeg, part_nil, part_int, cutOf_tup, isi_def, items_lst, items_tup, items_fz, isAny, eq_self, decide_true, decide_false, not_true_eq_false, not_false_eq_true, ne_eq,  sizeLine_eq, List.length_cons, List.length_nil, Nat.reduceAdd, Nat.reduceLeDiff, Nat.zero_add, iby, oby, b18, r1, ds, sm, mul_ints m1, mod_ints h0, fmm hm, mul_ints m2, mul_ints m3, en, ha1, ao, ha2]
    simp only [iby, oby, b18, lI] at e
    rw [e]
    simp [List.append_assoc]
/-- a state's row by numbers -/
def rst (m : Nat) (F G : List Int) (n : Nat) (s : Nat) : St := ((List.range (2 ^ n)).map (fun (b : Nat) => nxI m F s b), (List.range (2 ^ n)).map fun (b : Nat) => ouI m F G s b)
theorem sloop (k : Nat) {Gx : List XC} (m n : Nat) (hm : 0 < m) (hm2 : m < 100) (hn : n ≤ 6) (F G : List Int) (hF : F.length = n) (hG : G.length = m) (a0 a7 a8 a9 a10 a16 a18 : Option D) (h : AH) : ∀ (ss : List Nat) (acc : List St) (x6 x11 x12 x13 x14 x15 x17 : Option D), acc.length + ss.length ≤ 900 →
    ∃ y6 y11 y12 y13 y14 y15 y17, runF (cal T (k + 1)) Gx (.name 6) oby (ss.map fun (b : Nat) => D.int (b : Int)) [a0, some (.int n), some (.int m), some (lI F), some (lI G), some (.lst (acc.map stI)), x6, a7, a8, a9, a10, x11, x12, x13, x14, x15, a16, x17, a18] h =
      some (.nx [a0, some (.int n), some (.int m), some (lI F), some (lI G), some (.lst ((acc ++ ss.map (rst m F G n)).map stI)), y6, a7, a8, a9, a10, y11, y12, y13, y14, y15, a16, y17, a18] h)
  | [], acc, x6, x11, x12, x13, x14, x15, x17, _ => ⟨x6, x11, x12, x13, x14, x15, x17, by simp [runF_nil]⟩
  | s :: ss, acc, x6, x11, x12, x13, x14, x15, x17, hl => by
    simp only [List.length_cons] at hl
    have p64 : 2 ^ n ≤ 64 := Nat.pow_le_pow_right (n := 2) (by decide) (show n ≤ 6 by omega)
    obtain ⟨z15, z17, e1⟩ := bloop k (Gx := Gx) m n hm hm2 hn F G hF hG s a0 (some (.lst (acc.map stI))) (some (.int s)) a7 a8 a9 a10 a16 a18 h (List.range (2 ^ n)) [] [] x15 x17 (by simp; omega) (by simp; omega)
    obtain ⟨y6, y11, y12, y13, y14, y15, y17, e⟩ := sloop k (Gx := Gx) m n hm hm2 hn F G hF hG a0 a7 a8 a9 a10 a16 a18 h ss (acc ++ [rst m F G n s]) (some (.int s)) (some (.int ((s : Int) / m))) (some (.int ((s : Int) % m))) (some (lI (rst m F G n s).1)) (some (lI (rst m F G n s).2)) z15 z17 (by simp; omega)
    refine ⟨y6, y11, y12, y13, y14, y15, y17, ?_⟩
    have h0 : (m : Int) ≠ 0 := by omega
    have dm : divOk (m : Int) = true := divOk_of h0 (by omega)
    have pw := pow_ok k n (by omega) h
    have pn : (2 : Int) ^ n = ((2 ^ n : Nat) : Int) := by simp
    have r2 := rng1_nat (2 ^ n) (by omega)
    simp only [List.nil_append] at e1
    have ha : appD (.lst (acc.map stI)) (.tup [.tup (((List.range (2 ^ n)).map (fun (b : Nat) => nxI m F s b)).map D.int), .tup (((List.range (2 ^ n)).map (fun (b : Nat) => ouI m F G s b)).map D.int)]) = some (.lst ((acc ++ [rst m F G n s]).map stI)) := by
      rw [app_lst (by rw [List.length_map]; omega)]
      simp [stI, tI, rst]
    rw [List.map_cons, runF_cons]
    simp only [iby, oby, b18, lI, rst, List.map_nil] at e1 e ha ⊢
    simp -dsimp -implicitDefEqProofs only [exs, exc, ev, islM, evs, tst, tsts, evi, M.ret_def, M.lift_some, SR.end_rt, SR.end_nx, SR.end_ex, get_zero, get_succ, Tg.set_name, Tg.set_tup, setAll, List.set_cons_zero, List.set_cons_succ, Option.map_some, Option.map_none, eq_ints, ne_ints, lt_ints, le_ints, gt_ints, ge_ints, add_ints, sub_ints, truthy_bl, truthy_int, bi_int, bi_abs, bi_max2, bi_min2, bi_len_fz, bi_len_lst, bi_len_tup, bi_repr, ix_lst, ix_tup, ix_fz, at4_0, at4_1, at4_2, at4_3, set4_0, set4_1, set4_2, set4_3, at3_0, at3_1, at3_2, set3_0, set3_1, set3_2, decide_eq_true_eq, ite_true, ite_false, if_true, if_false, Bool.false_eq_true, Bool.not_eq_true', decide_eq_false_iff_not, Bool.not_true, Bool.not_false, List.foldr_cons, List.foldr_nil, Ty.has, Option.bind_some, ↓exc_whl, ↓exc_for, ↓ev_comp, ↓z_ite, ↓z_bind, ↓z_bd, ↓z_sbd, ↓z_sq, ↓z_tn, bdz_ok, bdz_exc, sbdz_ok, sbdz_exc, sqz_nx, sqz_rt, sqz_bk, sqz_ct, sqz_ex, tnz_nx, tnz_rt, tnz_bk, tnz_ct, tnz_ex, kFor_ok, runF_nil, turn_name, wipeE, Int.cast_ofNat_Int, Int.natCast_zero, Int.natCast_one, Int.reduceEq, Int.reduceLT, Int.reduceLE, Int.reduceNeg, part_nil, part_int, cutOf_tup, isi_def, items_lst, items_tup, items_fz, isAny, eq_self, decide_true, decide_false, not_true_eq_false, not_false_eq_true, ne_eq,  sizeLine_eq, List.length_cons, List.length_nil, Nat.reduceAdd, Nat.reduceLeDiff, Nat.zero_add, fdiv_ints dm, mod_ints h0, fdm hm, fmm hm, pw, pn, r2, e1, bi_tuple, ha]
    rw [e]
    simp [List.append_assoc, rst]
end Mk

set_option Elab.async false
set_option linter.all false
set_option maxRecDepth 100000
set_option maxHeartbeats 4000000
namespace Mk
open PySem Mi
structure MadeP (n m : Nat) (F G : List Int) : Prop where
  m0 : 0 < m
  m1 : m ≤ 15
  f : F.length = n
  fb : ∀ x ∈ F, 0 ≤ x ∧ x < m
  g : G.length = m
  g01 : ∀ x ∈ G, 0 ≤ x ∧ x < 2
theorem fm_filter {α β : Type} (p : α → Prop) [DecidablePred p] (f : α → β) : ∀ L : List α, L.filterMap (fun k => if p k then some (f k) else none) = (L.filter fun k => decide (p k)).map f
  | [] => rfl
  | a :: L => by
    rw [List.filterMap_cons, List.filter_cons, fm_filter p f L]
    by_cases c : p a
    · simp [c]
    · simp [c]
theorem ord_comp {C : Nat → List D → M D} (m : Nat) (hm : 0 < m) (hm2 : m ≤ 15) (a0 a1 a3 a4 a5 a6 a8 a9 a10 a11 a12 a13 a14 a15 a16 a17 a18 : Option D) (h : AH) :
    kComp C (ME.var 18) (Tg.name 18) (MEs.cons (ME.cmp (COp.ne) (ME.var 18) (ME.var 7)) (MEs.nil)) [18] [a0, a1, some (.int m), a3, a4, a5, a6, some (.int ((1 % m : Nat) : Int)), a8, a9, a10, a11, a12, a13, a14, a15, a16, a17, a18] ((List.range (m * m)).map fun (i : Nat) => D.int (i : Int)) h =
      some (.ok (.lst (((List.range (m * m)).filter fun k => k ≠ 1 % m).map fun (x : Nat) => D.int (x : Int))) h) := by
  have mm : m * m ≤ 225 := Nat.mul_le_mul hm2 hm2
  have c := comp_run (C := C) (elt := ME.var 18) (t := .name 18) (cs := (MEs.cons (ME.cmp (COp.ne) (ME.var 18) (ME.var 7)) (MEs.nil))) (own := [18]) (ρ := [a0, a1, some (.int m), a3, a4, a5, a6, some (.int ((1 % m : Nat) : Int)), a8, a9, a10, a11, a12, a13, a14, a15, a16, a17, a18]) (h := h) (small_le (m := 225) (by rw [List.length_map, List.length_range]; omega) (by decide)) (lc_onF (f := fun (i : Nat) => D.int (i : Int)) (g := fun k => if k ≠ 1 % m then some (.int (k : Int)) else none) (List.range (m * m)) fun i hi => by
    by_cases c : i = 1 % m
    · rw [if_neg (by simpa using c)]
      have c' : ((i : Nat) : Int) = ((1 % m : Nat) : Int) := by omega
      refine step_not (h2 := h) (ρ' := [a0, a1, some (.int m), a3, a4, a5, a6, some (.int ((1 % m : Nat) : Int)), a8, a9, a10, a11, a12, a13, a14, a15, a16, a17, some (.int i)]) rfl ?_
      simp -dsimp -implicitDefEqProofs only [exs, exc, ev, islM, evs, tst, tsts, evi, M.ret_def, M.lift_some, SR.end_rt, SR.end_nx, SR.end_ex, get_zero, get_succ, Tg.set_name, Tg.set_tup, setAll, List.set_cons_zero, List.set_cons_succ, Option.map_some, Option.map_none, eq_ints, ne_ints, lt_ints, le_ints, gt_ints, ge_ints, add_ints, sub_ints, truthy_bl, truthy_int, bi_int, bi_abs, bi_max2, bi_min2, bi_len_fz, bi_len_lst, bi_len_tup, bi_repr, ix_lst, ix_tup, ix_fz, at4_0, at4_1, at4_2, at4_3, set4_0, set4_1, set4_2, set4_3, at3_0, at3_1, at3_2, set3_0, set3_1, set3_2, decide_eq_true_eq, ite_true, ite_false, if_true, if_false, Bool.false_eq_true, Bool.not_eq_true', decide_eq_false_iff_not, Bool.not_true, Bool.not_false, List.foldr_cons, List.foldr_nil, Ty.has, Option.bind_some, ↓exc_whl, ↓exc_for, ↓ev_comp, ↓z_ite, ↓z_bind, ↓z_bd, ↓z_sbd, ↓z_sq, ↓z_tn, bdz_ok, bdz_exc, sbdz_ok, sbdz_exc, sqz_nx, sqz_rt, sqz_bk, sqz_ct, sqz_ex, tnz_nx, tnz_rt, tnz_bk, tnz_ct, tnz_ex, kFor_ok, runF_nil, turn_name, wipeE, Int.cast_ofNat_Int, Int.natCast_zero, Int.natCast_one, Int.reduceEq, Int.reduceLT, Int.reduceLE, Int.reduceNeg, part_nil, part_int, cutOf_tup, isi_def, items_lst, items_tup, items_fz, isAny, eq_self, decide_true, decide_false, not_true_eq_false, not_false_eq_true, ne_eq,  sizeLine_eq, List.length_cons, List.length_nil, Nat.reduceAdd, Nat.reduceLeDiff, Nat.zero_add, c', decide_true, Bool.not_true]
    · rw [if_pos c]
      have c' : ¬ ((i : Nat) : Int) = ((1 % m : Nat) : Int) := by omega
      refine step_yes (h2 := h) (ρ' := [a0, a1, some (.int m), a3, a4, a5, a6, some (.int ((1 % m : Nat) : Int)), a8, a9, a10, a11, a12, a13, a14, a15, a16, a17, some (.int i)]) rfl ?_ ?_
      · simp -dsimp -implicitDefEqProofs only [exs, exc, ev, islM, evs, tst, tsts, evi, M.ret_def, M.lift_some, SR.end_rt, SR.end_nx, SR.end_ex, get_zero, get_succ, Tg.set_name, Tg.set_tup, setAll, List.set_cons_zero, List.set_cons_succ, Option.map_some, Option.map_none, eq_ints, ne_ints, lt_ints, le_ints, gt_ints, ge_ints, add_ints, sub_ints, truthy_bl, truthy_int, bi_int, bi_abs, bi_max2, bi_min2, bi_len_fz, bi_len_lst, bi_len_tup, bi_repr, ix_lst, ix_tup, ix_fz, at4_0, at4_1, at4_2, at4_3, set4_0, set4_1, set4_2, set4_3, at3_0, at3_1, at3_2, set3_0, set3_1, set3_2, decide_eq_true_eq, ite_true, ite_false, if_true, if_false, Bool.false_eq_true, Bool.not_eq_true', decide_eq_false_iff_not, Bool.not_true, Bool.not_false, List.foldr_cons, List.foldr_nil, Ty.has, Option.bind_some, ↓exc_whl, ↓exc_for, ↓ev_comp, ↓z_ite, ↓z_bind, ↓z_bd, ↓z_sbd, ↓z_sq, ↓z_tn, bdz_ok, bdz_exc, sbdz_ok, sbdz_exc, sqz_nx, sqz_rt, sqz_bk, sqz_ct, sqz_ex, tnz_nx, tnz_rt, tnz_bk, tnz_ct, tnz_ex, kFor_ok, runF_nil, turn_name, wipeE, Int.cast_ofNat_Int, Int.natCast_zero, Int.natCast_one, Int.reduceEq, Int.reduceLT, Int.reduceLE, Int.reduceNeg, part_nil, part_int, cutOf_tup, isi_def, items_lst, items_tup, items_fz, isAny, eq_self, decide_true, decide_false, not_true_eq_false, not_false_eq_true, ne_eq,  sizeLine_eq, List.length_cons, List.length_nil, Nat.reduceAdd, Nat.reduceLeDiff, Nat.zero_add, decide_eq_false c', Bool.not_false]
      · simp -dsimp -implicitDefEqProofs only [exs, exc, ev, islM, evs, tst, tsts, evi, M.ret_def, M.lift_some, SR.end_rt, SR.end_nx, SR.end_ex, get_zero, get_succ, Tg.set_name, Tg.set_tup, setAll, List.set_cons_zero, List.set_cons_succ, Option.map_some, Option.map_none, eq_ints, ne_ints, lt_ints, le_ints, gt_ints, ge_ints, add_ints, sub_ints, truthy_bl, truthy_int, bi_int, bi_abs, bi_max2, bi_min2, bi_len_fz, bi_len_lst, bi_len_tup, bi_repr, ix_lst, ix_tup, ix_fz, at4_0, at4_1, at4_2, at4_3, set4_0, set4_1, set4_2, set4_3, at3_0, at3_1, at3_2, set3_0, set3_1, set3_2, decide_eq_true_eq, ite_true, ite_false, if_true, if_false, Bool.false_eq_true, Bool.not_eq_true', decide_eq_false_iff_not, Bool.not_true, Bool.not_false, List.foldr_cons, List.foldr_nil, Ty.has, Option.bind_some, ↓exc_whl, ↓exc_for, ↓ev_comp, ↓z_ite, ↓z_bind, ↓z_bd, ↓z_sbd, ↓z_sq, ↓z_tn, bdz_ok, bdz_exc, sbdz_ok, sbdz_exc, sqz_nx, sqz_rt, sqz_bk, sqz_ct, sqz_ex, tnz_nx, tnz_rt, tnz_bk, tnz_ct, tnz_ex, kFor_ok, runF_nil, turn_name, wipeE, Int.cast_ofNat_Int, Int.natCast_zero, Int.natCast_one, Int.reduceEq, Int.reduceLT, Int.reduceLE, Int.reduceNeg, part_nil, part_int, cutOf_tup, isi_def, items_lst, items_tup, items_fz, isAny, eq_self, decide_true, decide_false, not_true_eq_false, not_false_eq_true, ne_eq,  sizeLine_eq, List.length_cons, List.length_nil, Nat.reduceAdd, Nat.reduceLeDiff, Nat.zero_add])
  rw [c]
  rw [fm_filter (fun k => k ≠ 1 % m) fun (k : Nat) => D.int (k : Int)]
theorem dict_ord {m : Nat} (hm : 0 < m) (h : AH) : biOf .dictK [.lst ((List.range (m * m)).map fun i => .tup [.int ((ordN m).getD i 0 : Nat), .int (i : Nat)])] h = some (.ok (.dct false ((ordN m).map fun (x : Nat) => D.int (x : Int)) ((List.range (m * m)).map fun (x : Nat) => D.int (x : Int))) h) := by
  have p := pairs_new ((List.range (m * m)).map fun i => ((ordN m).getD i 0, i)) [] [] (by
    rw [List.nil_append, List.map_map]
    have : ((List.range (m * m)).map (Prod.fst ∘ fun i => ((ordN m).getD i 0, i))) = ordN m := by
      apply List.ext_getElem
      · simp [len_ord hm]
      · intro i h1 h2
        simp [List.getD, h2]
    rw [this]
    exact nodup_ord)
  rw [List.map_map] at p
  have e1 : ((List.range (m * m)).map ((fun p : Nat × Nat => D.tup [.int (p.1 : Nat), .int (p.2 : Nat)]) ∘ fun i => ((ordN m).getD i 0, i))) = (List.range (m * m)).map fun i => .tup [.int ((ordN m).getD i 0 : Nat), .int (i : Nat)] := rfl
  rw [e1] at p
  show (pairsD false _ [] []).map _ = _
  simp only [List.map_nil, List.nil_append] at p
  rw [p]
  have e2 : ((List.range (m * m)).map fun i => ((ordN m).getD i 0, i)).map Prod.fst = ordN m := by
    rw [List.map_map]
    apply List.ext_getElem
    · simp [len_ord hm]
    · intro i h1 h2
      simp [List.getD, h2]
  have e3 : ((List.range (m * m)).map fun i => ((ordN m).getD i 0, i)).map Prod.snd = List.range (m * m) := by
    rw [List.map_map]
    exact List.map_id _
  rw [e2, e3]
  rfl
theorem look_pos {m : Nat} (hm : 0 < m) {s : Int} (h0 : 0 ≤ s) (h1 : s < m * m) : lookD (.int s) ((ordN m).map fun (x : Nat) => D.int (x : Int)) ((List.range (m * m)).map fun (x : Nat) => D.int (x : Int)) = some (.int ((posN m s : Nat) : Int)) := by
  have l := look_idx s.toNat (ordN m) 0 ((mem_ord hm _).mpr (by
    have : ((m : Int) * m) = ((m * m : Nat) : Int) := by simp
    omega))
  rw [len_ord hm, ← List.range_eq_range', show ((s.toNat : Nat) : Int) = s by omega] at l
  rw [l]
  rfl
theorem ix_dct {ks vs : List D} {i : Int} {d : D} (e : lookD (.int i) ks vs = some d) : D.ix (.dct false ks vs) (.int i) = some d := by
  show (if keyOk false (.int i) = true then lookD (.int i) ks vs else none) = _
  rw [if_pos (by rfl), e]
end Mk

set_option Elab.async false
set_option linter.all false
set_option maxRecDepth 100000
set_option maxHeartbeats 4000000
namespace Mk
open PySem Mi
def madeV (n m : Nat) (F G : List Int) : D := .tup [mv n ((mkS m F G n).map stI), .tup [.int m, lI F, lI G]]
theorem made_ok (k : Nat) (h : AH) (r n : Nat) (hn : n ≤ 5) (hb : Tape h r) : ∃ (m : Nat) (F G : List Int) (h' : AH), cal T (k + 3) 18 [.ref r, .int n] h = some (.ok (madeV n m F G) h') ∧ MadeP n m F G ∧ Tape h' r := by
  rw [cal_unf (F := T.fns[18]) rfl rfl]
  show ∃ m F G h', SR.end (exs _ _ b18 [some (.ref r), some (.int n), none, none, none, none, none, none, none, none, none, none, none, none, none, none, none, none, none] h) = _ ∧ _
  obtain ⟨y, h1, e1, m1, t1⟩ := pick_ok k h r [.int 1, .int 3, .int 5, .int 7, .int 9, .int 15] hb (by simp) (by simp)
  have hm : ∃ m : Nat, y = .int (m : Int) ∧ 0 < m ∧ m ≤ 15 := by
    simp only [List.mem_cons, List.not_mem_nil, or_false] at m1
    rcases m1 with rfl | rfl | rfl | rfl | rfl | rfl
    · exact ⟨1, rfl, by decide, by decide⟩
    · exact ⟨3, rfl, by decide, by decide⟩
    · exact ⟨5, rfl, by decide, by decide⟩
    · exact ⟨7, rfl, by decide, by decide⟩
    · exact ⟨9, rfl, by decide, by decide⟩
    · exact ⟨15, rfl, by decide, by decide⟩
  obtain ⟨m, rfl, hm, hm2⟩ := hm
  have h0 : (m : Int) ≠ 0 := by omega
  have rn := rng1_nat n (by omega)
  have rm := rng1_nat m (by omega)
  have mmle : m * m ≤ 225 := Nat.mul_le_mul hm2 hm2
  have rmm := rng1_nat (m * m) (by omega)
  have emm : (m : Int) * m = ((m * m : Nat) : Int) := by simp
  have mOk : mulOk (m : Int) m = true := mulOk_l (by omega)
  obtain ⟨F, h2, eF, lF, pF, t2⟩ := lc_drawI (st := stepM (cal T (k + 2)) [16] (.name 16) .nil (ME.call 11 (MEs.cons (ME.var 0) (MEs.cons (ME.var 2) (MEs.nil)))) [some (.ref r), some (.int n), some (.int m), none, none, none, none, none, none, none, none, none, none, none, none, none, none, none, none]) (fun h => Tape h r) (fun x => 0 ≤ x ∧ x < m) ((List.range n).map fun (i : Nat) => D.int (i : Int)) (fun x hx h hb => by
    obtain ⟨i, _, rfl⟩ := List.mem_map.mp hx
    obtain ⟨x, h', e, b1, b2, t⟩ := draw_ok (k + 1) h r m hb (by omega) (Bl.mono (n := 64) (by unfold Bl; omega) (by decide))
    refine ⟨x, h', step_nil (ρ' := [some (.ref r), some (.int n), some (.int m), none, none, none, none, none, none, none, none, none, none, none, none, none, some (.int i), none, none]) rfl ?_, ⟨b1, b2⟩, t⟩
    simp -dsimp -implicitDefEqProofs only [exs, exc, ev, islM, evs, tst, tsts, evi, M.ret_def, M.lift_some, SR.end_rt, SR.end_nx, SR.end_ex, get_zero, get_succ, Tg.set_name, Tg.set_tup, setAll, List.set_cons_zero, List.set_cons_succ, Option.map_some, Option.map_none, eq_ints, ne_ints, lt_ints, le_ints, gt_ints, ge_ints, add_ints, sub_ints, truthy_bl, truthy_int, bi_int, bi_abs, bi_max2, bi_min2, bi_len_fz, bi_len_lst, bi_len_tup, bi_repr, ix_lst, ix_tup, ix_fz, at4_0, at4_1, at4_2, at4_3, set4_0, set4_1, set4_2, set4_3, at3_0, at3_1, at3_2, set3_0, set3_1, set3_2, decide_eq_true_eq, ite_true, ite_false, if_true, if_false, Bool.false_eq_true, Bool.not_eq_true', decide_eq_false_iff_not, Bool.not_true, Bool.not_false, List.foldr_cons, List.foldr_nil, Ty.has, Option.bind_some, ↓exc_whl, ↓exc_for, ↓ev_comp, ↓z_ite, ↓z_bind, ↓z_bd, ↓z_sbd, ↓z_sq, ↓z_tn, bdz_ok, bdz_exc, sbdz_ok, sbdz_exc, sqz_nx, sqz_rt, sqz_bk, sqz_ct, sqz_ex, tnz_nx, tnz_rt, tnz_bk, tnz_ct, tnz_ex, kFor_ok, runF_nil, turn_name, wipeE, Int.cast_ofNat_Int, Int.natCast_zero, Int.natCast_one, Int.reduceEq, Int.reduceLT, Int.reduceLE, Int.reduceNeg, part_nil, part_int, cutOf_tup, isi_def, items_lst, items_tup, items_fz, isAny, eq_self, decide_true, decide_false, not_true_eq_false, not_false_eq_true, ne_eq,  sizeLine_eq, List.length_cons, List.length_nil, Nat.reduceAdd, Nat.reduceLeDiff, Nat.zero_add, e]) h1 t1
  have cF := comp_run (small_le (m := 6) (by rw [List.length_map, List.length_range]; omega) (by decide)) eF
  rw [List.length_map, List.length_range] at lF
  obtain ⟨G, h3, eG, lG, pG, t3⟩ := lc_drawI (st := stepM (cal T (k + 2)) [11] (.name 11) .nil (ME.call 11 (MEs.cons (ME.var 0) (MEs.cons (ME.lit (D.int 2)) (MEs.nil)))) [some (.ref r), some (.int n), some (.int m), some (.lst (F.map D.int)), none, none, none, none, none, none, none, none, none, none, none, none, none, none, none]) (fun h => Tape h r) (fun x => 0 ≤ x ∧ x < 2) ((List.range m).map fun (i : Nat) => D.int (i : Int)) (fun x hx h hb => by
    obtain ⟨i, _, rfl⟩ := List.mem_map.mp hx
    obtain ⟨x, h', e, b1, b2, t⟩ := draw_ok (k + 1) h r 2 hb (by omega) (Bl.mono (n := 64) (by unfold Bl; decide) (by decide))
    refine ⟨x, h', step_nil (ρ' := [some (.ref r), some (.int n), some (.int m), some (.lst (F.map D.int)), none, none, none, none, none, none, none, some (.int i), none, none, none, none, none, none, none]) rfl ?_, ⟨b1, b2⟩, t⟩
    simp -dsimp -implicitDefEqProofs only [exs, exc, ev, islM, evs, tst, tsts, evi, M.ret_def, M.lift_some, SR.end_rt, SR.end_nx, SR.end_ex, get_zero, get_succ, Tg.set_name, Tg.set_tup, setAll, List.set_cons_zero, List.set_cons_succ, Option.map_some, Option.map_none, eq_ints, ne_ints, lt_ints, le_ints, gt_ints, ge_ints, add_ints, sub_ints, truthy_bl, truthy_int, bi_int, bi_abs, bi_max2, bi_min2, bi_len_fz, bi_len_lst, bi_len_tup, bi_repr, ix_lst, ix_tup, ix_fz, at4_0, at4_1, at4_2, at4_3, set4_0, set4_1, set4_2, set4_3, at3_0, at3_1, at3_2, set3_0, set3_1, set3_2, decide_eq_true_eq, ite_true, ite_false, if_true, if_false, Bool.false_eq_true, Bool.not_eq_true', decide_eq_false_iff_not, Bool.not_true, Bool.not_false, List.foldr_cons, List.foldr_nil, Ty.has, Option.bind_some, ↓exc_whl, ↓exc_for, ↓ev_comp, ↓z_ite, ↓z_bind, ↓z_bd, ↓z_sbd, ↓z_sq, ↓z_tn, bdz_ok, bdz_exc, sbdz_ok, sbdz_exc, sqz_nx, sqz_rt, sqz_bk, sqz_ct, sqz_ex, tnz_nx, tnz_rt, tnz_bk, tnz_ct, tnz_ex, kFor_ok, runF_nil, turn_name, wipeE, Int.cast_ofNat_Int, Int.natCast_zero, Int.natCast_one, Int.reduceEq, Int.reduceLT, Int.reduceLE, Int.reduceNeg, part_nil, part_int, cutOf_tup, isi_def, items_lst, items_tup, items_fz, isAny, eq_self, decide_true, decide_false, not_true_eq_false, not_false_eq_true, ne_eq,  sizeLine_eq, List.length_cons, List.length_nil, Nat.reduceAdd, Nat.reduceLeDiff, Nat.zero_add, e]) h2 t2
  have cG := comp_run (small_le (m := 15) (by rw [List.length_map, List.length_range]; omega) (by decide)) eG
  rw [List.length_map, List.length_range] at lG
  obtain ⟨y6, y11, y12, y13, y14, y15, y17, eS⟩ := sloop (k + 1) (Gx := T.xcs) m n hm (by omega) (by omega) F G lF lG (some (.ref r)) none none none none none none h3 (List.range (m * m)) [] none none none none none none none (by simp; omega)
  have oc := ord_comp (C := cal T (k + 2)) m hm hm2 (some (.ref r)) (some (.int n)) (some (lI F)) (some (lI G)) (some (.lst ((([] : List St) ++ (List.range (m * m)).map (rst m F G n)).map stI))) y6 none none none y11 y12 y13 y14 y15 none y17 none h3
  have oa : D.bop .add (.lst [.int ((1 % m : Nat) : Int)]) (.lst (((List.range (m * m)).filter fun k => k ≠ 1 % m).map fun (x : Nat) => D.int (x : Int))) = some (.lst ((ordN m).map fun (x : Nat) => D.int (x : Int))) := by
    have l1 : ((List.range (m * m)).filter fun k => decide (k ≠ 1 % m)).length ≤ 225 := Nat.le_trans (List.length_filter_le _ _) (by simpa using mmle)
    exact (if_pos (small_le (m := 226) (by simp only [List.length_cons, List.length_nil, List.length_map]; omega) (by decide))).trans rfl
  have f1 : (1 : Int).fmod m = ((1 % m : Nat) : Int) := by rw [fmm hm]; simp
  have dc := comp_run (C := cal T (k + 2)) (elt := (ME.tup (MEs.cons (ME.ix (ME.var 8) (ME.var 18)) (MEs.cons (ME.var 18) (MEs.nil))))) (t := .name 18) (cs := .nil) (own := [18]) (ρ := [some (.ref r), some (.int n), some (.int m), some (lI F), some (lI G), some (.lst ((([] : List St) ++ (List.range (m * m)).map (rst m F G n)).map stI)), y6, some (.int ((1 % m : Nat) : Int)), some (.lst ((ordN m).map fun (x : Nat) => D.int (x : Int))), none, none, y11, y12, y13, y14, y15, none, y17, none]) (h := h3) (small_le (m := 225) (by rw [List.length_map, List.length_range]; omega) (by decide)) (lc_on (f := fun (i : Nat) => D.int (i : Int)) (g := fun i => .tup [.int ((ordN m).getD i 0 : Nat), .int (i : Nat)]) (List.range (m * m)) fun i hi => by
    have hi' := List.mem_range.mp hi
    refine step_nil (ρ' := [some (.ref r), some (.int n), some (.int m), some (lI F), some (lI G), some (.lst ((([] : List St) ++ (List.range (m * m)).map (rst m F G n)).map stI)), y6, some (.int ((1 % m : Nat) : Int)), some (.lst ((ordN m).map fun (x : Nat) => D.int (x : Int))), none, none, y11, y12, y13, y14, y15, none, y17, some (.int i)]) rfl ?_
    have a := at_map (f := fun (x : Nat) => D.int (x : Int)) (L := ordN m) (i := i) (d := 0) (by rw [len_ord hm]; exact hi')
    simp -dsimp -implicitDefEqProofs only [exs, exc, ev, islM, evs, tst, tsts, evi, M.ret_def, M.lift_some, SR.end_rt, SR.end_nx, SR.end_ex, get_zero, get_succ, Tg.set_name, Tg.set_tup, setAll, List.set_cons_zero, List.set_cons_succ, Option.map_some, Option.map_none, eq_ints, ne_ints, lt_ints, le_ints, gt_ints, ge_ints, add_ints, sub_ints, truthy_bl, truthy_int, bi_int, bi_abs, bi_max2, bi_min2, bi_len_fz, bi_len_lst, bi_len_tup, bi_repr, ix_lst, ix_tup, ix_fz, at4_0, at4_1, at4_2, at4_3, set4_0, set4_1, set4_2, set4_3, at3_0, at3_1, at3_2, set3_0, set3_1, set3_2, decide_eq_true_eq, ite_true, ite_false, if_true, if_false, Bool.false_eq_true, Bool.not_eq_true', decide_eq_false_iff_not, Bool.not_true, Bool.not_false, List.foldr_cons, List.foldr_nil, Ty.has, Option.bind_some, ↓exc_whl, ↓exc_for, ↓ev_comp, ↓z_ite, ↓z_bind, ↓z_bd, ↓z_sbd, ↓z_sq, ↓z_tn, bdz_ok, bdz_exc, sbdz_ok, sbdz_exc, sqz_nx, sqz_rt, sqz_bk, sqz_ct, sqz_ex, tnz_nx, tnz_rt, tnz_bk, tnz_ct, tnz_ex, kFor_ok, runF_nil, turn_name, wipeE, Int.cast_ofNat_Int, Int.natCast_zero, Int.natCast_one, Int.reduceEq, Int.reduceLT, Int.reduceLE, Int.reduceNeg, part_nil, part_int, cutOf_tup, isi_def, items_lst, items_tup, items_fz, isAny, eq_self, decide_true, decide_false, not_true_eq_false, not_false_eq_true, ne_eq,  sizeLine_eq, List.length_cons, List.length_nil, Nat.reduceAdd, Nat.reduceLeDiff, Nat.zero_add, a])
  have dd := dict_ord hm h3
  have mc := comp_run (C := cal T (k + 2)) (elt := (ME.tup (MEs.cons (ME.bi (Bi.tuple) (MEs.cons (ME.comp (ME.ix (ME.var 9) (ME.var 15)) (Tg.name 15) (MI.seq (ME.ix (ME.ix (ME.var 5) (ME.var 18)) (ME.lit (D.int 0)))) (MEs.nil) [15]) (MEs.nil))) (MEs.cons (ME.ix (ME.ix (ME.var 5) (ME.var 18)) (ME.lit (D.int 1))) (MEs.nil))))) (t := .name 18) (cs := .nil) (own := [18]) (ρ := [some (.ref r), some (.int n), some (.int m), some (lI F), some (lI G), some (.lst ((([] : List St) ++ (List.range (m * m)).map (rst m F G n)).map stI)), y6, some (.int ((1 % m : Nat) : Int)), some (.lst ((ordN m).map fun (x : Nat) => D.int (x : Int))), some (.dct false ((ordN m).map fun (x : Nat) => D.int (x : Int)) ((List.range (m * m)).map fun (x : Nat) => D.int (x : Int))), none, y11, y12, y13, y14, y15, none, y17, none]) (h := h3) (small_le (m := 225) (by rw [List.length_map, len_ord hm]; omega) (by decide)) (lc_on (f := fun (i : Nat) => D.int (i : Int)) (g := fun i => stI (mst m F G n i)) (ordN m) fun s hs => by
    have hs' := (mem_ord hm s).mp hs
    refine step_nil (ρ' := [some (.ref r), some (.int n), some (.int m), some (lI F), some (lI G), some (.lst ((([] : List St) ++ (List.range (m * m)).map (rst m F G n)).map stI)), y6, some (.int ((1 % m : Nat) : Int)), some (.lst ((ordN m).map fun (x : Nat) => D.int (x : Int))), some (.dct false ((ordN m).map fun (x : Nat) => D.int (x : Int)) ((List.range (m * m)).map fun (x : Nat) => D.int (x : Int))), none, y11, y12, y13, y14, y15, none, y17, some (.int s)]) rfl ?_
    have a := at_map (f := stI) (L := ([] : List St) ++ (List.range (m * m)).map (rst m F G n)) (i := s) (d := ([], [])) (by simpa using hs')
    rw [List.nil_append, getD_range _ _ _ _ hs'] at a
    have p64 : 2 ^ n ≤ 64 := Nat.pow_le_pow_right (n := 2) (by decide) (show n ≤ 6 by omega)
    have c := comp_run (C := cal T (k + 2)) (elt := ME.ix (ME.var 9) (ME.var 15)) (t := .name 15) (cs := .nil) (own := [15]) (ρ := [some (.ref r), some (.int n), some (.int m), some (lI F), some (lI G), some (.lst ((([] : List St) ++ (List.range (m * m)).map (rst m F G n)).map stI)), y6, some (.int ((1 % m : Nat) : Int)), some (.lst ((ordN m).map fun (x : Nat) => D.int (x : Int))), some (.dct false ((ordN m).map fun (x : Nat) => D.int (x : Int)) ((List.range (m * m)).map fun (x : Nat) => D.int (x : Int))), none, y11, y12, y13, y14, y15, none, y17, some (.int s)]) (xs := ((List.range (2 ^ n)).map (fun (b : Nat) => nxI m F s b)).map D.int) (h := h3) (small_le (m := 64) (by rw [List.length_map, List.length_map, List.length_range]; omega) (by decide)) (by
      rw [List.map_map]
      exact lc_onI (f := D.int ∘ fun (b : Nat) => nxI m F s b) (g := fun (b : Nat) => ((posN m (nxI m F s b) : Nat) : Int)) (List.range (2 ^ n)) fun b hb => by
        have i := nx_in (F := F) hm s b
        refine step_nil (ρ' := [some (.ref r), some (.int n), some (.int m), some (lI F), some (lI G), some (.lst ((([] : List St) ++ (List.range (m * m)).map (rst m F G n)).map stI)), y6, some (.int ((1 % m : Nat) : Int)), some (.lst ((ordN m).map fun (x : Nat) => D.int (x : Int))), some (.dct false ((ordN m).map fun (x : Nat) => D.int (x : Int)) ((List.range (m * m)).map fun (x : Nat) => D.int (x : Int))), none, y11, y12, y13, y14, some (.int (nxI m F s b)), none, y17, some (.int s)]) rfl ?_
        simp -dsimp -implicitDefEqProofs only [exs, exc, ev, islM, evs, tst, tsts, evi, M.ret_def, M.lift_some, SR.end_rt, SR.end_nx, SR.end_ex, get_zero, get_succ, Tg.set_name, Tg.set_tup, setAll, List.set_cons_zero, List.set_cons_succ, Option.map_some, Option.map_none, eq_ints, ne_ints, lt_ints, le_ints, gt_ints, ge_ints, add_ints, sub_ints, truthy_bl, truthy_int, bi_int, bi_abs, bi_max2, bi_min2, bi_len_fz, bi_len_lst, bi_len_tup, bi_repr, ix_lst, ix_tup, ix_fz, at4_0, at4_1, at4_2, at4_3, set4_0, set4_1, set4_2, set4_3, at3_0, at3_1, at3_2, set3_0, set3_1, set3_2, decide_eq_true_eq, ite_true, ite_false, if_true, if_false, Bool.false_eq_true, Bool.not_eq_true', decide_eq_false_iff_not, Bool.not_true, Bool.not_false, List.foldr_cons, List.foldr_nil, Ty.has, Option.bind_some, ↓exc_whl, ↓exc_for, ↓ev_comp, ↓z_ite, ↓z_bind, ↓z_bd, ↓z_sbd, ↓z_sq, ↓z_tn, bdz_ok, bdz_exc, sbdz_ok, sbdz_exc, sqz_nx, sqz_rt, sqz_bk, sqz_ct, sqz_ex, tnz_nx, tnz_rt, tnz_bk, tnz_ct, tnz_ex, kFor_ok, runF_nil, turn_name, wipeE, Int.cast_ofNat_Int, Int.natCast_zero, Int.natCast_one, Int.reduceEq, Int.reduceLT, Int.reduceLE, Int.reduceNeg, part_nil, part_int, cutOf_tup, isi_def, items_lst, items_tup, items_fz, isAny, eq_self, decide_true, decide_false, not_true_eq_false, not_false_eq_true, ne_eq,  sizeLine_eq, List.length_cons, List.length_nil, Nat.reduceAdd, Nat.reduceLeDiff, Nat.zero_add, ix_dct (look_pos hm i.1 i.2)])
    simp only [List.nil_append] at c ⊢
    simp -dsimp -implicitDefEqProofs only [exs, exc, ev, islM, evs, tst, tsts, evi, M.ret_def, M.lift_some, SR.end_rt, SR.end_nx, SR.end_ex, get_zero, get_succ, Tg.set_name, Tg.set_tup, setAll, List.set_cons_zero, List.set_cons_succ, Option.map_some, Option.map_none, eq_ints, ne_ints, lt_ints, le_ints, gt_ints, ge_ints, add_ints, sub_ints, truthy_bl, truthy_int, bi_int, bi_abs, bi_max2, bi_min2, bi_len_fz, bi_len_lst, bi_len_tup, bi_repr, ix_lst, ix_tup, ix_fz, at4_0, at4_1, at4_2, at4_3, set4_0, set4_1, set4_2, set4_3, at3_0, at3_1, at3_2, set3_0, set3_1, set3_2, decide_eq_true_eq, ite_true, ite_false, if_true, if_false, Bool.false_eq_true, Bool.not_eq_true', decide_eq_false_iff_not, Bool.not_true, Bool.not_false, List.foldr_cons, List.foldr_nil, Ty.has, Option.bind_some, ↓exc_whl, ↓exc_for, ↓ev_comp, ↓z_ite, ↓z_bind, ↓z_bd, ↓z_sbd, ↓z_sq, ↓z_tn, bdz_ok, bdz_exc, sbdz_ok, sbdz_exc, sqz_nx, sqz_rt, sqz_bk, sqz_ct, sqz_ex, tnz_nx, tnz_rt, tnz_bk, tnz_ct, tnz_ex, kFor_ok, runF_nil, turn_name, wipeE, Int.cast_ofNat_Int, Int.natCast_zero, Int.natCast_one, Int.reduceEq, Int.reduceLT, Int.reduceLE, Int.reduceNeg, part_nil, part_int, cutOf_tup, isi_def, items_lst, items_tup, items_fz, isAny, eq_self, decide_true, decide_false, not_true_eq_false, not_false_eq_true, ne_eq,  sizeLine_eq, List.length_cons, List.length_nil, Nat.reduceAdd, Nat.reduceLeDiff, Nat.zero_add, a, stI, tI, rst, at2_0, c, bi_tuple, at2_1, mst])
  refine ⟨m, F, G, h3, ?_, ⟨hm, hm2, lF, pF, lG, pG⟩, t3⟩
  have ed : .tup ((ordN m).map fun s => stI (mst m F G n s)) = D.tup ((mkS m F G n).map stI) := by
    unfold mkS
    rw [List.map_map]
    rfl
  simp only [oby, b18, List.nil_append, List.map_nil, lI] at eS oc dc mc
  simp -dsimp -implicitDefEqProofs only [exs, exc, ev, islM, evs, tst, tsts, evi, M.ret_def, M.lift_some, SR.end_rt, SR.end_nx, SR.end_ex, get_zero, get_succ, Tg.set_name, Tg.set_tup, setAll, List.set_cons_zero, List.set_cons_succ, Option.map_some, Option.map_none, eq_ints, ne_ints, lt_ints, le_ints, gt_ints, ge_ints, add_ints, sub_ints, truthy_bl, truthy_int, bi_int, bi_abs, bi_max2, bi_min2, bi_len_fz, bi_len_lst, bi_len_tup, bi_repr, ix_lst, ix_tup, ix_fz, at4_0, at4_1, at4_2, at4_3, set4_0, set4_1, set4_2, set4_3, at3_0, at3_1, at3_2, set3_0, set3_1, set3_2, decide_eq_true_eq, ite_true, ite_false, if_true, if_false, Bool.false_eq_true, Bool.not_eq_true', decide_eq_false_iff_not, Bool.not_true, Bool.not_false, List.foldr_cons, List.foldr_nil, Ty.has, Option.bind_some, ↓exc_whl, ↓exc_for, ↓ev_comp, ↓z_ite, ↓z_bind, ↓z_bd, ↓z_sbd, ↓z_sq, ↓z_tn, bdz_ok, bdz_exc, sbdz_ok, sbdz_exc, sqz_nx, sqz_rt, sqz_bk, sqz_ct, sqz_ex, tnz_nx, tnz_rt, tnz_bk, tnz_ct, tnz_ex, kFor_ok, runF_nil, turn_name, wipeE, Int.cast_ofNat_Int, Int.natCast_zero, Int.natCast_one, Int.reduceEq, Int.reduceLT, Int.reduceLE, Int.reduceNeg, part_nil, part_int, cutOf_tup, isi_def, items_lst, items_tup, items_fz, isAny, eq_self, decide_true, decide_false, not_true_eq_false, not_false_eq_true, ne_eq,  sizeLine_eq, List.length_cons, List.length_nil, Nat.reduceAdd, Nat.reduceLeDiff, Nat.zero_add, b18, e1, rn, cF, rm, cG, mul_ints mOk, emm, rmm, List.map_nil, eS, mod_ints h0, f1, oc, oa, dc, dd, mc, bi_tuple, ed, madeV, mv, sMach, lI]
end Mk

set_option Elab.async false
set_option linter.all false
set_option maxRecDepth 100000
set_option maxHeartbeats 4000000
namespace Mk
open PySem Mi
def BadM (w : D) : Prop := ∀ (k : Nat) (h : AH), cal T (k + 3) 6 [w] h = some (.ok (.bl false) h)
theorem badm_nt (d : D) (hd : (∃ ds, d = .lst ds) ∨ d = .non ∨ ∃ i, d = .int i) : BadM d := fun k h => by
  rw [cal_unf (F := T.fns[6]) rfl rfl]
  show SR.end (exs _ _ b6 [some d, none, none, none, none, none, none] h) = _
  rcases hd with ⟨ds, rfl⟩ | rfl | ⟨i, rfl⟩ <;> simp -dsimp -implicitDefEqProofs only [exs, exc, ev, islM, evs, tst, tsts, evi, M.ret_def, M.lift_some, SR.end_rt, SR.end_nx, SR.end_ex, get_zero, get_succ, Tg.set_name, Tg.set_tup, setAll, List.set_cons_zero, List.set_cons_succ, Option.map_some, Option.map_none, eq_ints, ne_ints, lt_ints, le_ints, gt_ints, ge_ints, add_ints, sub_ints, truthy_bl, truthy_int, bi_int, bi_abs, bi_max2, bi_min2, bi_len_fz, bi_len_lst, bi_len_tup, bi_repr, ix_lst, ix_tup, ix_fz, at4_0, at4_1, at4_2, at4_3, set4_0, set4_1, set4_2, set4_3, at3_0, at3_1, at3_2, set3_0, set3_1, set3_2, decide_eq_true_eq, ite_true, ite_false, if_true, if_false, Bool.false_eq_true, Bool.not_eq_true', decide_eq_false_iff_not, Bool.not_true, Bool.not_false, List.foldr_cons, List.foldr_nil, Ty.has, Option.bind_some, ↓exc_whl, ↓exc_for, ↓ev_comp, ↓z_ite, ↓z_bind, ↓z_bd, ↓z_sbd, ↓z_sq, ↓z_tn, bdz_ok, bdz_exc, sbdz_ok, sbdz_exc, sqz_nx, sqz_rt, sqz_bk, sqz_ct, sqz_ex, tnz_nx, tnz_rt, tnz_bk, tnz_ct, tnz_ex, kFor_ok, runF_nil, turn_name, wipeE, Int.cast_ofNat_Int, Int.natCast_zero, Int.natCast_one, Int.reduceEq, Int.reduceLT, Int.reduceLE, Int.reduceNeg, part_nil, part_int, cutOf_tup, isi_def, items_lst, items_tup, items_fz, isAny, eq_self, decide_true, decide_false, not_true_eq_false, not_false_eq_true, ne_eq,  sizeLine_eq, List.length_cons, List.length_nil, Nat.reduceAdd, Nat.reduceLeDiff, Nat.zero_add, b6]
theorem badm_7 (x : D) : BadM (.tup [.str ⟨#[109, 97, 99, 104, 105, 110, 101]⟩, .int 7, x]) := fun k h => by
  rw [cal_unf (F := T.fns[6]) rfl rfl]
  show SR.end (exs _ _ b6 [some (.tup [.str ⟨#[109, 97, 99, 104, 105, 110, 101]⟩, .int 7, x]), none, none, none, none, none, none] h) = _
  simp -dsimp -implicitDefEqProofs only [exs, exc, ev, islM, evs, tst, tsts, evi, M.ret_def, M.lift_some, SR.end_rt, SR.end_nx, SR.end_ex, get_zero, get_succ, Tg.set_name, Tg.set_tup, setAll, List.set_cons_zero, List.set_cons_succ, Option.map_some, Option.map_none, eq_ints, ne_ints, lt_ints, le_ints, gt_ints, ge_ints, add_ints, sub_ints, truthy_bl, truthy_int, bi_int, bi_abs, bi_max2, bi_min2, bi_len_fz, bi_len_lst, bi_len_tup, bi_repr, ix_lst, ix_tup, ix_fz, at4_0, at4_1, at4_2, at4_3, set4_0, set4_1, set4_2, set4_3, at3_0, at3_1, at3_2, set3_0, set3_1, set3_2, decide_eq_true_eq, ite_true, ite_false, if_true, if_false, Bool.false_eq_true, Bool.not_eq_true', decide_eq_false_iff_not, Bool.not_true, Bool.not_false, List.foldr_cons, List.foldr_nil, Ty.has, Option.bind_some, ↓exc_whl, ↓exc_for, ↓ev_comp, ↓z_ite, ↓z_bind, ↓z_bd, ↓z_sbd, ↓z_sq, ↓z_tn, bdz_ok, bdz_exc, sbdz_ok, sbdz_exc, sqz_nx, sqz_rt, sqz_bk, sqz_ct, sqz_ex, tnz_nx, tnz_rt, tnz_bk, tnz_ct, tnz_ex, kFor_ok, runF_nil, turn_name, wipeE, Int.cast_ofNat_Int, Int.natCast_zero, Int.natCast_one, Int.reduceEq, Int.reduceLT, Int.reduceLE, Int.reduceNeg, part_nil, part_int, cutOf_tup, isi_def, items_lst, items_tup, items_fz, isAny, eq_self, decide_true, decide_false, not_true_eq_false, not_false_eq_true, ne_eq,  sizeLine_eq, List.length_cons, List.length_nil, Nat.reduceAdd, Nat.reduceLeDiff, Nat.zero_add, b6, at3_0, at3_1, ne_strs, decide_true, Bool.not_true, iswh]
theorem badm_l (n : Nat) (hn : n < 7) (x : List D) : BadM (.tup [.str ⟨#[109, 97, 99, 104, 105, 110, 101]⟩, .int n, .lst x]) := fun k h => by
  rw [cal_unf (F := T.fns[6]) rfl rfl]
  show SR.end (exs _ _ b6 [some (.tup [.str ⟨#[109, 97, 99, 104, 105, 110, 101]⟩, .int n, .lst x]), none, none, none, none, none, none] h) = _
  have g1 : (0 : Int) ≤ n := by omega
  have g2 : (n : Int) ≤ 6 := by omega
  simp -dsimp -implicitDefEqProofs only [exs, exc, ev, islM, evs, tst, tsts, evi, M.ret_def, M.lift_some, SR.end_rt, SR.end_nx, SR.end_ex, get_zero, get_succ, Tg.set_name, Tg.set_tup, setAll, List.set_cons_zero, List.set_cons_succ, Option.map_some, Option.map_none, eq_ints, ne_ints, lt_ints, le_ints, gt_ints, ge_ints, add_ints, sub_ints, truthy_bl, truthy_int, bi_int, bi_abs, bi_max2, bi_min2, bi_len_fz, bi_len_lst, bi_len_tup, bi_repr, ix_lst, ix_tup, ix_fz, at4_0, at4_1, at4_2, at4_3, set4_0, set4_1, set4_2, set4_3, at3_0, at3_1, at3_2, set3_0, set3_1, set3_2, decide_eq_true_eq, ite_true, ite_false, if_true, if_false, Bool.false_eq_true, Bool.not_eq_true', decide_eq_false_iff_not, Bool.not_true, Bool.not_false, List.foldr_cons, List.foldr_nil, Ty.has, Option.bind_some, ↓exc_whl, ↓exc_for, ↓ev_comp, ↓z_ite, ↓z_bind, ↓z_bd, ↓z_sbd, ↓z_sq, ↓z_tn, bdz_ok, bdz_exc, sbdz_ok, sbdz_exc, sqz_nx, sqz_rt, sqz_bk, sqz_ct, sqz_ex, tnz_nx, tnz_rt, tnz_bk, tnz_ct, tnz_ex, kFor_ok, runF_nil, turn_name, wipeE, Int.cast_ofNat_Int, Int.natCast_zero, Int.natCast_one, Int.reduceEq, Int.reduceLT, Int.reduceLE, Int.reduceNeg, part_nil, part_int, cutOf_tup, isi_def, items_lst, items_tup, items_fz, isAny, eq_self, decide_true, decide_false, not_true_eq_false, not_false_eq_true, ne_eq,  sizeLine_eq, List.length_cons, List.length_nil, Nat.reduceAdd, Nat.reduceLeDiff, Nat.zero_add, b6, at3_0, at3_1, at3_2, ne_strs, decide_true, Bool.not_true, iswh, eq_true g1, eq_true g2]
theorem badm_s (x y : D) : BadM (.tup [.str ⟨#[109, 97, 99, 104, 105, 110, 101, 115]⟩, x, y]) := fun k h => by
  rw [cal_unf (F := T.fns[6]) rfl rfl]
  show SR.end (exs _ _ b6 [some (.tup [.str ⟨#[109, 97, 99, 104, 105, 110, 101, 115]⟩, x, y]), none, none, none, none, none, none] h) = _
  have ns : ¬ ((⟨#[109, 97, 99, 104, 105, 110, 101, 115]⟩ : Str) = ⟨#[109, 97, 99, 104, 105, 110, 101]⟩) := by decide
  simp -dsimp -implicitDefEqProofs only [exs, exc, ev, islM, evs, tst, tsts, evi, M.ret_def, M.lift_some, SR.end_rt, SR.end_nx, SR.end_ex, get_zero, get_succ, Tg.set_name, Tg.set_tup, setAll, List.set_cons_zero, List.set_cons_succ, Option.map_some, Option.map_none, eq_ints, ne_ints, lt_ints, le_ints, gt_ints, ge_ints, add_ints, sub_ints, truthy_bl, truthy_int, bi_int, bi_abs, bi_max2, bi_min2, bi_len_fz, bi_len_lst, bi_len_tup, bi_repr, ix_lst, ix_tup, ix_fz, at4_0, at4_1, at4_2, at4_3, set4_0, set4_1, set4_2, set4_3, at3_0, at3_1, at3_2, set3_0, set3_1, set3_2, decide_eq_true_eq, ite_true, ite_false, if_true, if_false, Bool.false_eq_true, Bool.not_eq_true', decide_eq_false_iff_not, Bool.not_true, Bool.not_false, List.foldr_cons, List.foldr_nil, Ty.has, Option.bind_some, ↓exc_whl, ↓exc_for, ↓ev_comp, ↓z_ite, ↓z_bind, ↓z_bd, ↓z_sbd, ↓z_sq, ↓z_tn, bdz_ok, bdz_exc, sbdz_ok, sbdz_exc, sqz_nx, sqz_rt, sqz_bk, sqz_ct, sqz_ex, tnz_nx, tnz_rt, tnz_bk, tnz_ct, tnz_ex, kFor_ok, runF_nil, turn_name, wipeE, Int.cast_ofNat_Int, Int.natCast_zero, Int.natCast_one, Int.reduceEq, Int.reduceLT, Int.reduceLE, Int.reduceNeg, part_nil, part_int, cutOf_tup, isi_def, items_lst, items_tup, items_fz, isAny, eq_self, decide_true, decide_false, not_true_eq_false, not_false_eq_true, ne_eq,  sizeLine_eq, List.length_cons, List.length_nil, Nat.reduceAdd, Nat.reduceLeDiff, Nat.zero_add, b6, at3_0, ne_strs, decide_eq_false ns]
theorem badm_4 (a b c d : D) : BadM (.tup [a, b, c, d]) := fun k h => by
  rw [cal_unf (F := T.fns[6]) rfl rfl]
  show SR.end (exs _ _ b6 [some (.tup [a, b, c, d]), none, none, none, none, none, none] h) = _
  simp -dsimp -implicitDefEqProofs only [exs, exc, ev, islM, evs, tst, tsts, evi, M.ret_def, M.lift_some, SR.end_rt, SR.end_nx, SR.end_ex, get_zero, get_succ, Tg.set_name, Tg.set_tup, setAll, List.set_cons_zero, List.set_cons_succ, Option.map_some, Option.map_none, eq_ints, ne_ints, lt_ints, le_ints, gt_ints, ge_ints, add_ints, sub_ints, truthy_bl, truthy_int, bi_int, bi_abs, bi_max2, bi_min2, bi_len_fz, bi_len_lst, bi_len_tup, bi_repr, ix_lst, ix_tup, ix_fz, at4_0, at4_1, at4_2, at4_3, set4_0, set4_1, set4_2, set4_3, at3_0, at3_1, at3_2, set3_0, set3_1, set3_2, decide_eq_true_eq, ite_true, ite_false, if_true, if_false, Bool.false_eq_true, Bool.not_eq_true', decide_eq_false_iff_not, Bool.not_true, Bool.not_false, List.foldr_cons, List.foldr_nil, Ty.has, Option.bind_some, ↓exc_whl, ↓exc_for, ↓ev_comp, ↓z_ite, ↓z_bind, ↓z_bd, ↓z_sbd, ↓z_sq, ↓z_tn, bdz_ok, bdz_exc, sbdz_ok, sbdz_exc, sqz_nx, sqz_rt, sqz_bk, sqz_ct, sqz_ex, tnz_nx, tnz_rt, tnz_bk, tnz_ct, tnz_ex, kFor_ok, runF_nil, turn_name, wipeE, Int.cast_ofNat_Int, Int.natCast_zero, Int.natCast_one, Int.reduceEq, Int.reduceLT, Int.reduceLE, Int.reduceNeg, part_nil, part_int, cutOf_tup, isi_def, items_lst, items_tup, items_fz, isAny, eq_self, decide_true, decide_false, not_true_eq_false, not_false_eq_true, ne_eq,  sizeLine_eq, List.length_cons, List.length_nil, Nat.reduceAdd, Nat.reduceLeDiff, Nat.zero_add, b6]
def toD (p : St) : List D × List D := (p.1.map D.int, p.2.map D.int)
theorem toD_st (S : List St) : (S.map toD).map stD = S.map stI := by
  rw [List.map_map]; rfl
theorem toD_plain (p : St) : (∀ d ∈ (toD p).1, plainD d) ∧ ∀ d ∈ (toD p).2, plainD d :=
  ⟨fun d hd => by obtain ⟨x, _, rfl⟩ := List.mem_map.mp hd; trivial, fun d hd => by obtain ⟨x, _, rfl⟩ := List.mem_map.mp hd; trivial⟩
/-- one state spoilt -/
theorem badm_set (n : Nat) (hn : n < 7) (S : List St) (hl : S.length ≤ 2000) (hS : ∀ p ∈ S, okI (2 ^ n) S.length p) (k : Nat) (hk : k < S.length) (q : List D × List D) (hq : (∀ d ∈ q.1, plainD d) ∧ (∀ d ∈ q.2, plainD d)) (ql : q.1.length ≤ 1000 ∧ q.2.length ≤ 1000)
    (bad : (okP (2 ^ n) S.length q.1 && okP (2 ^ n) 2 q.2) = false) : BadM (mv n ((S.map stI).set k (stD q))) := fun j h => by
  have p64 : 2 ^ n ≤ 64 := Nat.pow_le_pow_right (n := 2) (by decide) (show n ≤ 6 by omega)
  have e : (S.map stI).set k (stD q) = ((S.map toD).set k q).map stD := by rw [List.map_set, toD_st]
  rw [e]
  refine mach_bad j n hn _ (by rw [List.length_set, List.length_map]; omega) (by rw [List.length_set, List.length_map]; omega) (fun p hp => ?_) ⟨q, ?_, ?_⟩ h
  · rcases List.mem_or_eq_of_mem_set hp with hp | rfl
    · obtain ⟨p, hp0, rfl⟩ := List.mem_map.mp hp
      have ok := hS p hp0
      have pl := toD_plain p
      exact ⟨pl.1, pl.2, by simp only [toD, List.length_map, ok.l1]; omega, by simp only [toD, List.length_map, ok.l2]; omega⟩
    · exact ⟨hq.1, hq.2, ql.1, ql.2⟩
  · exact List.mem_iff_getElem.mpr ⟨k, by simpa using hk, by simp⟩
  · rw [List.length_set, List.length_map]; exact bad
theorem badm_n1 (n : Nat) (hn : n < 6) (S : List St) (h1 : 1 ≤ S.length) (hl : S.length ≤ 2000) (hS : ∀ p ∈ S, okI (2 ^ n) S.length p) : BadM (mv (n + 1) (S.map stI)) := fun j h => by
  have p64 : 2 ^ n ≤ 64 := Nat.pow_le_pow_right (n := 2) (by decide) (show n ≤ 6 by omega)
  rw [← toD_st]
  refine mach_bad j (n + 1) (by omega) _ (by rw [List.length_map]; omega) (by rw [List.length_map]; omega) (fun p hp => ?_) ?_ h
  · obtain ⟨p, hp0, rfl⟩ := List.mem_map.mp hp
    have ok := hS p hp0
    have pl := toD_plain p
    exact ⟨pl.1, pl.2, by simp only [toD, List.length_map, ok.l1]; omega, by simp only [toD, List.length_map, ok.l2]; omega⟩
  · refine ⟨toD S[0], List.mem_map.mpr ⟨_, List.getElem_mem _, rfl⟩, ?_⟩
    have ok := hS S[0] (List.getElem_mem _)
    have : okP (2 ^ (n + 1)) ((S.map toD).length : Nat) (toD S[0]).1 = false := by
      unfold okP
      have : ¬ ((toD S[0]).1.length = 2 ^ (n + 1)) := by
        simp only [toD, List.length_map, ok.l1, Nat.pow_succ]
        have := Nat.two_pow_pos n
        omega
      rw [decide_eq_false this, Bool.false_and]
    rw [this, Bool.false_and]
theorem okP_mem {L : Nat} {N : Int} {ds : List D} {z : D} (hz : z ∈ ds) (b : okE N z = false) : okP L N ds = false := by
  unfold okP
  have : ds.all (okE N) = false := List.all_eq_false.mpr ⟨z, hz, by rw [b]; simp⟩
  rw [this, Bool.and_false]
theorem okP_len {L : Nat} {N : Int} {ds : List D} (h : ds.length ≠ L) : okP L N ds = false := by
  unfold okP
  rw [decide_eq_false h, Bool.false_and]
theorem set_i {ds : List D} {k : Int} {v : D} (h0 : 0 ≤ k) (h1 : k < ds.length) : setIx (.lst ds) (.int k) v = some (.lst (ds.set k.toNat v)) := by
  show (L2.ixN ds.length k).map _ = _
  have : L2.ixN ds.length k = some k.toNat := by
    unfold L2.ixN
    rw [if_pos h0, if_pos h1]
  rw [this]; rfl
/-- two states more, one that tells otherwise -/
def S4 (S : List St) (k b : Nat) : List St :=
  ((S ++ [((S.getD k ([], [])).1.set b (S.length : Int), (S.getD k ([], [])).2), S.getD k ([], [])]).set (S.length + 1) ((S.getD k ([], [])).1, (S.getD k ([], [])).2.set b (1 - (S.getD k ([], [])).2.getD b 0))).set k ((S.getD k ([], [])).1.set b ((S.length : Int) + 1), (S.getD k ([], [])).2)
theorem badm_4s (n : Nat) (hn : n < 7) (S : List St) (hl : S.length ≤ 1000) (hS : ∀ p ∈ S, okI (2 ^ n) S.length p) (k b : Nat) (hk : k < S.length) (hb : b < 2 ^ n) : BadM (mv n ((S4 S k b).map stI)) := fun j h => by
  have len : (S4 S k b).length = S.length + 2 := by simp [S4]
  obtain ⟨p, hp⟩ : ∃ p, S.getD k ([], []) = p := ⟨_, rfl⟩
  have pm : p ∈ S := by rw [← hp]; exact getDm hk
  have ok := hS p pm
  have mono : ∀ q : St, okI (2 ^ n) S.length q → okI (2 ^ n) (S.length + 2) q := fun q o => ⟨o.l1, o.l2, fun x hx => by have := o.n x hx; omega, o.o⟩
  have okb := ok.o _ (getDm (d := 0) (show b < p.2.length by rw [ok.l2]; exact hb))
  have all : ∀ q ∈ S4 S k b, okI (2 ^ n) (S4 S k b).length q := fun q hq => by
    rw [len]
    unfold S4 at hq
    rw [hp] at hq
    rcases List.mem_or_eq_of_mem_set hq with hq | rfl
    · rcases List.mem_or_eq_of_mem_set hq with hq | rfl
      · rcases List.mem_append.mp hq with hq | hq
        · exact mono q (hS q hq)
        · simp only [List.mem_cons, List.not_mem_nil, or_false] at hq
          rcases hq with rfl | rfl
          · refine ⟨by rw [List.length_set, ok.l1], ok.l2, fun x hx => ?_, ok.o⟩
            rcases List.mem_or_eq_of_mem_set hx with hx | rfl
            · have := ok.n x hx; omega
            · omega
          · exact mono _ ok
      · refine ⟨ok.l1, by rw [List.length_set, ok.l2], fun x hx => by have := ok.n x hx; omega, fun x hx => ?_⟩
        rcases List.mem_or_eq_of_mem_set hx with hx | rfl
        · exact ok.o x hx
        · omega
    · refine ⟨by rw [List.length_set, ok.l1], ok.l2, fun x hx => ?_, ok.o⟩
      rcases List.mem_or_eq_of_mem_set hx with hx | rfl
      · have := ok.n x hx; omega
      · omega
  have m := mach_int j n hn (S4 S k b) (by omega) (by omega) all h
  have c : (S4 S k b).all (con (S4 S k b) (2 ^ n)) = false := by
    rw [List.all_eq_false]
    have e1 : (S4 S k b)[k]? = some (p.1.set b ((S.length : Int) + 1), p.2) := by
      unfold S4
      rw [hp, List.getElem?_set_self (by simp; omega)]
    refine ⟨(p.1.set b ((S.length : Int) + 1), p.2), List.mem_of_getElem? e1, ?_⟩
    have : con (S4 S k b) (2 ^ n) (p.1.set b ((S.length : Int) + 1), p.2) = false := by
      unfold con
      rw [List.all_eq_false]
      refine ⟨b, List.mem_range.mpr hb, ?_⟩
      have e2 : (p.1.set b ((S.length : Int) + 1)).getD b 0 = (S.length : Int) + 1 := by
        simp [List.getD, ok.l1, hb]
      have e3 : (S4 S k b).getD ((S.length : Int) + 1).toNat ([], []) = (p.1, p.2.set b (1 - p.2.getD b 0)) := by
        rw [show ((S.length : Int) + 1).toNat = S.length + 1 by omega, List.getD_eq_getElem?_getD]
        unfold S4
        rw [hp, List.getElem?_set_ne (by omega), List.getElem?_set_self (by simp)]
        rfl
      have e4 : (p.2.set b (1 - p.2.getD b 0)).getD b 0 = 1 - p.2.getD b 0 := by
        rw [List.getD_eq_getElem?_getD, List.getElem?_set_self (by rw [ok.l2]; exact hb)]
        rfl
      simp only [conj, e2, e3, e4]
      have : ¬ (p.2.getD b 0 = 1 - p.2.getD b 0) := by omega
      rw [decide_eq_false this]
      simp
    rw [this]
    simp
  rw [c] at m
  exact m
end Mk

set_option Elab.async false
set_option linter.all false
set_option maxRecDepth 100000
set_option maxHeartbeats 4000000
namespace Mk
open PySem Mi
theorem bi_list_tup {ds : List D} {h : AH} : biOf .list [.tup ds] h = some (.ok (.lst ds) h) := rfl
theorem cutset (l : List Int) (b : Nat) (v : Int) (hb : b < l.length) : ((l.map D.int).take b ++ [.int v]) ++ (l.map D.int).drop (b + 1) = (l.set b v).map D.int := by
  rw [List.set_eq_take_append_cons_drop, if_pos hb, List.map_append, List.map_cons, List.map_take, List.map_drop, List.append_assoc]
  rfl
theorem cutp {ds : List D} (b : Nat) : cutD ds none (some (b : Int)) = ds.take b := cut_to b
theorem cutq {ds : List D} (b : Nat) : cutD ds (some ((b : Int) + 1)) none = ds.drop (b + 1) := by
  rw [show (b : Int) + 1 = ((b + 1 : Nat) : Int) by omega]
  exact cut_from (b + 1)
theorem set_n {ds : List D} {k : Nat} {v : D} (h1 : k < ds.length) : setIx (.lst ds) (.int (k : Int)) v = some (.lst (ds.set k v)) := by
  have := set_i (ds := ds) (k := (k : Int)) (v := v) (by omega) (by omega)
  rwa [Int.toNat_natCast] at this
theorem plain_cut {l : List Int} {b : Nat} {z : D} (hz : plainD z) : ∀ d ∈ ((l.map D.int).take b ++ [z]) ++ (l.map D.int).drop (b + 1), plainD d := fun d hd => by
  simp only [List.mem_append, List.mem_singleton] at hd
  rcases hd with (hd | rfl) | hd
  · obtain ⟨x, _, rfl⟩ := List.mem_map.mp (List.mem_of_mem_take hd); trivial
  · exact hz
  · obtain ⟨x, _, rfl⟩ := List.mem_map.mp (List.mem_of_mem_drop hd); trivial
theorem plain_map {l : List Int} : ∀ d ∈ l.map D.int, plainD d := fun d hd => by
  obtain ⟨x, _, rfl⟩ := List.mem_map.mp hd; trivial
theorem bent_ok (k : Nat) (h : AH) (r n : Nat) (hn : n ≤ 4) (S : List St) (h1 : 1 ≤ S.length) (hl : S.length ≤ 900) (hS : ∀ p ∈ S, okI (2 ^ n) S.length p) (hb : Tape h r) :
    ∃ (w : D) (h' : AH), cal T (k + 3) 19 [.ref r, mv n (S.map stI)] h = some (.ok w h') ∧ BadM w ∧ Tape h' r := by
  rw [cal_unf (F := T.fns[19]) rfl rfl]
  show ∃ w h', SR.end (exs _ _ b19 [some (.ref r), some (.tup [.str ⟨#[109, 97, 99, 104, 105, 110, 101]⟩, .int n, .tup (S.map stI)]), none, none, none, none, none, none, none] h) = _ ∧ _
  have p64 : 2 ^ n ≤ 16 := Nat.pow_le_pow_right (n := 2) (by decide) hn
  have pn : (2 : Int) ^ n = ((2 ^ n : Nat) : Int) := by simp
  have p1 := Nat.two_pow_pos n
  obtain ⟨kx, g1, e1, l1, u1, t1⟩ := draw_ok (k + 1) h r (S.length : Nat) hb (by omega) (Bl.mono (n := 64) (by unfold Bl; omega) (by decide))
  obtain ⟨ki, rfl⟩ : ∃ ki : Nat, kx = (ki : Int) := ⟨kx.toNat, by omega⟩
  have hk : ki < S.length := by omega
  have pw := pow_ok (k + 1) n (by omega) g1
  rw [pn] at pw
  obtain ⟨bx, g2, e2, l2, u2, t2⟩ := draw_ok (k + 1) g1 r ((2 ^ n : Nat) : Int) t1 (by omega) (Bl.mono (n := 64) (by unfold Bl; omega) (by decide))
  obtain ⟨b, rfl⟩ : ∃ b : Nat, bx = (b : Int) := ⟨bx.toNat, by omega⟩
  have hb' : b < 2 ^ n := by omega
  obtain ⟨kind, g3, e3, l3, u3, t3⟩ := draw_ok (k + 1) g2 r 8 t2 (by decide) (Bl.mono (n := 64) (by unfold Bl; decide) (by decide))
  obtain ⟨p, hp⟩ : ∃ p, S.getD ki ([], []) = p := ⟨_, rfl⟩
  have pm : p ∈ S := by rw [← hp]; exact getDm hk
  have ok := hS p pm
  have as := at_map (f := stI) (L := S) (i := ki) (d := ([], [])) hk
  rw [hp] at as
  simp only [stI, tI] at as
  have hA : (p.1.map D.int).length = 2 ^ n := by rw [List.length_map, ok.l1]
  have hB : (p.2.map D.int).length = 2 ^ n := by rw [List.length_map, ok.l2]
  have hLn : (S.map stI).length = S.length := List.length_map _
  have okA := okP_ints (2 ^ n) (S.length : Nat) p.1 ok.l1 ok.n
  have okB := okP_ints (2 ^ n) 2 p.2 ok.l2 ok.o
  have kc : kind = 0 ∨ kind = 1 ∨ kind = 2 ∨ kind = 3 ∨ kind = 4 ∨ kind = 5 ∨ kind = 6 ∨ kind = 7 := by omega
  have n1 : D.bop .add (.tup ((p.1.map D.int).take b)) (.tup [.non]) = D.bop .add (.tup ((p.1.map D.int).take b)) (.tup [.non]) := rfl
  have ad1 : ∀ (l : List D) (z : D), l.length ≤ 100 → D.bop .add (.tup (l.take b)) (.tup [z]) = some (.tup (l.take b ++ [z])) := fun l z hl => add_tups (by rw [List.length_take]; simp; omega)
  have ad2 : ∀ (l : List D) (z : D), l.length ≤ 100 → D.bop .add (.tup (l.take b ++ [z])) (.tup (l.drop (b + 1))) = some (.tup ((l.take b ++ [z]) ++ l.drop (b + 1))) := fun l z hl => add_tups (by rw [List.length_append, List.length_take, List.length_drop]; simp; omega)
  have lc : ∀ (l : List D) (z : D), l.length ≤ 100 → ((l.take b ++ [z]) ++ l.drop (b + 1)).length ≤ 1000 := fun l z hl => by simp; omega
  have a1A := fun z => ad1 (p.1.map D.int) z (by omega)
  have a2A := fun z => ad2 (p.1.map D.int) z (by omega)
  have a1B := fun z => ad1 (p.2.map D.int) z (by omega)
  have a2B := fun z => ad2 (p.2.map D.int) z (by omega)
  have sx : ∀ v, setIx (.lst (S.map stI)) (.int (ki : Int)) v = some (.lst ((S.map stI).set ki v)) := fun v => set_n (by rw [hLn]; exact hk)
  rcases kc with rfl | rfl | rfl | rfl | rfl | rfl | rfl | rfl
  · obtain ⟨z, g4, e4, m4, t4⟩ := pick_ok k g3 r [.int (S.length : Nat), .int (-1), .non, .bl true] t3 (by simp) (by simp)
    refine ⟨mv n ((S.map stI).set ki (stD (((p.1.map D.int).take b ++ [z]) ++ (p.1.map D.int).drop (b + 1), p.2.map D.int))), g4, ?_, ?_, t4⟩
    · simp -dsimp -implicitDefEqProofs only [exs, exc, ev, islM, evs, tst, tsts, evi, M.ret_def, M.lift_some, SR.end_rt, SR.end_nx, SR.end_ex, get_zero, get_succ, Tg.set_name, Tg.set_tup, setAll, List.set_cons_zero, List.set_cons_succ, Option.map_some, Option.map_none, eq_ints, ne_ints, lt_ints, le_ints, gt_ints, ge_ints, add_ints, sub_ints, truthy_bl, truthy_int, bi_int, bi_abs, bi_max2, bi_min2, bi_len_fz, bi_len_lst, bi_len_tup, bi_repr, ix_lst, ix_tup, ix_fz, at4_0, at4_1, at4_2, at4_3, set4_0, set4_1, set4_2, set4_3, at3_0, at3_1, at3_2, set3_0, set3_1, set3_2, decide_eq_true_eq, ite_true, ite_false, if_true, if_false, Bool.false_eq_true, Bool.not_eq_true', decide_eq_false_iff_not, Bool.not_true, Bool.not_false, List.foldr_cons, List.foldr_nil, Ty.has, Option.bind_some, ↓exc_whl, ↓exc_for, ↓ev_comp, ↓z_ite, ↓z_bind, ↓z_bd, ↓z_sbd, ↓z_sq, ↓z_tn, bdz_ok, bdz_exc, sbdz_ok, sbdz_exc, sqz_nx, sqz_rt, sqz_bk, sqz_ct, sqz_ex, tnz_nx, tnz_rt, tnz_bk, tnz_ct, tnz_ex, kFor_ok, runF_nil, turn_name, wipeE, Int.cast_ofNat_Int, Int.natCast_zero, Int.natCast_one, Int.reduceEq, Int.reduceLT, Int.reduceLE, Int.reduceNeg, part_nil, part_int, cutOf_tup, isi_def, items_lst, items_tup, items_fz, isAny, eq_self, decide_true, decide_false, not_true_eq_false, not_false_eq_true, ne_eq,  sizeLine_eq, List.length_cons, List.length_nil, Nat.reduceAdd, Nat.reduceLeDiff, Nat.zero_add, b19, at3_1, at3_2, bi_list_tup, hLn, e1, pw, e2, as, e3, cutp, cutq, e4, a1A, a2A, sx, bi_tuple, stD, mv, sMach]
    · simp only [List.mem_cons, List.not_mem_nil, or_false] at m4
      have hz : plainD z ∧ okE (S.length : Nat) z = false := by
        rcases m4 with rfl | rfl | rfl | rfl
        · exact ⟨trivial, by simp [okE]⟩
        · exact ⟨trivial, by simp [okE]⟩
        · exact ⟨trivial, rfl⟩
        · exact ⟨trivial, rfl⟩
      refine badm_set n (by omega) S (by omega) hS ki hk _ ⟨plain_cut hz.1, plain_map⟩ ⟨lc _ _ (by omega), by rw [hB]; omega⟩ ?_
      rw [okP_mem (z := z) (by simp) hz.2, Bool.false_and]
  · obtain ⟨z, g4, e4, m4, t4⟩ := pick_ok k g3 r [.int 2, .int (-1), .non, .bl true] t3 (by simp) (by simp)
    refine ⟨mv n ((S.map stI).set ki (stD (p.1.map D.int, ((p.2.map D.int).take b ++ [z]) ++ (p.2.map D.int).drop (b + 1)))), g4, ?_, ?_, t4⟩
    · simp -dsimp -implicitDefEqProofs only [exs, exc, ev, islM, evs, tst, tsts, evi, M.ret_def, M.lift_some, SR.end_rt, SR.end_nx, SR.end_ex, get_zero, get_succ, Tg.set_name, Tg.set_tup, setAll, List.set_cons_zero, List.set_cons_succ, Option.map_some, Option.map_none, eq_ints, ne_ints, lt_ints, le_ints, gt_ints, ge_ints, add_ints, sub_ints, truthy_bl, truthy_int, bi_int, bi_abs, bi_max2, bi_min2, bi_len_fz, bi_len_lst, bi_len_tup, bi_repr, ix_lst, ix_tup, ix_fz, at4_0, at4_1, at4_2, at4_3, set4_0, set4_1, set4_2, set4_3, at3_0, at3_1, at3_2, set3_0, set3_1, set3_2, decide_eq_true_eq, ite_true, ite_false, if_true, if_false, Bool.false_eq_true, Bool.not_eq_true', decide_eq_false_iff_not, Bool.not_true, Bool.not_false, List.foldr_cons, List.foldr_nil, Ty.has, Option.bind_some, ↓exc_whl, ↓exc_for, ↓ev_comp, ↓z_ite, ↓z_bind, ↓z_bd, ↓z_sbd, ↓z_sq, ↓z_tn, bdz_ok, bdz_exc, sbdz_ok, sbdz_exc, sqz_nx, sqz_rt, sqz_bk, sqz_ct, sqz_ex, tnz_nx, tnz_rt, tnz_bk, tnz_ct, tnz_ex, kFor_ok, runF_nil, turn_name, wipeE, Int.cast_ofNat_Int, Int.natCast_zero, Int.natCast_one, Int.reduceEq, Int.reduceLT, Int.reduceLE, Int.reduceNeg, part_nil, part_int, cutOf_tup, isi_def, items_lst, items_tup, items_fz, isAny, eq_self, decide_true, decide_false, not_true_eq_false, not_false_eq_true, ne_eq,  sizeLine_eq, List.length_cons, List.length_nil, Nat.reduceAdd, Nat.reduceLeDiff, Nat.zero_add, b19, at3_1, at3_2, bi_list_tup, hLn, e1, pw, e2, as, e3, cutp, cutq, e4, a1B, a2B, sx, bi_tuple, stD, mv, sMach]
    · simp only [List.mem_cons, List.not_mem_nil, or_false] at m4
      have hz : plainD z ∧ okE 2 z = false := by
        rcases m4 with rfl | rfl | rfl | rfl
        · exact ⟨trivial, by simp [okE]⟩
        · exact ⟨trivial, by simp [okE]⟩
        · exact ⟨trivial, rfl⟩
        · exact ⟨trivial, rfl⟩
      refine badm_set n (by omega) S (by omega) hS ki hk _ ⟨plain_map, plain_cut hz.1⟩ ⟨by rw [hA]; omega, lc _ _ (by omega)⟩ ?_
      rw [okP_mem (z := z) (ds := ((p.2.map D.int).take b ++ [z]) ++ (p.2.map D.int).drop (b + 1)) (by simp) hz.2, Bool.and_false]
  · refine ⟨mv n ((S.map stI).set ki (stD ((p.1.map D.int).drop 1, p.2.map D.int))), g3, ?_, ?_, t3⟩
    · have c1 : cutD (p.1.map D.int) (some 1) none = (p.1.map D.int).drop 1 := cut_from 1
      simp -dsimp -implicitDefEqProofs only [exs, exc, ev, islM, evs, tst, tsts, evi, M.ret_def, M.lift_some, SR.end_rt, SR.end_nx, SR.end_ex, get_zero, get_succ, Tg.set_name, Tg.set_tup, setAll, List.set_cons_zero, List.set_cons_succ, Option.map_some, Option.map_none, eq_ints, ne_ints, lt_ints, le_ints, gt_ints, ge_ints, add_ints, sub_ints, truthy_bl, truthy_int, bi_int, bi_abs, bi_max2, bi_min2, bi_len_fz, bi_len_lst, bi_len_tup, bi_repr, ix_lst, ix_tup, ix_fz, at4_0, at4_1, at4_2, at4_3, set4_0, set4_1, set4_2, set4_3, at3_0, at3_1, at3_2, set3_0, set3_1, set3_2, decide_eq_true_eq, ite_true, ite_false, if_true, if_false, Bool.false_eq_true, Bool.not_eq_true', decide_eq_false_iff_not, Bool.not_true, Bool.not_false, List.foldr_cons, List.foldr_nil, Ty.has, Option.bind_some, ↓exc_whl, ↓exc_for, ↓ev_comp, ↓z_ite, ↓z_bind, ↓z_bd, ↓z_sbd, ↓z_sq, ↓z_tn, bdz_ok, bdz_exc, sbdz_ok, sbdz_exc, sqz_nx, sqz_rt, sqz_bk, sqz_ct, sqz_ex, tnz_nx, tnz_rt, tnz_bk, tnz_ct, tnz_ex, kFor_ok, runF_nil, turn_name, wipeE, Int.cast_ofNat_Int, Int.natCast_zero, Int.natCast_one, Int.reduceEq, Int.reduceLT, Int.reduceLE, Int.reduceNeg, part_nil, part_int, cutOf_tup, isi_def, items_lst, items_tup, items_fz, isAny, eq_self, decide_true, decide_false, not_true_eq_false, not_false_eq_true, ne_eq,  sizeLine_eq, List.length_cons, List.length_nil, Nat.reduceAdd, Nat.reduceLeDiff, Nat.zero_add, b19, at3_1, at3_2, bi_list_tup, hLn, e1, pw, e2, as, e3, c1, sx, bi_tuple, stD, mv, sMach]
    · refine badm_set n (by omega) S (by omega) hS ki hk _ ⟨fun d hd => plain_map d (List.mem_of_mem_drop hd), plain_map⟩ ⟨by rw [List.length_drop, hA]; omega, by rw [hB]; omega⟩ ?_
      rw [okP_len (ds := (p.1.map D.int).drop 1) (by rw [List.length_drop, hA]; omega), Bool.false_and]
  · refine ⟨mv n ((S.map stI).set ki (stD (p.1.map D.int, p.2.map D.int ++ [.int 0]))), g3, ?_, ?_, t3⟩
    · have c1 : D.bop .add (.tup (p.2.map D.int)) (.tup [.int 0]) = some (.tup (p.2.map D.int ++ [.int 0])) := add_tups (by rw [hB]; simp; omega)
      simp -dsimp -implicitDefEqProofs only [exs, exc, ev, islM, evs, tst, tsts, evi, M.ret_def, M.lift_some, SR.end_rt, SR.end_nx, SR.end_ex, get_zero, get_succ, Tg.set_name, Tg.set_tup, setAll, List.set_cons_zero, List.set_cons_succ, Option.map_some, Option.map_none, eq_ints, ne_ints, lt_ints, le_ints, gt_ints, ge_ints, add_ints, sub_ints, truthy_bl, truthy_int, bi_int, bi_abs, bi_max2, bi_min2, bi_len_fz, bi_len_lst, bi_len_tup, bi_repr, ix_lst, ix_tup, ix_fz, at4_0, at4_1, at4_2, at4_3, set4_0, set4_1, set4_2, set4_3, at3_0, at3_1, at3_2, set3_0, set3_1, set3_2, decide_eq_true_eq, ite_true, ite_false, if_true, if_false, Bool.false_eq_true, Bool.not_eq_true', decide_eq_false_iff_not, Bool.not_true, Bool.not_false, List.foldr_cons, List.foldr_nil, Ty.has, Option.bind_some, ↓exc_whl, ↓exc_for, ↓ev_comp, ↓z_ite, ↓z_bind, ↓z_bd, ↓z_sbd, ↓z_sq, ↓z_tn, bdz_ok, bdz_exc, sbdz_ok, sbdz_exc, sqz_nx, sqz_rt, sqz_bk, sqz_ct, sqz_ex, tnz_nx, tnz_rt, tnz_bk, tnz_ct, tnz_ex, kFor_ok, runF_nil, turn_name, wipeE, Int.cast_ofNat_Int, Int.natCast_zero, Int.natCast_one, Int.reduceEq, Int.reduceLT, Int.reduceLE, Int.reduceNeg, part_nil, part_int, cutOf_tup, isi_def, items_lst, items_tup, items_fz, isAny, eq_self, decide_true, decide_false, not_true_eq_false, not_false_eq_true, ne_eq,  sizeLine_eq, List.length_cons, List.length_nil, Nat.reduceAdd, Nat.reduceLeDiff, Nat.zero_add, b19, at3_1, at3_2, bi_list_tup, hLn, e1, pw, e2, as, e3, c1, sx, bi_tuple, stD, mv, sMach]
    · refine badm_set n (by omega) S (by omega) hS ki hk _ ⟨plain_map, fun d hd => ?_⟩ ⟨by rw [hA]; omega, by rw [List.length_append, hB]; simp; omega⟩ ?_
      · rcases List.mem_append.mp hd with hd | hd
        · exact plain_map d hd
        · rw [List.mem_singleton.mp hd]; trivial
      have q := okP_len (L := 2 ^ n) (N := 2) (ds := p.2.map D.int ++ [.int 0]) (by rw [List.length_append, hB]; simp)
      simp only [q, Bool.and_false]
  · refine ⟨mv n ((S4 S ki b).map stI), g3, ?_, badm_4s n (by omega) S (by omega) hS ki b hk hb', t3⟩
    have ab := at_ints (ns := p.2) (j := b) (by rw [ok.l2]; exact hb')
    have cl : ∀ x y : D, D.bop .add (.lst (S.map stI)) (.lst [x, y]) = some (.lst (S.map stI ++ [x, y])) := fun x y => if_pos (small_le (m := 1000) (by rw [hLn]; simp; omega) (by decide))
    have ll : ∀ x y : D, ((S.map stI ++ [x, y]).length : Nat) = S.length + 2 := fun x y => by simp
    have lx : ∀ (x y : D) (i : Nat) (v : D), (((S.map stI ++ [x, y]).set i v).length : Nat) = S.length + 2 := fun x y i v => by simp
    have e5 : (((S.length + 2 : Nat) : Int) - 1) = ((S.length + 1 : Nat) : Int) := by omega
    have s1 : ∀ (x y v : D), setIx (.lst (S.map stI ++ [x, y])) (.int ((S.length + 1 : Nat) : Int)) v = some (.lst ((S.map stI ++ [x, y]).set (S.length + 1) v)) := fun x y v => set_n (by simp)
    have s2 : ∀ (x y u v : D), setIx (.lst ((S.map stI ++ [x, y]).set (S.length + 1) u)) (.int (ki : Int)) v = some (.lst (((S.map stI ++ [x, y]).set (S.length + 1) u).set ki v)) := fun x y u v => set_n (by simp; omega)
    have fi : (S4 S ki b).map stI = ((S.map stI ++ [D.tup [D.tup (((p.1.map D.int).take b ++ [D.int (S.length : Nat)]) ++ (p.1.map D.int).drop (b + 1)), D.tup (p.2.map D.int)], D.tup [D.tup (p.1.map D.int), D.tup (p.2.map D.int)]]).set (S.length + 1) (D.tup [D.tup (p.1.map D.int), D.tup (((p.2.map D.int).take b ++ [D.int (1 - p.2.getD b 0)]) ++ (p.2.map D.int).drop (b + 1))])).set ki (D.tup [D.tup (((p.1.map D.int).take b ++ [D.int ((S.length + 1 : Nat) : Int)]) ++ (p.1.map D.int).drop (b + 1)), D.tup (p.2.map D.int)]) := by
      rw [cutset p.1 b _ (by rw [ok.l1]; exact hb'), cutset p.2 b _ (by rw [ok.l2]; exact hb'), cutset p.1 b _ (by rw [ok.l1]; exact hb')]
      unfold S4
      rw [hp, List.map_set, List.map_set, List.map_append]
      rfl
    rw [fi]
    simp -dsimp -implicitDefEqProofs only [exs, exc, ev, islM, evs, tst, tsts, evi, M.ret_def, M.lift_some, SR.end_rt, SR.end_nx, SR.end_ex, get_zero, get_succ, Tg.set_name, Tg.set_tup, setAll, List.set_cons_zero, List.set_cons_succ, Option.map_some, Option.map_none, eq_ints, ne_ints, lt_ints, le_ints, gt_ints, ge_ints, add_ints, sub_ints, truthy_bl, truthy_int, bi_int, bi_abs, bi_max2, bi_min2, bi_len_fz, bi_len_lst, bi_len_tup, bi_repr, ix_lst, ix_tup, ix_fz, at4_0, at4_1, at4_2, at4_3, set4_0, set4_1, set4_2, set4_3, at3_0, at3_1, at3_2, set3_0, set3_1, set3_2, decide_eq_true_eq, ite_true, ite_false, if_true, if_false, Bool.false_eq_true, Bool.not_eq_true', decide_eq_false_iff_not, Bool.not_true, Bool.not_false, List.foldr_cons, List.foldr_nil, Ty.has, Option.bind_some, ↓exc_whl, ↓exc_for, ↓ev_comp, ↓z_ite, ↓z_bind, ↓z_bd, ↓z_sbd, ↓z_sq, ↓z_tn, bdz_ok, bdz_exc, sbdz_ok, sbdz_exc, sqz_nx, sqz_rt, sqz_bk, sqz_ct, sqz_ex, tnz_nx, tnz_rt, tnz_bk, tnz_ct, tnz_ex, kFor_ok, runF_nil, turn_name, wipeE, Int.cast_ofNat_Int, Int.natCast_zero, Int.natCast_one, Int.reduceEq, Int.reduceLT, Int.reduceLE, Int.reduceNeg, part_nil, part_int, cutOf_tup, isi_def, items_lst, items_tup, items_fz, isAny, eq_self, decide_true, decide_false, not_true_eq_false, not_false_eq_true, ne_eq,  sizeLine_eq, List.length_cons, List.length_nil, Nat.reduceAdd, Nat.reduceLeDiff, Nat.zero_add, b19, at3_1, at3_2, bi_list_tup, hLn, e1, pw, e2, as, e3, cutp, cutq, a1A, a2A, a1B, a2B, cl, ll, lx, e5, s1, s2, ab, bi_tuple, mv, sMach]
  · obtain ⟨z, g4, e4, m4, t4⟩ := pick_ok k g3 r [.tup [.str ⟨#[109, 97, 99, 104, 105, 110, 101]⟩, .int n, .tup []], .tup [.str ⟨#[109, 97, 99, 104, 105, 110, 101]⟩, .int 7, .tup (S.map stI)], .tup [.str ⟨#[109, 97, 99, 104, 105, 110, 101]⟩, .int ((n : Int) + 1), .tup (S.map stI)], .lst [.str ⟨#[109, 97, 99, 104, 105, 110, 101]⟩, .int n, .tup (S.map stI)]] t3 (by simp) (by simp)
    refine ⟨z, g4, ?_, ?_, t4⟩
    · simp -dsimp -implicitDefEqProofs only [exs, exc, ev, islM, evs, tst, tsts, evi, M.ret_def, M.lift_some, SR.end_rt, SR.end_nx, SR.end_ex, get_zero, get_succ, Tg.set_name, Tg.set_tup, setAll, List.set_cons_zero, List.set_cons_succ, Option.map_some, Option.map_none, eq_ints, ne_ints, lt_ints, le_ints, gt_ints, ge_ints, add_ints, sub_ints, truthy_bl, truthy_int, bi_int, bi_abs, bi_max2, bi_min2, bi_len_fz, bi_len_lst, bi_len_tup, bi_repr, ix_lst, ix_tup, ix_fz, at4_0, at4_1, at4_2, at4_3, set4_0, set4_1, set4_2, set4_3, at3_0, at3_1, at3_2, set3_0, set3_1, set3_2, decide_eq_true_eq, ite_true, ite_false, if_true, if_false, Bool.false_eq_true, Bool.not_eq_true', decide_eq_false_iff_not, Bool.not_true, Bool.not_false, List.foldr_cons, List.foldr_nil, Ty.has, Option.bind_some, ↓exc_whl, ↓exc_for, ↓ev_comp, ↓z_ite, ↓z_bind, ↓z_bd, ↓z_sbd, ↓z_sq, ↓z_tn, bdz_ok, bdz_exc, sbdz_ok, sbdz_exc, sqz_nx, sqz_rt, sqz_bk, sqz_ct, sqz_ex, tnz_nx, tnz_rt, tnz_bk, tnz_ct, tnz_ex, kFor_ok, runF_nil, turn_name, wipeE, Int.cast_ofNat_Int, Int.natCast_zero, Int.natCast_one, Int.reduceEq, Int.reduceLT, Int.reduceLE, Int.reduceNeg, part_nil, part_int, cutOf_tup, isi_def, items_lst, items_tup, items_fz, isAny, eq_self, decide_true, decide_false, not_true_eq_false, not_false_eq_true, ne_eq,  sizeLine_eq, List.length_cons, List.length_nil, Nat.reduceAdd, Nat.reduceLeDiff, Nat.zero_add, b19, at3_1, at3_2, bi_list_tup, hLn, e1, pw, e2, as, e3, e4]
    · simp only [List.mem_cons, List.not_mem_nil, or_false] at m4
      rcases m4 with rfl | rfl | rfl | rfl
      · exact fun k h => mach_many k n (by omega) [] (.inl rfl) h
      · exact badm_7 _
      · have e5 : (n : Int) + 1 = ((n + 1 : Nat) : Int) := by omega
        rw [e5]
        exact badm_n1 n (by omega) S h1 (by omega) hS
      · exact badm_nt _ (.inl ⟨_, rfl⟩)
  · have c1 : D.bop .add (.tup [.str ⟨#[109, 97, 99, 104, 105, 110, 101]⟩, .int n, .tup (S.map stI)]) (.tup [.int 0]) = some (.tup [.str ⟨#[109, 97, 99, 104, 105, 110, 101]⟩, .int n, .tup (S.map stI), .int 0]) := add_tups (by simp)
    have bl : ∀ {ds : List D} {h : AH}, biOf .list [.lst ds] h = some (.ok (.lst ds) h) := rfl
    obtain ⟨z, g4, e4, m4, t4⟩ := pick_ok k g3 r [.tup [.str ⟨#[109, 97, 99, 104, 105, 110, 101]⟩, .int n, .lst (S.map stI)], .tup [.str ⟨#[109, 97, 99, 104, 105, 110, 101, 115]⟩, .int n, .tup (S.map stI)], .tup [.str ⟨#[109, 97, 99, 104, 105, 110, 101]⟩, .int n, .tup (S.map stI), .int 0], .non, .int 5] t3 (by simp) (by simp)
    refine ⟨z, g4, ?_, ?_, t4⟩
    · simp -dsimp -implicitDefEqProofs only [exs, exc, ev, islM, evs, tst, tsts, evi, M.ret_def, M.lift_some, SR.end_rt, SR.end_nx, SR.end_ex, get_zero, get_succ, Tg.set_name, Tg.set_tup, setAll, List.set_cons_zero, List.set_cons_succ, Option.map_some, Option.map_none, eq_ints, ne_ints, lt_ints, le_ints, gt_ints, ge_ints, add_ints, sub_ints, truthy_bl, truthy_int, bi_int, bi_abs, bi_max2, bi_min2, bi_len_fz, bi_len_lst, bi_len_tup, bi_repr, ix_lst, ix_tup, ix_fz, at4_0, at4_1, at4_2, at4_3, set4_0, set4_1, set4_2, set4_3, at3_0, at3_1, at3_2, set3_0, set3_1, set3_2, decide_eq_true_eq, ite_true, ite_false, if_true, if_false, Bool.false_eq_true, Bool.not_eq_true', decide_eq_false_iff_not, Bool.not_true, Bool.not_false, List.foldr_cons, List.foldr_nil, Ty.has, Option.bind_some, ↓exc_whl, ↓exc_for, ↓ev_comp, ↓z_ite, ↓z_bind, ↓z_bd, ↓z_sbd, ↓z_sq, ↓z_tn, bdz_ok, bdz_exc, sbdz_ok, sbdz_exc, sqz_nx, sqz_rt, sqz_bk, sqz_ct, sqz_ex, tnz_nx, tnz_rt, tnz_bk, tnz_ct, tnz_ex, kFor_ok, runF_nil, turn_name, wipeE, Int.cast_ofNat_Int, Int.natCast_zero, Int.natCast_one, Int.reduceEq, Int.reduceLT, Int.reduceLE, Int.reduceNeg, part_nil, part_int, cutOf_tup, isi_def, items_lst, items_tup, items_fz, isAny, eq_self, decide_true, decide_false, not_true_eq_false, not_false_eq_true, ne_eq,  sizeLine_eq, List.length_cons, List.length_nil, Nat.reduceAdd, Nat.reduceLeDiff, Nat.zero_add, b19, at3_1, at3_2, bi_list_tup, hLn, e1, pw, e2, as, e3, bl, c1, e4]
    · simp only [List.mem_cons, List.not_mem_nil, or_false] at m4
      rcases m4 with rfl | rfl | rfl | rfl | rfl
      · exact badm_l n (by omega) _
      · exact badm_s _ _
      · exact badm_4 _ _ _ _
      · exact badm_nt _ (.inr (.inl rfl))
      · exact badm_nt _ (.inr (.inr ⟨_, rfl⟩))
  · have dv : divOk (S.length : Nat) = true := divOk_of (by omega) (by omega)
    have fd : (2000 : Int).fdiv (S.length : Nat) = ((2000 / S.length : Nat) : Int) := by
      rw [Int.fdiv_eq_ediv_of_nonneg _ (by omega)]
      simp
    have e5 : (1 : Int) + ((2000 / S.length : Nat) : Int) = ((1 + 2000 / S.length : Nat) : Int) := by omega
    have dl := Nat.div_le_self 2000 S.length
    have prod : S.length * (1 + 2000 / S.length) ≤ 3000 ∧ 2000 < S.length * (1 + 2000 / S.length) := by
      have a := Nat.div_add_mod 2000 S.length
      have c := Nat.mod_lt 2000 h1
      rw [Nat.mul_add, Nat.mul_one]
      omega
    have mu : D.bop .mul (.tup (S.map stI)) (.int ((1 + 2000 / S.length : Nat) : Int)) = some (.tup (repD ((1 + 2000 / S.length : Nat) : Int) (S.map stI))) := by
      refine if_pos ?_
      have cle : 1 + 2000 / S.length ≤ 2001 := by omega
      have pr := prod.1
      generalize 1 + 2000 / S.length = c at cle pr
      rw [Int.toNat_natCast, hLn]
      simp only [Bool.and_eq_true, decide_eq_true_eq]
      omega
    refine ⟨mv n (repD ((1 + 2000 / S.length : Nat) : Int) (S.map stI)), g3, ?_, fun k h => mach_many k n (by omega) _ (.inr ?_) h, t3⟩
    · simp -dsimp -implicitDefEqProofs only [exs, exc, ev, islM, evs, tst, tsts, evi, M.ret_def, M.lift_some, SR.end_rt, SR.end_nx, SR.end_ex, get_zero, get_succ, Tg.set_name, Tg.set_tup, setAll, List.set_cons_zero, List.set_cons_succ, Option.map_some, Option.map_none, eq_ints, ne_ints, lt_ints, le_ints, gt_ints, ge_ints, add_ints, sub_ints, truthy_bl, truthy_int, bi_int, bi_abs, bi_max2, bi_min2, bi_len_fz, bi_len_lst, bi_len_tup, bi_repr, ix_lst, ix_tup, ix_fz, at4_0, at4_1, at4_2, at4_3, set4_0, set4_1, set4_2, set4_3, at3_0, at3_1, at3_2, set3_0, set3_1, set3_2, decide_eq_true_eq, ite_true, ite_false, if_true, if_false, Bool.false_eq_true, Bool.not_eq_true', decide_eq_false_iff_not, Bool.not_true, Bool.not_false, List.foldr_cons, List.foldr_nil, Ty.has, Option.bind_some, ↓exc_whl, ↓exc_for, ↓ev_comp, ↓z_ite, ↓z_bind, ↓z_bd, ↓z_sbd, ↓z_sq, ↓z_tn, bdz_ok, bdz_exc, sbdz_ok, sbdz_exc, sqz_nx, sqz_rt, sqz_bk, sqz_ct, sqz_ex, tnz_nx, tnz_rt, tnz_bk, tnz_ct, tnz_ex, kFor_ok, runF_nil, turn_name, wipeE, Int.cast_ofNat_Int, Int.natCast_zero, Int.natCast_one, Int.reduceEq, Int.reduceLT, Int.reduceLE, Int.reduceNeg, part_nil, part_int, cutOf_tup, isi_def, items_lst, items_tup, items_fz, isAny, eq_self, decide_true, decide_false, not_true_eq_false, not_false_eq_true, ne_eq,  sizeLine_eq, List.length_cons, List.length_nil, Nat.reduceAdd, Nat.reduceLeDiff, Nat.zero_add, b19, at3_1, at3_2, bi_list_tup, hLn, e1, pw, e2, as, e3, fdiv_ints dv, fd, e5, mu, mv, sMach]
    · unfold repD
      rw [Int.toNat_natCast, PyProof.Rows.lm_len_rep_flat, hLn, Nat.mul_comm]
      exact prod.2
end Mk

set_option Elab.async false
set_option linter.all false
set_option maxRecDepth 100000
set_option maxHeartbeats 4000000
namespace Mk
open PySem Mi
def lP : MSs := (MSs.cons (MS.asg (Tg.name 12) (ME.call 16 (MEs.cons (ME.var 1) (MEs.cons (ME.var 3) (MEs.cons (ME.lit (D.bl true)) (MEs.nil)))))) (MSs.cons (MS.asg (Tg.name 13) (ME.cmp (COp.eq) (ME.ix (ME.var 11) (ME.bin (BOp.mod) (ME.bi (Bi.sum) (MEs.cons (ME.comp (ME.bin (BOp.mul) (ME.ix (ME.var 10) (ME.var 14)) (ME.ix (ME.var 12) (ME.var 14))) (Tg.name 14) (MI.rng1 (ME.var 3)) (MEs.nil) [14]) (MEs.nil))) (ME.var 9))) (ME.lit (D.int 1)))) (MSs.cons (MS.ife (ME.not (ME.call 13 (MEs.cons (ME.call 17 (MEs.cons (ME.var 7) (MEs.cons (ME.var 12) (MEs.nil)))) (MEs.cons (ME.var 13) (MEs.nil))))) (MSs.cons (MS.ret (ME.lit (D.bl false))) (MSs.nil)) (MSs.nil)) MSs.nil)))
def lC : MSs := (MSs.cons (MS.asg (Tg.name 5) (ME.call 19 (MEs.cons (ME.var 1) (MEs.cons (ME.var 7) (MEs.nil))))) (MSs.cons (MS.ife (ME.or (ME.not (ME.call 13 (MEs.cons (ME.call 6 (MEs.cons (ME.var 5) (MEs.nil))) (MEs.cons (ME.lit (D.bl false)) (MEs.nil))))) (ME.not (ME.call 13 (MEs.cons (ME.call 17 (MEs.cons (ME.var 5) (MEs.cons (ME.bin (BOp.mul) (ME.tup (MEs.cons (ME.lit (D.int 0)) (MEs.nil))) (ME.var 3)) (MEs.nil)))) (MEs.cons (ME.lit (D.int 0)) (MEs.nil)))))) (MSs.cons (MS.ret (ME.lit (D.bl false))) (MSs.nil)) (MSs.nil)) (MSs.cons (MS.asg (Tg.name 6) (ME.call 12 (MEs.cons (ME.var 1) (MEs.cons (ME.lst (MEs.cons (ME.bin (BOp.mul) (ME.tup (MEs.cons (ME.lit (D.int 0)) (MEs.nil))) (ME.bin (BOp.add) (ME.var 3) (ME.lit (D.int 1)))) (MEs.cons (ME.bin (BOp.mul) (ME.lst (MEs.cons (ME.lit (D.int 0)) (MEs.nil))) (ME.var 3)) (MEs.cons (ME.lit (D.non)) (MEs.cons (ME.ife (ME.cmp (COp.gt) (ME.var 3) (ME.lit (D.int 0))) (ME.bin (BOp.add) (ME.tup (MEs.cons (ME.lit (D.bl true)) (MEs.nil))) (ME.bin (BOp.mul) (ME.tup (MEs.cons (ME.lit (D.int 0)) (MEs.nil))) (ME.bin (BOp.sub) (ME.var 3) (ME.lit (D.int 1))))) (ME.lit (D.int 5))) (MEs.nil)))))) (MEs.nil))))) (MSs.cons (MS.ife (ME.cmp (COp.ne) (ME.call 17 (MEs.cons (ME.var 7) (MEs.cons (ME.var 6) (MEs.nil)))) (ME.lit (D.str { cps := #[112, 111, 105, 110, 116] }))) (MSs.cons (MS.ret (ME.lit (D.bl false))) (MSs.nil)) (MSs.nil)) MSs.nil))))
def lB : MSs := (MSs.cons (MS.for (Tg.name 4) (MI.rng1 (ME.lit (D.int 6))) lP) lC)
def lA : MSs := (MSs.cons (MS.asg (Tg.name 3) (ME.call 11 (MEs.cons (ME.var 1) (MEs.cons (ME.lit (D.int 5)) (MEs.nil))))) (MSs.cons (MS.asg (Tg.tup [7, 8]) (ME.call 18 (MEs.cons (ME.var 1) (MEs.cons (ME.var 3) (MEs.nil))))) (MSs.cons (MS.asg (Tg.tup [9, 10, 11]) (ME.var 8)) (MSs.cons (MS.ife (ME.not (ME.call 13 (MEs.cons (ME.call 6 (MEs.cons (ME.var 7) (MEs.nil))) (MEs.cons (ME.lit (D.bl true)) (MEs.nil))))) (MSs.cons (MS.ret (ME.lit (D.bl false))) (MSs.nil)) (MSs.nil)) lB))))
theorem ne_point : D.cop .ne (.str sPoint) (.str ⟨#[112, 111, 105, 110, 116]⟩) = some false := rfl
theorem is_bl_non {b : Bool} : D.cop .is (.bl b) .non = some false := rfl
theorem eq_bls {b : Bool} : D.cop .eq (.bl b) (.bl b) = some true := by cases b <;> rfl
theorem same_bl (k : Nat) (b : Bool) (h : AH) : cal T (k + 1) 13 [.bl b, .bl b] h = some (.ok (.bl true) h) := by
  rw [cal_unf (F := T.fns[13]) rfl rfl]
  show SR.end (exs _ _ b13 [some (.bl b), some (.bl b), none] h) = _
  simp -dsimp -implicitDefEqProofs only [exs, exc, ev, islM, evs, tst, tsts, evi, M.ret_def, M.lift_some, SR.end_rt, SR.end_nx, SR.end_ex, get_zero, get_succ, Tg.set_name, Tg.set_tup, setAll, List.set_cons_zero, List.set_cons_succ, Option.map_some, Option.map_none, eq_ints, ne_ints, lt_ints, le_ints, gt_ints, ge_ints, add_ints, sub_ints, truthy_bl, truthy_int, bi_int, bi_abs, bi_max2, bi_min2, bi_len_fz, bi_len_lst, bi_len_tup, bi_repr, ix_lst, ix_tup, ix_fz, at4_0, at4_1, at4_2, at4_3, set4_0, set4_1, set4_2, set4_3, at3_0, at3_1, at3_2, set3_0, set3_1, set3_2, decide_eq_true_eq, ite_true, ite_false, if_true, if_false, Bool.false_eq_true, Bool.not_eq_true', decide_eq_false_iff_not, Bool.not_true, Bool.not_false, List.foldr_cons, List.foldr_nil, Ty.has, Option.bind_some, ↓exc_whl, ↓exc_for, ↓ev_comp, ↓z_ite, ↓z_bind, ↓z_bd, ↓z_sbd, ↓z_sq, ↓z_tn, bdz_ok, bdz_exc, sbdz_ok, sbdz_exc, sqz_nx, sqz_rt, sqz_bk, sqz_ct, sqz_ex, tnz_nx, tnz_rt, tnz_bk, tnz_ct, tnz_ex, kFor_ok, runF_nil, turn_name, wipeE, Int.cast_ofNat_Int, Int.natCast_zero, Int.natCast_one, Int.reduceEq, Int.reduceLT, Int.reduceLE, Int.reduceNeg, part_nil, part_int, cutOf_tup, isi_def, items_lst, items_tup, items_fz, isAny, eq_self, decide_true, decide_false, not_true_eq_false, not_false_eq_true, ne_eq,  sizeLine_eq, List.length_cons, List.length_nil, Nat.reduceAdd, Nat.reduceLeDiff, Nat.zero_add, b13, is_bl_non, eq_bls]
theorem dotsum : ∀ (F pt : List Int) (n : Nat), F.length = n → pt.length = n → ((List.range n).map fun i => F.getD i 0 * pt.getD i 0).sum = dot F pt
  | [], pt, _, rfl, _ => by simp [dot]
  | f :: F, [], _, rfl, h => by simp at h
  | f :: F, x :: pt, _, rfl, h => by
    have ih := dotsum F pt F.length rfl (by simpa using h)
    rw [List.length_cons, List.range_succ_eq_map, List.map_cons, List.map_map, List.sum_cons, dot, ← ih]
    rfl
theorem rep1 (c : Nat) (x : D) : repD (c : Int) [x] = List.replicate c x := by
  unfold repD
  rw [Int.toNat_natCast]
  induction c with
  | zero => rfl
  | succ c ih => rw [List.replicate_succ, List.flatten_cons, ih]; rfl
theorem mulT (c : Nat) (hc : c ≤ 100) (x : D) : D.bop .mul (.tup [x]) (.int (c : Int)) = some (.tup (List.replicate c x)) := by
  rw [← rep1]
  refine if_pos ?_
  rw [Int.toNat_natCast]
  simp only [Bool.and_eq_true, decide_eq_true_eq, List.length_singleton]
  omega
theorem mulL (c : Nat) (hc : c ≤ 100) (x : D) : D.bop .mul (.lst [x]) (.int (c : Int)) = some (.lst (List.replicate c x)) := by
  rw [← rep1]
  simp only [D.bop]
  refine if_pos ?_
  rw [Int.toNat_natCast, sizeLine_eq]
  simp only [Bool.and_eq_true, decide_eq_true_eq, List.length_singleton]
  omega
theorem isp_len (k n : Nat) (ds : List D) (hl : ds.length ≠ n) (h : AH) : cal T (k + 2) 1 [.int n, .tup ds] h = some (.ok (.bl false) h) := by
  rw [cal_unf (F := T.fns[1]) rfl rfl]
  show SR.end (exs _ _ b1 [some (.int n), some (.tup ds), none] h) = _
  have g : ¬ ((ds.length : Nat) : Int) = n := by omega
  simp -dsimp -implicitDefEqProofs only [exs, exc, ev, islM, evs, tst, tsts, evi, M.ret_def, M.lift_some, SR.end_rt, SR.end_nx, SR.end_ex, get_zero, get_succ, Tg.set_name, Tg.set_tup, setAll, List.set_cons_zero, List.set_cons_succ, Option.map_some, Option.map_none, eq_ints, ne_ints, lt_ints, le_ints, gt_ints, ge_ints, add_ints, sub_ints, truthy_bl, truthy_int, bi_int, bi_abs, bi_max2, bi_min2, bi_len_fz, bi_len_lst, bi_len_tup, bi_repr, ix_lst, ix_tup, ix_fz, at4_0, at4_1, at4_2, at4_3, set4_0, set4_1, set4_2, set4_3, at3_0, at3_1, at3_2, set3_0, set3_1, set3_2, decide_eq_true_eq, ite_true, ite_false, if_true, if_false, Bool.false_eq_true, Bool.not_eq_true', decide_eq_false_iff_not, Bool.not_true, Bool.not_false, List.foldr_cons, List.foldr_nil, Ty.has, Option.bind_some, ↓exc_whl, ↓exc_for, ↓ev_comp, ↓z_ite, ↓z_bind, ↓z_bd, ↓z_sbd, ↓z_sq, ↓z_tn, bdz_ok, bdz_exc, sbdz_ok, sbdz_exc, sqz_nx, sqz_rt, sqz_bk, sqz_ct, sqz_ex, tnz_nx, tnz_rt, tnz_bk, tnz_ct, tnz_ex, kFor_ok, runF_nil, turn_name, wipeE, Int.cast_ofNat_Int, Int.natCast_zero, Int.natCast_one, Int.reduceEq, Int.reduceLT, Int.reduceLE, Int.reduceNeg, part_nil, part_int, cutOf_tup, isi_def, items_lst, items_tup, items_fz, isAny, eq_self, decide_true, decide_false, not_true_eq_false, not_false_eq_true, ne_eq,  sizeLine_eq, List.length_cons, List.length_nil, Nat.reduceAdd, Nat.reduceLeDiff, Nat.zero_add, b1, isi_tup, eq_false g]
theorem isp_nt (k : Nat) (n d : D) (hd : (∃ ds, d = .lst ds) ∨ d = .non ∨ ∃ i, d = .int i) (h : AH) : cal T (k + 2) 1 [n, d] h = some (.ok (.bl false) h) := by
  rw [cal_unf (F := T.fns[1]) rfl rfl]
  show SR.end (exs _ _ b1 [some n, some d, none] h) = _
  rcases hd with ⟨ds, rfl⟩ | rfl | ⟨i, rfl⟩ <;> simp -dsimp -implicitDefEqProofs only [exs, exc, ev, islM, evs, tst, tsts, evi, M.ret_def, M.lift_some, SR.end_rt, SR.end_nx, SR.end_ex, get_zero, get_succ, Tg.set_name, Tg.set_tup, setAll, List.set_cons_zero, List.set_cons_succ, Option.map_some, Option.map_none, eq_ints, ne_ints, lt_ints, le_ints, gt_ints, ge_ints, add_ints, sub_ints, truthy_bl, truthy_int, bi_int, bi_abs, bi_max2, bi_min2, bi_len_fz, bi_len_lst, bi_len_tup, bi_repr, ix_lst, ix_tup, ix_fz, at4_0, at4_1, at4_2, at4_3, set4_0, set4_1, set4_2, set4_3, at3_0, at3_1, at3_2, set3_0, set3_1, set3_2, decide_eq_true_eq, ite_true, ite_false, if_true, if_false, Bool.false_eq_true, Bool.not_eq_true', decide_eq_false_iff_not, Bool.not_true, Bool.not_false, List.foldr_cons, List.foldr_nil, Ty.has, Option.bind_some, ↓exc_whl, ↓exc_for, ↓ev_comp, ↓z_ite, ↓z_bind, ↓z_bd, ↓z_sbd, ↓z_sq, ↓z_tn, bdz_ok, bdz_exc, sbdz_ok, sbdz_exc, sqz_nx, sqz_rt, sqz_bk, sqz_ct, sqz_ex, tnz_nx, tnz_rt, tnz_bk, tnz_ct, tnz_ex, kFor_ok, runF_nil, turn_name, wipeE, Int.cast_ofNat_Int, Int.natCast_zero, Int.natCast_one, Int.reduceEq, Int.reduceLT, Int.reduceLE, Int.reduceNeg, part_nil, part_int, cutOf_tup, isi_def, items_lst, items_tup, items_fz, isAny, eq_self, decide_true, decide_false, not_true_eq_false, not_false_eq_true, ne_eq,  sizeLine_eq, List.length_cons, List.length_nil, Nat.reduceAdd, Nat.reduceLeDiff, Nat.zero_add, b1]
def LI (ns : List Int) (r : Nat) (ρ : Mi.Env) (h : AH) : Prop := (∃ x2 x3 x4 x5 x6 x7 x8 x9 x10 x11 x12 x13 x14, ρ = [some (.fz (ns.map D.int)), some (.ref r), x2, x3, x4, x5, x6, x7, x8, x9, x10, x11, x12, x13, x14]) ∧ Tape h r
/-- the machine's environment -/
def MI (ns : List Int) (r n m : Nat) (F G : List Int) (ρ : Mi.Env) (h : AH) : Prop := (∃ x2 x4 x5 x6 x12 x13 x14, ρ = [some (.fz (ns.map D.int)), some (.ref r), x2, some (.int n), x4, x5, x6, some (mv n ((mkS m F G n).map stI)), some (.tup [.int m, lI F, lI G]), some (.int m), some (lI F), some (lI G), x12, x13, x14]) ∧ Tape h r
theorem S_len (m n : Nat) (F G : List Int) (P : MadeP n m F G) : 1 ≤ (mkS m F G n).length ∧ (mkS m F G n).length ≤ 225 := by
  rw [len_S P.m0]
  exact ⟨Nat.mul_pos P.m0 P.m0, Nat.mul_le_mul P.m1 P.m1⟩
theorem is_mach (k n m : Nat) (hn : n ≤ 4) (F G : List Int) (P : MadeP n m F G) (h : AH) : cal T (k + 3) 6 [mv n ((mkS m F G n).map stI)] h = some (.ok (.bl true) h) := by
  have l := S_len m n F G P
  have q := mach_int k n (by omega) (mkS m F G n) l.1 (by omega) (S_ok P.m0 P.g P.g01) h
  rw [S_con P.m0] at q
  exact q
theorem lP_ok (ns : List Int) (r n m : Nat) (hn : n ≤ 4) (F G : List Int) (P : MadeP n m F G) (x4 : D) (ρ : Mi.Env) (h : AH) (i : MI ns r n m F G ρ h) :
    ∃ ρ' h', turn (cal T 11) T.xcs (.name 4) lP x4 ρ h = some (.nx ρ' h') ∧ MI ns r n m F G ρ' h' := by
  obtain ⟨⟨x2, y4, x5, x6, x12, x13, x14, rfl⟩, t⟩ := i
  obtain ⟨pt, h1, e1, hp, hb, t1⟩ := point_ok 7 h r n (by omega) t
  have hm := nb_le pt hb
  have l := S_len m n F G P
  have tk := call_tak 5 n (mkS m F G n) l.1 (S_ok P.m0 P.g P.g01) (fun h => is_mach 5 n m hn F G P h) pt hp (by omega) (by omega) h1
  rw [made_tak P.m0 pt P.f hp] at tk
  have rn := rng1_nat n (by omega)
  have h0 : (m : Int) ≠ 0 := by have := P.m0; omega
  have hpos : (0 : Int) < m := by have := P.m0; omega
  have c1 := comp_run (C := cal T 11) (elt := (ME.bin (BOp.mul) (ME.ix (ME.var 10) (ME.var 14)) (ME.ix (ME.var 12) (ME.var 14)))) (t := .name 14) (cs := .nil) (own := [14]) (ρ := [some (.fz (ns.map D.int)), some (.ref r), x2, some (.int n), some x4, x5, x6, some (mv n ((mkS m F G n).map stI)), some (.tup [.int m, lI F, lI G]), some (.int m), some (lI F), some (lI G), some (tI pt), x13, x14]) (h := h1) (small_le (m := 6) (by rw [List.length_map, List.length_range]; omega) (by decide)) (lc_onI (f := fun (i : Nat) => D.int (i : Int)) (g := fun i => F.getD i 0 * pt.getD i 0) (List.range n) fun i hi => by
    have hi' := List.mem_range.mp hi
    refine step_nil (ρ' := [some (.fz (ns.map D.int)), some (.ref r), x2, some (.int n), some x4, x5, x6, some (mv n ((mkS m F G n).map stI)), some (.tup [.int m, lI F, lI G]), some (.int m), some (lI F), some (lI G), some (tI pt), x13, some (.int i)]) rfl ?_
    have fb := P.fb _ (getDm (d := 0) (show i < F.length by rw [P.f]; exact hi'))
    have m15 := P.m1
    have m1 : mulOk (F.getD i 0) (pt.getD i 0) = true := mulOk_l (by omega)
    simp -dsimp -implicitDefEqProofs only [exs, exc, ev, islM, evs, tst, tsts, evi, M.ret_def, M.lift_some, SR.end_rt, SR.end_nx, SR.end_ex, get_zero, get_succ, Tg.set_name, Tg.set_tup, setAll, List.set_cons_zero, List.set_cons_succ, Option.map_some, Option.map_none, eq_ints, ne_ints, lt_ints, le_ints, gt_ints, ge_ints, add_ints, sub_ints, truthy_bl, truthy_int, bi_int, bi_abs, bi_max2, bi_min2, bi_len_fz, bi_len_lst, bi_len_tup, bi_repr, ix_lst, ix_tup, ix_fz, at4_0, at4_1, at4_2, at4_3, set4_0, set4_1, set4_2, set4_3, at3_0, at3_1, at3_2, set3_0, set3_1, set3_2, decide_eq_true_eq, ite_true, ite_false, if_true, if_false, Bool.false_eq_true, Bool.not_eq_true', decide_eq_false_iff_not, Bool.not_true, Bool.not_false, List.foldr_cons, List.foldr_nil, Ty.has, Option.bind_some, ↓exc_whl, ↓exc_for, ↓ev_comp, ↓z_ite, ↓z_bind, ↓z_bd, ↓z_sbd, ↓z_sq, ↓z_tn, bdz_ok, bdz_exc, sbdz_ok, sbdz_exc, sqz_nx, sqz_rt, sqz_bk, sqz_ct, sqz_ex, tnz_nx, tnz_rt, tnz_bk, tnz_ct, tnz_ex, kFor_ok, runF_nil, turn_name, wipeE, Int.cast_ofNat_Int, Int.natCast_zero, Int.natCast_one, Int.reduceEq, Int.reduceLT, Int.reduceLE, Int.reduceNeg, part_nil, part_int, cutOf_tup, isi_def, items_lst, items_tup, items_fz, isAny, eq_self, decide_true, decide_false, not_true_eq_false, not_false_eq_true, ne_eq,  sizeLine_eq, List.length_cons, List.length_nil, Nat.reduceAdd, Nat.reduceLeDiff, Nat.zero_add, lI, tI, at_ints (ns := F) (j := i) (by rw [P.f]; exact hi'), at_ints (ns := pt) (j := i) (by rw [hp]; exact hi'), mul_ints m1])
  have sm := bi_sum (ns := (List.range n).map fun i => F.getD i 0 * pt.getD i 0) (h := h1)
  rw [dotsum F pt n P.f hp] at sm
  have o0 := Int.emod_nonneg (dot F pt) h0
  have o1 := Int.emod_lt_of_pos (dot F pt) hpos
  have ao := at_i (ns := G) o0 (by rw [P.g]; exact o1)
  have sb := same_bl 10 (decide (G.getD (dot F pt % m).toNat 0 = 1)) h1
  rw [turn_name]
  simp only [lI, tI] at e1 tk c1 ⊢
  simp -dsimp -implicitDefEqProofs only [exs, exc, ev, islM, evs, tst, tsts, evi, M.ret_def, M.lift_some, SR.end_rt, SR.end_nx, SR.end_ex, get_zero, get_succ, Tg.set_name, Tg.set_tup, setAll, List.set_cons_zero, List.set_cons_succ, Option.map_some, Option.map_none, eq_ints, ne_ints, lt_ints, le_ints, gt_ints, ge_ints, add_ints, sub_ints, truthy_bl, truthy_int, bi_int, bi_abs, bi_max2, bi_min2, bi_len_fz, bi_len_lst, bi_len_tup, bi_repr, ix_lst, ix_tup, ix_fz, at4_0, at4_1, at4_2, at4_3, set4_0, set4_1, set4_2, set4_3, at3_0, at3_1, at3_2, set3_0, set3_1, set3_2, decide_eq_true_eq, ite_true, ite_false, if_true, if_false, Bool.false_eq_true, Bool.not_eq_true', decide_eq_false_iff_not, Bool.not_true, Bool.not_false, List.foldr_cons, List.foldr_nil, Ty.has, Option.bind_some, ↓exc_whl, ↓exc_for, ↓ev_comp, ↓z_ite, ↓z_bind, ↓z_bd, ↓z_sbd, ↓z_sq, ↓z_tn, bdz_ok, bdz_exc, sbdz_ok, sbdz_exc, sqz_nx, sqz_rt, sqz_bk, sqz_ct, sqz_ex, tnz_nx, tnz_rt, tnz_bk, tnz_ct, tnz_ex, kFor_ok, runF_nil, turn_name, wipeE, Int.cast_ofNat_Int, Int.natCast_zero, Int.natCast_one, Int.reduceEq, Int.reduceLT, Int.reduceLE, Int.reduceNeg, part_nil, part_int, cutOf_tup, isi_def, items_lst, items_tup, items_fz, isAny, eq_self, decide_true, decide_false, not_true_eq_false, not_false_eq_true, ne_eq,  sizeLine_eq, List.length_cons, List.length_nil, Nat.reduceAdd, Nat.reduceLeDiff, Nat.zero_add, lP, e1, rn, c1, sm, mod_ints h0, fmm P.m0, ao, tk, sb]
  exact ⟨_, _, rfl, ⟨_, _, _, _, _, _, _, rfl⟩, t1⟩
theorem lC_ok (ns : List Int) (r n m : Nat) (hn : n ≤ 4) (F G : List Int) (P : MadeP n m F G) (ρ : Mi.Env) (h : AH) (i : MI ns r n m F G ρ h) :
    ∃ ρ' h', exs (cal T 11) T.xcs lC ρ h = some (.nx ρ' h') ∧ LI ns r ρ' h' := by
  obtain ⟨⟨x2, x4, x5, x6, x12, x13, x14, rfl⟩, t⟩ := i
  have l := S_len m n F G P
  obtain ⟨w, h1, e1, bw, t1⟩ := bent_ok 8 h r n hn (mkS m F G n) l.1 (by omega) (S_ok P.m0 P.g P.g01) t
  have q1 := bw 8 h1
  have q2 := same_bl 10 false h1
  have mz := mulT n (by omega) (.int 0)
  have q3 := call_no 5 w (.tup (List.replicate n (.int 0))) h1 (bw 5 h1)
  have q4 := same_int 10 0 h1
  have e2 : (n : Int) + 1 = ((n + 1 : Nat) : Int) := by omega
  have mz1 := mulT (n + 1) (by omega) (.int 0)
  have ml := mulL n (by omega) (.int 0)
  by_cases c0 : 0 < (n : Int)
  · have e3 : (n : Int) - 1 = ((n - 1 : Nat) : Int) := by omega
    have mz2 := mulT (n - 1) (by omega) (.int 0)
    have ad : D.bop .add (.tup [.bl true]) (.tup (List.replicate (n - 1) (.int 0))) = some (.tup (.bl true :: List.replicate (n - 1) (.int 0))) := add_tups (by simp; omega)
    obtain ⟨od, h2, e4, m4, t2⟩ := pick_ok 9 h1 r [.tup (List.replicate (n + 1) (.int 0)), .lst (List.replicate n (.int 0)), .non, .tup (.bl true :: List.replicate (n - 1) (.int 0))] t1 (by simp) (by simp)
    have ep : cal T 9 1 [.int n, od] h2 = some (.ok (.bl false) h2) := by
      simp only [List.mem_cons, List.not_mem_nil, or_false] at m4
      rcases m4 with rfl | rfl | rfl | rfl
      · exact isp_len 7 n _ (by simp) h2
      · exact isp_nt 7 _ _ (.inl ⟨_, rfl⟩) h2
      · exact isp_nt 7 _ _ (.inr (.inl rfl)) h2
      · have := ispt_bad 7 (.bl true :: List.replicate (n - 1) (.int 0)) (fun d hd => by
          rcases List.mem_cons.mp hd with rfl | hd
          · trivial
          · rw [List.eq_of_mem_replicate hd]; trivial) ⟨_, List.mem_cons_self, rfl⟩ (by simp; omega) h2
        rwa [show (D.bl true :: List.replicate (n - 1) (.int 0)).length = n by simp; omega] at this
    have q5 := call_odd 5 n _ od h2 (is_mach 5 n m hn F G P h2) ep
    simp -dsimp -implicitDefEqProofs only [exs, exc, ev, islM, evs, tst, tsts, evi, M.ret_def, M.lift_some, SR.end_rt, SR.end_nx, SR.end_ex, get_zero, get_succ, Tg.set_name, Tg.set_tup, setAll, List.set_cons_zero, List.set_cons_succ, Option.map_some, Option.map_none, eq_ints, ne_ints, lt_ints, le_ints, gt_ints, ge_ints, add_ints, sub_ints, truthy_bl, truthy_int, bi_int, bi_abs, bi_max2, bi_min2, bi_len_fz, bi_len_lst, bi_len_tup, bi_repr, ix_lst, ix_tup, ix_fz, at4_0, at4_1, at4_2, at4_3, set4_0, set4_1, set4_2, set4_3, at3_0, at3_1, at3_2, set3_0, set3_1, set3_2, decide_eq_true_eq, ite_true, ite_false, if_true, if_false, Bool.false_eq_true, Bool.not_eq_true', decide_eq_false_iff_not, Bool.not_true, Bool.not_false, List.foldr_cons, List.foldr_nil, Ty.has, Option.bind_some, ↓exc_whl, ↓exc_for, ↓ev_comp, ↓z_ite, ↓z_bind, ↓z_bd, ↓z_sbd, ↓z_sq, ↓z_tn, bdz_ok, bdz_exc, sbdz_ok, sbdz_exc, sqz_nx, sqz_rt, sqz_bk, sqz_ct, sqz_ex, tnz_nx, tnz_rt, tnz_bk, tnz_ct, tnz_ex, kFor_ok, runF_nil, turn_name, wipeE, Int.cast_ofNat_Int, Int.natCast_zero, Int.natCast_one, Int.reduceEq, Int.reduceLT, Int.reduceLE, Int.reduceNeg, part_nil, part_int, cutOf_tup, isi_def, items_lst, items_tup, items_fz, isAny, eq_self, decide_true, decide_false, not_true_eq_false, not_false_eq_true, ne_eq,  sizeLine_eq, List.length_cons, List.length_nil, Nat.reduceAdd, Nat.reduceLeDiff, Nat.zero_add, lC, e1, q1, q2, mz, q3, q4, e2, mz1, ml, eq_true c0, e3, mz2, ad, e4, q5, ne_point]
    exact ⟨_, _, rfl, ⟨_, _, _, _, _, _, _, _, _, _, _, _, _, rfl⟩, t2⟩
  · obtain ⟨od, h2, e4, m4, t2⟩ := pick_ok 9 h1 r [.tup (List.replicate (n + 1) (.int 0)), .lst (List.replicate n (.int 0)), .non, .int 5] t1 (by simp) (by simp)
    have ep : cal T 9 1 [.int n, od] h2 = some (.ok (.bl false) h2) := by
      simp only [List.mem_cons, List.not_mem_nil, or_false] at m4
      rcases m4 with rfl | rfl | rfl | rfl
      · exact isp_len 7 n _ (by simp) h2
      · exact isp_nt 7 _ _ (.inl ⟨_, rfl⟩) h2
      · exact isp_nt 7 _ _ (.inr (.inl rfl)) h2
      · exact isp_nt 7 _ _ (.inr (.inr ⟨_, rfl⟩)) h2
    have q5 := call_odd 5 n _ od h2 (is_mach 5 n m hn F G P h2) ep
    simp -dsimp -implicitDefEqProofs only [exs, exc, ev, islM, evs, tst, tsts, evi, M.ret_def, M.lift_some, SR.end_rt, SR.end_nx, SR.end_ex, get_zero, get_succ, Tg.set_name, Tg.set_tup, setAll, List.set_cons_zero, List.set_cons_succ, Option.map_some, Option.map_none, eq_ints, ne_ints, lt_ints, le_ints, gt_ints, ge_ints, add_ints, sub_ints, truthy_bl, truthy_int, bi_int, bi_abs, bi_max2, bi_min2, bi_len_fz, bi_len_lst, bi_len_tup, bi_repr, ix_lst, ix_tup, ix_fz, at4_0, at4_1, at4_2, at4_3, set4_0, set4_1, set4_2, set4_3, at3_0, at3_1, at3_2, set3_0, set3_1, set3_2, decide_eq_true_eq, ite_true, ite_false, if_true, if_false, Bool.false_eq_true, Bool.not_eq_true', decide_eq_false_iff_not, Bool.not_true, Bool.not_false, List.foldr_cons, List.foldr_nil, Ty.has, Option.bind_some, ↓exc_whl, ↓exc_for, ↓ev_comp, ↓z_ite, ↓z_bind, ↓z_bd, ↓z_sbd, ↓z_sq, ↓z_tn, bdz_ok, bdz_exc, sbdz_ok, sbdz_exc, sqz_nx, sqz_rt, sqz_bk, sqz_ct, sqz_ex, tnz_nx, tnz_rt, tnz_bk, tnz_ct, tnz_ex, kFor_ok, runF_nil, turn_name, wipeE, Int.cast_ofNat_Int, Int.natCast_zero, Int.natCast_one, Int.reduceEq, Int.reduceLT, Int.reduceLE, Int.reduceNeg, part_nil, part_int, cutOf_tup, isi_def, items_lst, items_tup, items_fz, isAny, eq_self, decide_true, decide_false, not_true_eq_false, not_false_eq_true, ne_eq,  sizeLine_eq, List.length_cons, List.length_nil, Nat.reduceAdd, Nat.reduceLeDiff, Nat.zero_add, lC, e1, q1, q2, mz, q3, q4, e2, mz1, ml, eq_false c0, e4, q5, ne_point]
    exact ⟨_, _, rfl, ⟨_, _, _, _, _, _, _, _, _, _, _, _, _, rfl⟩, t2⟩
theorem lA_ok (ns : List Int) (r : Nat) (ρ : Mi.Env) (h : AH) (i : LI ns r ρ h) : ∃ ρ' h', exs (cal T 11) T.xcs lA ρ h = some (.nx ρ' h') ∧ LI ns r ρ' h' := by
  obtain ⟨⟨x2, x3, x4, x5, x6, x7, x8, x9, x10, x11, x12, x13, x14, rfl⟩, t⟩ := i
  obtain ⟨n', h1, e1, l1, u1, t1⟩ := draw_ok 10 h r 5 t (by decide) (Bl.mono (n := 64) (by unfold Bl; decide) (by decide))
  obtain ⟨n, rfl⟩ : ∃ n : Nat, n' = (n : Int) := ⟨n'.toNat, by omega⟩
  have hn : n ≤ 4 := by omega
  obtain ⟨m, F, G, h2, e2, P, t2⟩ := made_ok 8 h1 r n (by omega) t1
  have q1 := is_mach 8 n m hn F G P h2
  have q2 := same_bl 10 true h2
  have r6 := rng1_nat 6 (by decide)
  have n6 : ((6 : Nat) : Int) = 6 := rfl
  rw [n6] at r6
  obtain ⟨ρ1, h3, e3, i3⟩ := runF_inv (C := cal T 11) (G := T.xcs) (t := .name 4) (b := lP) (MI ns r n m F G) ((List.range 6).map fun (i : Nat) => D.int (i : Int)) (fun x hx ρ h i => lP_ok ns r n m hn F G P x ρ h i) [some (.fz (ns.map D.int)), some (.ref r), x2, some (.int n), x4, x5, x6, some (mv n ((mkS m F G n).map stI)), some (.tup [.int m, lI F, lI G]), some (.int m), some (lI F), some (lI G), x12, x13, x14] h2 ⟨⟨_, _, _, _, _, _, _, rfl⟩, t2⟩
  obtain ⟨ρ', h', e4, i4⟩ := lC_ok ns r n m hn F G P ρ1 h3 i3
  refine ⟨ρ', h', ?_, i4⟩
  rw [← e4]
  simp only [madeV] at e2
  simp -dsimp -implicitDefEqProofs only [exs, exc, ev, islM, evs, tst, tsts, evi, M.ret_def, M.lift_some, SR.end_rt, SR.end_nx, SR.end_ex, get_zero, get_succ, Tg.set_name, Tg.set_tup, setAll, List.set_cons_zero, List.set_cons_succ, Option.map_some, Option.map_none, eq_ints, ne_ints, lt_ints, le_ints, gt_ints, ge_ints, add_ints, sub_ints, truthy_bl, truthy_int, bi_int, bi_abs, bi_max2, bi_min2, bi_len_fz, bi_len_lst, bi_len_tup, bi_repr, ix_lst, ix_tup, ix_fz, at4_0, at4_1, at4_2, at4_3, set4_0, set4_1, set4_2, set4_3, at3_0, at3_1, at3_2, set3_0, set3_1, set3_2, decide_eq_true_eq, ite_true, ite_false, if_true, if_false, Bool.false_eq_true, Bool.not_eq_true', decide_eq_false_iff_not, Bool.not_true, Bool.not_false, List.foldr_cons, List.foldr_nil, Ty.has, Option.bind_some, ↓exc_whl, ↓exc_for, ↓ev_comp, ↓z_ite, ↓z_bind, ↓z_bd, ↓z_sbd, ↓z_sq, ↓z_tn, bdz_ok, bdz_exc, sbdz_ok, sbdz_exc, sqz_nx, sqz_rt, sqz_bk, sqz_ct, sqz_ex, tnz_nx, tnz_rt, tnz_bk, tnz_ct, tnz_ex, kFor_ok, runF_nil, turn_name, wipeE, Int.cast_ofNat_Int, Int.natCast_zero, Int.natCast_one, Int.reduceEq, Int.reduceLT, Int.reduceLE, Int.reduceNeg, part_nil, part_int, cutOf_tup, isi_def, items_lst, items_tup, items_fz, isAny, eq_self, decide_true, decide_false, not_true_eq_false, not_false_eq_true, ne_eq,  sizeLine_eq, List.length_cons, List.length_nil, Nat.reduceAdd, Nat.reduceLeDiff, Nat.zero_add, lA, e1, e2, q1, q2, lB, r6, e3]
theorem law_ok (ns : List Int) (hl : ns.length ≤ 63) : ∃ h, cal T 12 20 [.fz (ns.map D.int)] [] = some (.ok (.bl true) h) := by
  rw [cal_unf (F := T.fns[20]) rfl rfl]
  show ∃ h, SR.end (exs (cal T 11) T.xcs b20 [some (.fz (ns.map D.int)), none, none, none, none, none, none, none, none, none, none, none, none, none, none] []) = _
  obtain ⟨r, h1, e1, t1⟩ := tape_ok 10 ns hl
  have s6 := same_int 10 2000 h1
  have r2 := rng1_nat 2 (by decide)
  have n2 : ((2 : Nat) : Int) = 2 := rfl
  rw [n2] at r2
  obtain ⟨ρ', h', e, i⟩ := runF_inv (C := cal T 11) (G := T.xcs) (t := .name 2) (b := lA) (LI ns r) ((List.range 2).map fun (i : Nat) => D.int (i : Int)) (fun x hx ρ h ⟨⟨x2, x3, x4, x5, x6, x7, x8, x9, x10, x11, x12, x13, x14, eρ⟩, t⟩ => by
    subst eρ
    rw [turn_name]
    exact lA_ok ns r _ h ⟨⟨some x, x3, x4, x5, x6, x7, x8, x9, x10, x11, x12, x13, x14, rfl⟩, t⟩) [some (.fz (ns.map D.int)), some (.ref r), none, none, none, none, none, none, none, none, none, none, none, none, none] h1 ⟨⟨_, _, _, _, _, _, _, _, _, _, _, _, _, rfl⟩, t1⟩
  obtain ⟨⟨x2, x3, x4, x5, x6, x7, x8, x9, x10, x11, x12, x13, x14, eρ⟩, t⟩ := i
  subst eρ
  simp only [lA, lB, lP, lC] at e
  refine ⟨h', ?_⟩
  simp -dsimp -implicitDefEqProofs only [exs, exc, ev, islM, evs, tst, tsts, evi, M.ret_def, M.lift_some, SR.end_rt, SR.end_nx, SR.end_ex, get_zero, get_succ, Tg.set_name, Tg.set_tup, setAll, List.set_cons_zero, List.set_cons_succ, Option.map_some, Option.map_none, eq_ints, ne_ints, lt_ints, le_ints, gt_ints, ge_ints, add_ints, sub_ints, truthy_bl, truthy_int, bi_int, bi_abs, bi_max2, bi_min2, bi_len_fz, bi_len_lst, bi_len_tup, bi_repr, ix_lst, ix_tup, ix_fz, at4_0, at4_1, at4_2, at4_3, set4_0, set4_1, set4_2, set4_3, at3_0, at3_1, at3_2, set3_0, set3_1, set3_2, decide_eq_true_eq, ite_true, ite_false, if_true, if_false, Bool.false_eq_true, Bool.not_eq_true', decide_eq_false_iff_not, Bool.not_true, Bool.not_false, List.foldr_cons, List.foldr_nil, Ty.has, Option.bind_some, ↓exc_whl, ↓exc_for, ↓ev_comp, ↓z_ite, ↓z_bind, ↓z_bd, ↓z_sbd, ↓z_sq, ↓z_tn, bdz_ok, bdz_exc, sbdz_ok, sbdz_exc, sqz_nx, sqz_rt, sqz_bk, sqz_ct, sqz_ex, tnz_nx, tnz_rt, tnz_bk, tnz_ct, tnz_ex, kFor_ok, runF_nil, turn_name, wipeE, Int.cast_ofNat_Int, Int.natCast_zero, Int.natCast_one, Int.reduceEq, Int.reduceLT, Int.reduceLE, Int.reduceNeg, part_nil, part_int, cutOf_tup, isi_def, items_lst, items_tup, items_fz, isAny, eq_self, decide_true, decide_false, not_true_eq_false, not_false_eq_true, ne_eq,  sizeLine_eq, List.length_cons, List.length_nil, Nat.reduceAdd, Nat.reduceLeDiff, Nat.zero_add, b20, e1, s6, r2, e]
end Mk

open PySem PySem.W PyProof.Rows
set_option maxHeartbeats 0 in
theorem PySem.Challenge.cw_allwholes_k31_machines_that_read_holds : PySem.Challenge.rw_allwholes_k31_machines_that_read.Holds := by
  w_on; o_law; k_head; (case hw => w_witness2)
  k_fill
  refine L2.walk_of (l := PySem.Challenge.rw_allwholes_k31_machines_that_read) (n := 63) (k := 15) (x := "script") (CX := fun w => L2.CX PySem.Challenge.pw_allwholes_k31_machines_that_read w) (sp := fun w => Mi.spL _ (Mi.cal Mk.T 12 20)) rfl (by decide) rfl ⟨rfl, by decide, by decide⟩ (fun w h Y => PySem.W.kIn_of Y) ?F (fun w H a ns hl hO hS => Mi.law_sp hO hS (Mk.law_ok ns hl).choose_spec) (fun _ _ _ _ _ h => Mi.cx_none h)
  case F =>
    intro w mg fa h KX G hmg
    refine' Mi.law_end (P := PySem.Challenge.pw_allwholes_k31_machines_that_read) (T := Mk.T) (wd := Mk.wd) (Fs := Mk.Fs) rfl rfl Mk.all_ok (FL := Mk.f20) rfl rfl rfl hmg ?ct ?bl ?d rfl ?xs
    (case ct =>
        refine Mi.ct_all KX ?_
        intro p hp
        simp only [Mk.wd, List.mem_cons, List.not_mem_nil, or_false] at hp
        rcases hp with rfl | rfl | rfl
        · exact ⟨.int (6), _, PySem.W.mg_of KX G (by k_is), ⟨_, rfl⟩, fun _ _ => .int _⟩
        · refine' Mi.ct_tup KX G (x := "LETTERS") (xs := [.int (1), .int (2), .int (4), .int (8), .int (16), .int (32), .int (64)]) ?a ?l ?z ?v (.cons (.int _) (.cons (.int _) (.cons (.int _) (.cons (.int _) (.cons (.int _) (.cons (.int _) (.cons (.int _) .nil))))))); (case a => k_is); (case l => k_is); (case z => decide +kernel); (case v => exact (.cons (⟨_, rfl⟩) (.cons (⟨_, rfl⟩) (.cons (⟨_, rfl⟩) (.cons (⟨_, rfl⟩) (.cons (⟨_, rfl⟩) (.cons (⟨_, rfl⟩) (.cons (⟨_, rfl⟩) .nil))))))))
        · exact ⟨.int (2000), _, PySem.W.mg_of KX G (by k_is), ⟨_, rfl⟩, fun _ _ => .int _⟩)
    (case bl =>
      have z : ∀ b ∈ Mk.wd.blt, mg b = none := by
        intro b hb
        simp only [Mk.wd, List.mem_cons, List.not_mem_nil, or_false] at hb
        rcases hb with rfl | rfl | rfl | rfl | rfl | rfl | rfl | rfl | rfl | rfl | rfl | rfl | rfl | rfl | rfl
        · exact PySem.W.mg_none_of KX G (by k_is)
        · exact PySem.W.mg_none_of KX G (by k_is)
        · exact PySem.W.mg_none_of KX G (by k_is)
        · exact PySem.W.mg_none_of KX G (by k_is)
        · exact PySem.W.mg_none_of KX G (by k_is)
        · exact PySem.W.mg_none_of KX G (by k_is)
        · exact PySem.W.mg_none_of KX G (by k_is)
        · exact PySem.W.mg_none_of KX G (by k_is)
        · exact PySem.W.mg_none_of KX G (by k_is)
        · exact PySem.W.mg_none_of KX G (by k_is)
        · exact PySem.W.mg_none_of KX G (by k_is)
        · exact PySem.W.mg_none_of KX G (by k_is)
        · exact PySem.W.mg_none_of KX G (by k_is)
        · exact PySem.W.mg_none_of KX G (by k_is)
        · exact PySem.W.mg_none_of KX G (by k_is)
      intro x hx
      exact z x (by simpa using hx))
    (case d =>
      intro i F e
      match i, e with
      | 0, e => cases e; refine' Mi.def_mk KX G "is_whole" (Mk.topS 7) rfl rfl Mk.a0 ?a ?l ?c ?k; (case a => k_is); (case l => k_is); (case c => k_is); (case k => k_is)
      | 1, e => cases e; refine' Mi.def_mk KX G "is_point" (Mk.topS 8) rfl rfl Mk.a1 ?a ?l ?c ?k; (case a => k_is); (case l => k_is); (case c => k_is); (case k => k_is)
      | 2, e => cases e; refine' Mi.def_mk KX G "digits_of" (Mk.topS 9) rfl rfl Mk.a2 ?a ?l ?c ?k; (case a => k_is); (case l => k_is); (case c => k_is); (case k => k_is)
      | 3, e => cases e; refine' Mi.def_mk KX G "digits_list" (Mk.topS 10) rfl rfl Mk.a3 ?a ?l ?c ?k; (case a => k_is); (case l => k_is); (case c => k_is); (case k => k_is)
      | 4, e => cases e; refine' Mi.def_mk KX G "word_of" (Mk.topS 11) rfl rfl Mk.a4 ?a ?l ?c ?k; (case a => k_is); (case l => k_is); (case c => k_is); (case k => k_is)
      | 5, e => cases e; refine' Mi.def_mk KX G "is_state" (Mk.topS 14) rfl rfl Mk.a5 ?a ?l ?c ?k; (case a => k_is); (case l => k_is); (case c => k_is); (case k => k_is)
      | 6, e => cases e; refine' Mi.def_mk KX G "is_machine" (Mk.topS 15) rfl rfl Mk.a6 ?a ?l ?c ?k; (case a => k_is); (case l => k_is); (case c => k_is); (case k => k_is)
      | 7, e => cases e; refine' Mi.def_mk KX G "check_machine" (Mk.topS 16) rfl rfl Mk.a7 ?a ?l ?c ?k; (case a => k_is); (case l => k_is); (case c => k_is); (case k => k_is)
      | 8, e => cases e; refine' Mi.def_mk KX G "out_from" (Mk.topS 17) rfl rfl Mk.a8 ?a ?l ?c ?k; (case a => k_is); (case l => k_is); (case c => k_is); (case k => k_is)
      | 9, e => cases e; refine' Mi.def_mk KX G "taken" (Mk.topS 18) rfl rfl Mk.a9 ?a ?l ?c ?k; (case a => k_is); (case l => k_is); (case c => k_is); (case k => k_is)
      | 10, e => cases e; refine' Mi.def_mk KX G "_law_tape" (Mk.topS 20) rfl rfl Mk.a10 ?a ?l ?c ?k; (case a => k_is); (case l => k_is); (case c => k_is); (case k => k_is)
      | 11, e => cases e; refine' Mi.def_mk KX G "_law_draw" (Mk.topS 21) rfl rfl Mk.a11 ?a ?l ?c ?k; (case a => k_is); (case l => k_is); (case c => k_is); (case k => k_is)
      | 12, e => cases e; refine' Mi.def_mk KX G "_law_pick" (Mk.topS 22) rfl rfl Mk.a12 ?a ?l ?c ?k; (case a => k_is); (case l => k_is); (case c => k_is); (case k => k_is)
      | 13, e => cases e; refine' Mi.def_mk KX G "_law_same" (Mk.topS 23) rfl rfl Mk.a13 ?a ?l ?c ?k; (case a => k_is); (case l => k_is); (case c => k_is); (case k => k_is)
      | 14, e => cases e; refine' Mi.def_mk KX G "_law_number" (Mk.topS 24) rfl rfl Mk.a14 ?a ?l ?c ?k; (case a => k_is); (case l => k_is); (case c => k_is); (case k => k_is)
      | 15, e => cases e; refine' Mi.def_mk KX G "_law_power" (Mk.topS 25) rfl rfl Mk.a15 ?a ?l ?c ?k; (case a => k_is); (case l => k_is); (case c => k_is); (case k => k_is)
      | 16, e => cases e; refine' Mi.def_mk KX G "_law_point" (Mk.topS 26) rfl rfl Mk.a16 ?a ?l ?c ?k; (case a => k_is); (case l => k_is); (case c => k_is); (case k => k_is)
      | 17, e => cases e; refine' Mi.def_mk KX G "_law_call" (Mk.topS 27) rfl rfl Mk.a17 ?a ?l ?c ?k; (case a => k_is); (case l => k_is); (case c => k_is); (case k => k_is)
      | 18, e => cases e; refine' Mi.def_mk KX G "_law_made" (Mk.topS 28) rfl rfl Mk.a18 ?a ?l ?c ?k; (case a => k_is); (case l => k_is); (case c => k_is); (case k => k_is)
      | 19, e => cases e; refine' Mi.def_mk KX G "_law_bent" (Mk.topS 29) rfl rfl Mk.a19 ?a ?l ?c ?k; (case a => k_is); (case l => k_is); (case c => k_is); (case k => k_is)
      | 20, e => cases e; refine' Mi.def_mk KX G "law" (Mk.topS 30) rfl rfl Mk.a20 ?a ?l ?c ?k; (case a => k_is); (case l => k_is); (case c => k_is); (case k => k_is)
      | i + 21, e => simp [Mk.Fs] at e)
    (case xs =>
      refine' Mk.xs_all KX G ?a0 ?k0 ?s0 ?t0 ?x0 ?a1 ?k1 ?s1 ?t1 ?x1 ?a2 ?k2 ?s2 ?t2 ?L2 ?r2 ?u2 ?g2 ?h2 ?d2 ?no2_place ?i2 ?ti2 ?l2 ?c2 ?ki2 ?e0_0 ?e0_1 ?e0_2 ?e1_0 ?e1_1 ?e1_2 ?e2_0 ?e2_1 ?e2_2
      (case a0 => first | k_is | rfl | decide +kernel)
      (case k0 => first | k_is | rfl | decide +kernel)
      (case s0 => first | k_is | rfl | decide +kernel)
      (case t0 => first | k_is | rfl | decide +kernel)
      (case x0 => k_exc)
      (case a1 => first | k_is | rfl | decide +kernel)
      (case k1 => first | k_is | rfl | decide +kernel)
      (case s1 => first | k_is | rfl | decide +kernel)
      (case t1 => first | k_is | rfl | decide +kernel)
      (case x1 => k_exc)
      (case a2 => first | k_is | rfl | decide +kernel)
      (case k2 => first | k_is | rfl | decide +kernel)
      (case s2 => first | k_is | rfl | decide +kernel)
      (case t2 => first | k_is | rfl | decide +kernel)
      (case L2 => first | k_is | rfl | decide +kernel)
      (case r2 => first | rfl | decide +kernel)
      (case u2 => first | k_is | rfl | decide +kernel)
      (case g2 => first | k_is | rfl | decide +kernel)
      (case h2 => first | k_is | rfl | decide +kernel)
      (case d2 => first | k_is | rfl | decide +kernel)
      (case no2_place => first | k_is | rfl | decide +kernel)
      (case i2 => first | k_is | rfl | decide +kernel)
      (case ti2 => first | k_is | rfl | decide +kernel)
      (case l2 => first | k_is | rfl | decide +kernel)
      (case c2 => first | k_is | rfl | decide +kernel)
      (case ki2 => first | k_is | rfl | decide +kernel)
      (case e0_0 => first | k_is | rfl | decide +kernel)
      (case e0_1 => first | k_is | rfl | decide +kernel)
      (case e0_2 => first | k_is | rfl | decide +kernel)
      (case e1_0 => first | k_is | rfl | decide +kernel)
      (case e1_1 => first | k_is | rfl | decide +kernel)
      (case e1_2 => first | k_is | rfl | decide +kernel)
      (case e2_0 => first | k_is | rfl | decide +kernel)
      (case e2_1 => first | k_is | rfl | decide +kernel)
      (case e2_2 => first | k_is | rfl | decide +kernel))
