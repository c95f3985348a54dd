import PyProof.Rows.All
import Wide.All
import OpenK.AllK
import Wide.FinOn
import HandS.ForMost
import KE.KNestM
import KE.KLam
import HandS.TupMul
import PyProof.ListMulRoad
import PyProof.FactsAll.tuple_2
import HandS.Exc
import HandS.ExcOwn
import HandS.TryOnly
import HandS.WordsExc
import HandS.Zip
import HandS.Wide
import HandS.IsInst
import HandS.TupAny
import HandS.Lambda
import HandS.EndTab
import PyProof.StrOps2
import HandS.TupLe
import HandS.Style
import KE.GoesEnum
import KE.SortKeyHeap
import KE.KSortKey
import HandS.ExcIs
import HandS.Text
import HandS.Codes
import HandS.More
import PyProof.ListStr
import KE.SortData
import HandS.Star
import HandS.TupSets
import PyProof.WalksMore
import KE.KTupSum
import HandS.Conv
import HandS.FStr
import HandS.OwnEq
import KE.KUnpackStar
import HandS.SortKw
import KE.KCallOwn
import HandS.Dict
import KE.KDictDisplayH
import KE.KDictList
import PyProof.SumWalkG
import PyProof.ListOps
import KE.KStateDown
import HandS.HeadHook2
import HandS.HeadWalk
import HandS.Head2
import PySem.Challenge.RW_gridbases_k12_whole_divisors
set_option Elab.async false
set_option linter.all false
set_option maxRecDepth 100000
set_option maxHeartbeats 4000000
namespace DLay
open PySem PySem.Spec PyProof.Rows L2
/-! #### HEAD -/
def exNs : List Str := ["InvalidBasis", "InvalidVector", "InvalidLength", "InvalidPoint", "InvalidDimension", "InvalidNumber", "InvalidText", "Unlike", "NotPart", "TooMany", "TooLarge", "NothingToUndo"]
def topS (i : Nat) : Stmt := PySem.Challenge.pw_gridbases_k12_whole_divisors.main.body.getD i (.Pass ⟨0, 0, 0, 0⟩)
/-! ### the head: one run, and facts by a hook -/
def fdS (x : Str) (st : Stmt) : He.FnD := ⟨(x, none), x, x, defArgs st, defBody st, defScope st⟩
def hdFn0 : List He.FnD := [fdS "is_integer" (topS 6), fdS "is_between" (topS 7), fdS "determinant" (topS 10), fdS "is_vector" (topS 11), fdS "is_basis" (topS 12), fdS "check_basis" (topS 13), fdS "check_bases" (topS 14), fdS "plus" (topS 15), fdS "solved" (topS 16), fdS "whole_coefficients" (topS 17), fdS "are_vectors" (topS 18), fdS "is_other_basis" (topS 19), fdS "is_inside" (topS 21), fdS "check_part" (topS 22), fdS "least_place" (topS 23), fdS "swapped" (topS 24), fdS "odd_row" (topS 26), fdS "matched" (topS 25), fdS "divisors" (topS 27), fdS "matched_basis" (topS 28), fdS "is_matched_basis" (topS 29), fdS "_law_town" (topS 31), fdS "_law_draw" (topS 32), fdS "_law_pick" (topS 33), fdS "_law_det" (topS 36), fdS "_law_basis_in" (topS 35), fdS "_law_basis" (topS 34), fdS "_law_mix" (topS 37), fdS "_law_has" (topS 38), fdS "_law_spans" (topS 39), fdS "_law_shared" (topS 40), fdS "_law_minors" (topS 41), fdS "_law_is_matched" (topS 42), fdS "law" (topS 43)]
def hdFn : List He.FnD := hdFn0
def hdFa0 : List He.Fa := [.free "abs", .free "all", .free "any", .free "bool", .free "enumerate", .free "int", .free "isinstance", .free "len", .free "list", .free "range", .free "sum", .free "tuple", .free "zip", .int "LIMIT" (1000000), .glo "InvalidBasis", .exc "InvalidBasis", .glo "NotPart", .exc "NotPart", .glo "Unlike", .exc "Unlike", .glo "is_integer", .keep "is_integer", .glo "is_between", .keep "is_between", .glo "determinant", .keep "determinant", .glo "is_vector", .keep "is_vector", .glo "is_basis", .keep "is_basis", .glo "check_basis", .keep "check_basis", .glo "check_bases", .keep "check_bases", .glo "plus", .keep "plus", .glo "solved", .keep "solved", .glo "whole_coefficients", .keep "whole_coefficients"]
def hdFa1 : List He.Fa := [.glo "are_vectors", .keep "are_vectors", .glo "is_other_basis", .keep "is_other_basis", .glo "is_inside", .keep "is_inside", .glo "check_part", .keep "check_part", .glo "least_place", .keep "least_place", .glo "swapped", .keep "swapped", .glo "odd_row", .keep "odd_row", .glo "matched", .keep "matched", .glo "divisors", .keep "divisors", .glo "matched_basis", .keep "matched_basis", .glo "is_matched_basis", .keep "is_matched_basis", .glo "_law_town", .keep "_law_town", .glo "_law_draw", .keep "_law_draw", .glo "_law_pick", .keep "_law_pick", .glo "_law_det", .keep "_law_det", .glo "_law_basis_in", .keep "_law_basis_in", .glo "_law_basis", .keep "_law_basis", .glo "_law_mix", .keep "_law_mix", .glo "_law_has", .keep "_law_has", .glo "_law_spans", .keep "_law_spans"]
def hdFa2 : List He.Fa := [.glo "_law_shared", .keep "_law_shared", .glo "_law_minors", .keep "_law_minors", .glo "_law_is_matched", .keep "_law_is_matched", .glo "law", .keep "law"]
def hdFa : List He.Fa := hdFa0 ++ (hdFa1 ++ (hdFa2))
def hdB (K : PySem.W.Frag) : Bool := true
def hdNames : List Str := (PySem.W.OpenLaw.row PySem.Challenge.rw_gridbases_k12_whole_divisors).prog.main.scope.names.filterMap fun p => match p.2 with | .local => if p.1 = ("law" : Str) then none else some p.1 | _ => none
def refsK : Obj → List Addr := fun o => match o.data with
  | .dict es _ => es.toList.flatMap fun e => He.refV e.val
  | .func fd => He.refV fd.code
  | .cls cd => cd.ns :: cd.mro.flatMap He.refV
  | _ => []
def growK (g : Addr → Option Obj) (as : List Addr) : List Addr := as.flatMap fun a => match g a with
  | some o => refsK o
  | none => []
def asK (g : Addr → Option Obj) : Nat → List Addr → List Addr
  | 0, as => as
  | n + 1, as => as ++ asK g n (growK g as)
def hdK (g : Addr → Option Obj) : PySem.W.Frag := He.frG g (asK g 4 [mainGlobals])
theorem hdK_in {h : Heap} : PySem.W.Frag.In (hdK h.get?) h := He.frG_in
def hdHk : PySem.W.Hook where
  α := He.Al × Bool × Option Obj
  obs := fun s => (He.obsE hdFa hdFn (hdK s.heap.get?), hdB (hdK s.heap.get?), none)
  val := fun _ => (He.valE hdFn, true, none)
  says := fun _ h => ∃ K, PySem.W.Frag.In K h ∧ He.SaysE hdFa hdFn K ∧ hdB K = true ∧ (none : Option Obj) = none
  of := fun w s e => ⟨_, hdK_in, (Prod.mk.inj e).1, (Prod.mk.inj (Prod.mk.inj e).2).1, (Prod.mk.inj (Prod.mk.inj e).2).2⟩
  keeps := fun w h h' k g => by
    obtain ⟨K, hK, c, b, p⟩ := k
    exact ⟨K, PySem.W.Frag.In.keeps hK g, c, b, rfl⟩
def hdOb (s : PySem.W.SharedT) : He.Al × Bool × Option Obj := (He.obsE hdFa hdFn (hdK (HandSHeadRun.getT s)), hdB (hdK (HandSHeadRun.getT s)), none)
theorem hdOb_eq (s : PySem.W.SharedT) : hdOb s = hdHk.obs s.abs := by
  have e : HandSHeadRun.getT s = s.abs.heap.get? := funext fun a => HandSHeadRun.getT_eq s a
  unfold hdOb
  rw [e]
  rfl
theorem hdRun (w : World) : HandSHeadRun.RunEq (PySem.W.OpenLaw.row PySem.Challenge.rw_gridbases_k12_whole_divisors) (PySem.W.view (PySem.W.OpenLaw.row PySem.Challenge.rw_gridbases_k12_whole_divisors).prog [43]) hdHk hdOb 6200 hdNames w := by
  intro os
  kernel_rfl
/-! #### DL0 -/
/-! The D layer, part 0: tuple * int. -/
open AutoSeq1 (wpAny_loadPart')
theorem tuple_mul_one (l : Addr) (items : Array Value) (n : Nat) (dd : Option Addr) (sl : Array (Option Value)) (x : Int) (u : Tok) (c0 : (decide (x < -(2 ^ 63)) || decide (x ≥ 2 ^ 63)) = false) (c1 : (items.isEmpty || x == 1) = true) :
    Meets (Builtin.«tuple.__mul__» ⟨[.ref l, .int x u], []⟩) (fun _ R s => s.heap.get? l = some { cls := .type "tuple", dict := dd, data := .seq items n, slots := sl } ∧ ∀ tk, R (.ok (.ret (Value.ref l))) { s with toks := tk }) :=
  .of_wp fun prog w A R s h => by
    obtain ⟨hp, g, d, tk, os⟩ := s
    obtain ⟨hl, h⟩ := h
    have f1 := AutoSeq1.idx_int
    wp_walk using wpAny_loadPart' hl
    repeat (first
      | (refine wpAny_ite_false (decide_eq_false (by rw [c0]; exact Bool.false_ne_true)) ?_; wp_walk using wpAny_loadPart' hl)
      | (refine wpAny_ite_true (decide_eq_true c1) ?_; wp_walk using wpAny_loadPart' hl))
    exact ⟨_, rfl, h _⟩
theorem tuple_mul_none (l : Addr) (items : Array Value) (n : Nat) (dd : Option Addr) (sl : Array (Option Value)) (x : Int) (u : Tok) (c0 : (decide (x < -(2 ^ 63)) || decide (x ≥ 2 ^ 63)) = false) (c1 : (items.isEmpty || x == 1) = false) (c2 : (decide (x ≤ 0) || items.isEmpty) = true) :
    Meets (Builtin.«tuple.__mul__» ⟨[.ref l, .int x u], []⟩) (fun _ R s => s.heap.get? l = some { cls := .type "tuple", dict := dd, data := .seq items n, slots := sl } ∧
      R (.ok (.ret (Value.ref s.heap.objs.size))) { s with heap := s.heap.push { cls := Value.type "tuple", data := Data.seq #[] }, toks := s.toks }) :=
  .of_wp fun prog w A R s h => by
    obtain ⟨hp, g, d, tk, os⟩ := s
    obtain ⟨hl, h⟩ := h
    have f1 := AutoSeq1.idx_int
    wp_walk using wpAny_loadPart' hl
    repeat (first
      | (refine wpAny_ite_false (decide_eq_false (by rw [c0]; exact Bool.false_ne_true)) ?_; wp_walk using wpAny_loadPart' hl)
      | (refine wpAny_ite_false (decide_eq_false (by rw [c1]; exact Bool.false_ne_true)) ?_; wp_walk using wpAny_loadPart' hl)
      | (refine wpAny_ite_true (decide_eq_true c2) ?_; wp_walk using wpAny_loadPart' hl))
    exact ⟨_, rfl, h⟩
/-- t * k -/
def rRepA (K : PySem.W.Frag) : R2 := fun x y H Q => ∃ l k xs, x = .ref l ∧ y = .int k ∧ SqT K H l xs ∧ xs ≠ [] ∧ -1000 ≤ k ∧ k ≤ 1000 ∧ xs.length ≤ 1000 ∧ (k = 1 → Q (.ref l) H) ∧ (k ≠ 1 → ∀ p, H p = none → Q (.ref p) (upd H p (.tup (List.replicate k.toNat xs).flatten)))
theorem op_repA {X : Cx} : OpR X (binaryOp .Mult) (rRepA X.K) := by
  intro pins s σ H x y v u Q I rx ry h
  obtain ⟨l, k, xs, rfl, rfl, hT, hne, h0, h2, hz, q1, q2⟩ := h
  by_cases hk2 : 2 ≤ k
  · exact op_repT pins s σ H _ _ v u Q I rx ry ⟨l, k, xs, rfl, rfl, hT, hne, hk2, h2, hz, q2 (by omega)⟩
  cases rx
  obtain ⟨t, rfl⟩ := ry
  obtain ⟨its, r, ⟨⟨cls, dd, data, sl⟩, ho, hc, n, hd⟩, hs⟩ := I.tuple hT
  simp only at hc hd
  subst hc hd
  have hle : its.length = xs.length := r.length.symm
  have hn : its ≠ [] := fun e => hne (by
    rw [e] at hle
    exact List.eq_nil_of_length_eq_zero hle.symm)
  have hi : its.toArray.isEmpty = false := by
    cases its with
    | nil => exact absurd rfl hn
    | cons a b => rfl
  have c0 : (decide (k < -(2 ^ 63)) || decide (k ≥ 2 ^ 63)) = false := by
    rw [decide_eq_false (by omega), decide_eq_false (by omega)] <;> rfl
  by_cases hk1 : k = 1
  · have c1 : (its.toArray.isEmpty || k == 1) = true := by rw [hk1, hi]; rfl
    refine wpAny_binaryOp_repeat_ref (T := "tuple") (U := "int") (by decide) ⟨_, ho, rfl⟩ (fun s' => typeIs_int s' k t) noFill_tuple_mul F.fills_int_mul F.slot_int_rmul repeat_tuple F.slot_int_index.lookup
      (call_meets F.slot_int_rmul (typeIs_int s k t) F.entry_int_rmul (F.args_int_rmul_2 _ _) (int_rmul_tuple k t l its.toArray n dd sl)
        ⟨ho, rfl, ⟨_, ho, rfl⟩, call_meets F.slot_tuple_mul ⟨_, ho, rfl⟩ F.entry_tuple_mul (F.args_tuple_mul_2 _ _) (tuple_mul_one l its.toArray n dd sl k t c0 c1) ⟨ho, fun tk => ?_⟩⟩)
    exact ⟨.ref l, H, I.tok _, rfl, q1 hk1⟩
  · have c1 : (its.toArray.isEmpty || k == 1) = false := by
      rw [hi, Bool.false_or]
      exact beq_eq_false_iff_ne.mpr hk1
    have c2 : (decide (k ≤ 0) || its.toArray.isEmpty) = true := by
      rw [decide_eq_true (by omega)] <;> rfl
    refine wpAny_binaryOp_repeat_ref (T := "tuple") (U := "int") (by decide) ⟨_, ho, rfl⟩ (fun s' => typeIs_int s' k t) noFill_tuple_mul F.fills_int_mul F.slot_int_rmul repeat_tuple F.slot_int_index.lookup
      (call_meets F.slot_int_rmul (typeIs_int s k t) F.entry_int_rmul (F.args_int_rmul_2 _ _) (int_rmul_tuple k t l its.toArray n dd sl)
        ⟨ho, rfl, ⟨_, ho, rfl⟩, call_meets F.slot_tuple_mul ⟨_, ho, rfl⟩ F.entry_tuple_mul (F.args_tuple_mul_2 _ _) (tuple_mul_none l its.toArray n dd sl k t c0 c1 c2) ⟨ho, ?_⟩⟩)
    have ek : k.toNat = 0 := by omega
    have z := q2 hk1 _ (I.hok.fresh (Nat.le_refl _))
    rw [ek] at z
    refine ⟨.ref s.heap.objs.size, _, I.laid (t' := s.toks) (o := .tup []) (fun b ob q => Heap.get?_push_of_some _ q) (Nat.le_refl _) ?_, rfl, z⟩
    exact ⟨Nat.zero_le _, [], .nil, IsTup.new _ _⟩
/-! #### DL1 -/
/-! The D layer, part 1: plain data, the store, how they stand in the heap. -/
/-- plain data; a handle points into the store; scr: the law's own argument -/
inductive D where
  | non | bl (b : Bool) | int (i : Int) | str (x : Str) | flt (b : UInt64)
  | tup (ds : List D) | lst (ds : List D) | scr (ds : List D)
  | han (i : Nat) | cst (v : V) | exc (x : Str)
inductive O where
  | lst (ds : List D)
  | gone
  | ins (c : Str) (fs : List (Str × D))
  | dct (ks : List (List Int))
abbrev Sto := List O
abbrev Env := List (Option D)
/-- the written part, and the tables of code objects that are tracked (with the names of what is made there) -/
structure Fg where
  K : PySem.W.Frag
  T : List (Addr × Str)
/-- an exception that was caught: an instance of the class at C -/
def ExcO (a C : Addr) : HO := .ext fun h => ∃ oe vs, h.get? a = some oe ∧ (oe.cls = .ref C ∧ oe.dict = none) ∧ oe.data = .fields vs
mutual
inductive Rp (K : Fg) (F : Hp) (ads : List Addr) : D → V → Prop
  | non : Rp K F ads .non .non
  | bl (b : Bool) : Rp K F ads (.bl b) (.bl b)
  | int (i : Int) : Rp K F ads (.int i) (.int i)
  | str (x : Str) : Rp K F ads (.str x) (.str x)
  | flt (b : UInt64) : Rp K F ads (.flt b) (.flt b)
  | tup {a : Addr} {ds : List D} {vs : List V} : SqT K.K F a vs → Rps K F ads ds vs → Rp K F ads (.tup ds) (.ref a)
  | lst {a : Addr} {ds : List D} {vs : List V} : F a = some (.lst vs) → Rps K F ads ds vs → Rp K F ads (.lst ds) (.ref a)
  | scr {a : Addr} {ds : List D} {vs : List V} : SqL K.K F a vs → Rps K F ads ds vs → Rp K F ads (.scr ds) (.ref a)
  | han {i : Nat} {a : Addr} : ads[i]? = some a → Rp K F ads (.han i) (.ref a)
  | cst (v : V) : Rp K F ads (.cst v) v
  | exc {x : Str} {a C : Addr} : F a = some (ExcO a C) → PySem.W.nsIn K.K mainGlobals x = some (some (.ref C)) → Rp K F ads (.exc x) (.ref a)
inductive Rps (K : Fg) (F : Hp) (ads : List Addr) : List D → List V → Prop
  | nil : Rps K F ads [] []
  | cons {d : D} {v : V} {ds : List D} {vs : List V} : Rp K F ads d v → Rps K F ads ds vs → Rps K F ads (d :: ds) (v :: vs)
end
theorem Same.tup {K : PySem.W.Frag} {H H' : Hp} {a : Addr} {xs : List V} (e : Same H H') (h : SqT K H a xs) : SqT K H' a xs := by
  rcases h with (h | ⟨o, h⟩) | h
  · exact .inl (.inl (e _ _ h))
  · exact .inl (.inr ⟨o, e _ _ h⟩)
  · exact .inr h
section
variable {K : Fg} {F F' : Hp} {ads ads' : List Addr}
mutual
theorem Rp.mono (hs : Same F F') (hp : ∀ (i : Nat) a, ads[i]? = some a → ads'[i]? = some a) : ∀ {d : D} {v : V}, Rp K F ads d v → Rp K F' ads' d v
  | _, _, .non => .non
  | _, _, .bl b => .bl b
  | _, _, .int i => .int i
  | _, _, .str x => .str x
  | _, _, .flt b => .flt b
  | _, _, .tup h r => .tup (Same.tup hs h) (Rps.mono hs hp r)
  | _, _, .lst h r => .lst (hs _ _ h) (Rps.mono hs hp r)
  | _, _, .scr h r => .scr (hs.seq h) (Rps.mono hs hp r)
  | _, _, .han h => .han (hp _ _ h)
  | _, _, .cst v => .cst v
  | _, _, .exc h n => .exc (hs _ _ h) n
theorem Rps.mono (hs : Same F F') (hp : ∀ (i : Nat) a, ads[i]? = some a → ads'[i]? = some a) : ∀ {ds : List D} {vs : List V}, Rps K F ads ds vs → Rps K F' ads' ds vs
  | _, _, .nil => .nil
  | _, _, .cons r t => .cons (Rp.mono hs hp r) (Rps.mono hs hp t)
end
theorem Rps.length : ∀ {ds : List D} {vs : List V}, Rps K F ads ds vs → ds.length = vs.length
  | _, _, .nil => rfl
  | _, _, .cons _ t => by simp [Rps.length t]
theorem Rps.append : ∀ {ds es : List D} {vs us : List V}, Rps K F ads ds vs → Rps K F ads es us → Rps K F ads (ds ++ es) (vs ++ us)
  | _, _, _, _, .nil, t => t
  | _, _, _, _, .cons r t, u => .cons r (Rps.append t u)
theorem Rps.get : ∀ {ds : List D} {vs : List V} {i : Nat} {d : D}, Rps K F ads ds vs → ds[i]? = some d → ∃ v, vs[i]? = some v ∧ Rp K F ads d v
  | _, _, _, _, .nil, e => by simp at e
  | _, _, 0, _, .cons r _, e => by simp at e; subst e; exact ⟨_, rfl, r⟩
  | _, _, i + 1, d, .cons _ t, e => by
    obtain ⟨u, h1, h2⟩ := Rps.get (i := i) (d := d) t (by simpa using e)
    exact ⟨u, by simpa using h1, h2⟩
theorem Rps.take : ∀ {ds : List D} {vs : List V} (n : Nat), Rps K F ads ds vs → Rps K F ads (ds.take n) (vs.take n)
  | _, _, 0, _ => .nil
  | _, _, _ + 1, .nil => .nil
  | _, _, n + 1, .cons r t => .cons r (Rps.take n t)
theorem Rps.drop : ∀ {ds : List D} {vs : List V} (n : Nat), Rps K F ads ds vs → Rps K F ads (ds.drop n) (vs.drop n)
  | _, _, 0, r => r
  | _, _, _ + 1, .nil => .nil
  | _, _, n + 1, .cons _ t => Rps.drop n t
theorem Rps.set {d : D} {v : V} (r : Rp K F ads d v) : ∀ {ds : List D} {vs : List V} (i : Nat), Rps K F ads ds vs → Rps K F ads (ds.set i d) (vs.set i v)
  | _, _, _, .nil => .nil
  | _, _, 0, .cons _ t => .cons r t
  | _, _, i + 1, .cons q t => .cons q (Rps.set r i t)
theorem Rps.reverse {ds : List D} {vs : List V} (h : Rps K F ads ds vs) : Rps K F ads ds.reverse vs.reverse := by
  induction h using Rps.rec (motive_1 := fun _ _ _ => True) with
  | nil => exact .nil
  | cons r t _ ih => rw [List.reverse_cons, List.reverse_cons]; exact ih.append (.cons r .nil)
  | _ => trivial
theorem Rps.dropLast {ds : List D} {vs : List V} (h : Rps K F ads ds vs) : Rps K F ads ds.dropLast vs.dropLast := by
  rw [List.dropLast_eq_take, List.dropLast_eq_take, h.length]
  exact h.take _
theorem Rps.ints : ∀ {ns : List Int} {vs : List V}, Rps K F ads (ns.map D.int) vs → vs = ns.map V.int
  | [], _, .nil => rfl
  | n :: ns, _, .cons r t => by
    cases r
    rw [Rps.ints t]; rfl
theorem Rps.bls : ∀ {ns : List Bool} {vs : List V}, Rps K F ads (ns.map D.bl) vs → vs = ns.map V.bl
  | [], _, .nil => rfl
  | n :: ns, _, .cons r t => by
    cases r
    rw [Rps.bls t]; rfl
theorem Rps.strs : ∀ {ns : List Str} {vs : List V}, Rps K F ads (ns.map D.str) vs → vs = ns.map V.str
  | [], _, .nil => rfl
  | n :: ns, _, .cons r t => by
    cases r
    rw [Rps.strs t]; rfl
theorem Rps.ofInts : ∀ (ns : List Int), Rps K F ads (ns.map D.int) (ns.map V.int)
  | [] => .nil
  | n :: ns => .cons (.int n) (Rps.ofInts ns)
theorem Rps.ofStrs : ∀ (ns : List Str), Rps K F ads (ns.map D.str) (ns.map V.str)
  | [] => .nil
  | n :: ns => .cons (.str n) (Rps.ofStrs ns)
theorem Rps.rep {ds : List D} {vs : List V} (h : Rps K F ads ds vs) : ∀ k : Nat, Rps K F ads (List.replicate k ds).flatten (List.replicate k vs).flatten
  | 0 => .nil
  | k + 1 => by
    rw [List.replicate_succ, List.replicate_succ, List.flatten_cons, List.flatten_cons]
    exact h.append (Rps.rep h k)
end
/-- F lies in H; a table of code objects is told by its name alone: it may grow -/
def Sub (F H : Hp) : Prop := ∀ b o, F b = some o → match o with
  | .tbl m => ∃ q t, m = #[Value.str q t] ∧ LamX.TabS H b q
  | _ => H b = some o
theorem Sub.there {F H : Hp} (e : Sub F H) {b : Addr} {o : HO} (h : F b = some o) : ∃ u, H b = some u := by
  have q := e b o h
  cases o with
  | tbl m => obtain ⟨_, _, _, ps, hp, _⟩ := q; exact ⟨_, hp⟩
  | _ => exact ⟨_, q⟩
theorem Sub.free {F H : Hp} (e : Sub F H) {b : Addr} (h : H b = none) : F b = none := by
  cases q : F b with
  | none => rfl
  | some o => obtain ⟨u, z⟩ := e.there q; rw [h] at z; cases z
theorem Sub.seq {K : PySem.W.Frag} {F H : Hp} {a : Addr} {xs : List V} (e : Sub F H) (h : SqL K F a xs) : SqL K H a xs := by
  rcases h with (h | ⟨o, h⟩) | h
  · exact .inl (.inl (e _ _ h))
  · exact .inl (.inr ⟨o, e _ _ h⟩)
  · exact .inr h
theorem Sub.tup {K : PySem.W.Frag} {F H : Hp} {a : Addr} {xs : List V} (e : Sub F H) (h : SqT K F a xs) : SqT K H a xs := by
  rcases h with (h | ⟨o, h⟩) | h
  · exact .inl (.inl (e _ _ h))
  · exact .inl (.inr ⟨o, e _ _ h⟩)
  · exact .inr h
/-- H' holds F too -/
theorem Sub.to {F H H' : Hp} (e : Sub F H) (k : ∀ b u, F b = some u → (∀ m, u ≠ .tbl m) → H' b = H b) (t : ∀ b q, LamX.TabS H b q → (∃ m, F b = some (.tbl m)) → LamX.TabS H' b q) : Sub F H' := fun b o h => by
  have q := e b o h
  cases o with
  | tbl m => obtain ⟨n, u, e1, e2⟩ := q; exact ⟨n, u, e1, t b n e2 ⟨m, h⟩⟩
  | _ => exact (k b _ h (fun m z => by cases z)).trans q
theorem tabs_upd {H : Hp} {b a : Addr} {q : Str} {o : HO} (t : LamX.TabS H b q) (hb : b ≠ a) (hc : ∀ c q, H c = some (LamX.CodeO c q) → c ≠ a) : LamX.TabS (upd H a o) b q := by
  obtain ⟨ps, h1, h2, h3⟩ := t
  refine ⟨ps, by rw [upd_ne hb]; exact h1, h2, fun pos cv hcv => ?_⟩
  obtain ⟨c, e1, e2⟩ := h3 pos cv hcv
  exact ⟨c, e1, by rw [upd_ne (hc c q e2)]; exact e2⟩
def isTb : HO → Bool
  | .tbl _ => true
  | _ => false
/-- a dict whose keys are tuples of ints (the keys' tuples stand elsewhere) -/
def hTup (k : List Int) : Int := reduceHash (Builtin.Tuple.tupleHashOf (k.map hashInt))
def entD (x : List Int × Addr × Value) : DictEntry := ⟨hTup x.1, .ref x.2.1, x.2.2⟩
def DctO (a : Addr) (xs : List (List Int × Addr × Value)) : HO := .ext fun h => ∃ o es ep, h.get? a = some o ∧ o.ExactDict ∧ o.data = .dict es ep ∧ es.toList = xs.map entD
theorem dct_noCode {a : Addr} {xs : List (List Int × Addr × Value)} {q : Str} (e : DctO a xs = LamX.CodeO a q) : False := by
  have e1 := HO.ext.inj e
  let oz : Obj := { cls := .type "dict", data := .dict (xs.map entD).toArray 0 }
  have g : (⟨Array.replicate (a + 1) oz, {}⟩ : Heap).get? a = some oz := by
    unfold Heap.get?
    simp [oz]
  have h : ∃ o es ep, (⟨Array.replicate (a + 1) oz, {}⟩ : Heap).get? a = some o ∧ o.ExactDict ∧ o.data = .dict es ep ∧ es.toList = xs.map entD := ⟨oz, _, 0, g, ⟨rfl, rfl, rfl⟩, rfl, by simp⟩
  have k := congrFun e1 ⟨Array.replicate (a + 1) oz, {}⟩
  have h2 := k.mp h
  obtain ⟨oc, vs, t, g2, d, _⟩ := h2
  rw [g] at g2
  cases g2
  cases d
/-- what stands at a handle's address -/
def ORp (K : Fg) (F : Hp) (ads : List Addr) (H : Hp) (a : Addr) : O → Prop
  | .lst ds => F a = none ∧ ∃ vs, H a = some (.lst vs) ∧ Rps K F ads ds vs
  | .gone => ∃ vs, H a = some (.lst vs)
  | .ins c fs => F a = none ∧ ∃ C dx gs, H a = some (.ins C dx gs) ∧ PySem.W.nsIn K.K mainGlobals c = some (some (.ref C)) ∧ gs.map (·.1) = fs.map (·.1) ∧ Rps K F ads (fs.map (·.2)) (gs.map (·.2))
  | .dct ks => F a = none ∧ ∃ xs : List (List Int × Addr × Value), H a = some (DctO a xs) ∧ (a == sysModules) = false ∧ xs.map (·.1) = ks ∧ ks.Nodup ∧ ∀ x ∈ xs, SqT K.K F x.2.1 (x.1.map V.int)
structure Sim (K : Fg) (F : Hp) (ads : List Addr) (S : Sto) (H : Hp) : Prop where
  sub : Sub F H
  tab : ∀ p ∈ K.T, F p.1 = some (.tbl #[.str p.2 0])
  tb2 : ∀ b m, F b = some (.tbl m) → ∃ q, (b, q) ∈ K.T ∧ m = #[.str q 0]
  len : ads.length = S.length
  nd : ads.Nodup
  ob : ∀ (i : Nat) a o, ads[i]? = some a → S[i]? = some o → ORp K F ads H a o
/-- nothing stands there (or a table) -/
def Fresh (H : Hp) (a : Addr) : Prop := ∀ o, H a = some o → isTb o = true
structure Ext (F : Hp) (ads : List Addr) (H : Hp) (F' : Hp) (ads' : List Addr) (H' : Hp) : Prop where
  sub : Same F F'
  pre : ∀ (i : Nat) a, ads[i]? = some a → ads'[i]? = some a
  new : ∀ a ∈ ads', a ∈ ads ∨ Fresh H a
  kep : ∀ b o, H b = some o → b ∉ ads → isTb o = false → H' b = some o
  fno : ∀ b o, H b = some o → b ∉ ads → isTb o = false → F b = none → F' b = none
section
variable {K : Fg} {F F1 F2 F' : Hp} {ads ads1 ads2 ads' : List Addr} {H H1 H2 H' : Hp} {S S' : Sto} {a : Addr}
theorem Fresh.none (h : H a = none) : Fresh H a := fun o e => by rw [h] at e; cases e
theorem Ext.refl : Ext F ads H F ads H := ⟨Same.refl _, fun _ _ h => h, fun _ h => .inl h, fun _ _ h _ _ => h, fun _ _ _ _ _ h => h⟩
theorem Ext.trans (x : Ext F ads H F1 ads1 H1) (y : Ext F1 ads1 H1 F2 ads2 H2) : Ext F ads H F2 ads2 H2 := by
  have nb1 : ∀ b o, H b = some o → b ∉ ads → isTb o = false → b ∉ ads1 := fun b o h nb t hb => by
    rcases x.new b hb with q | q
    · exact nb q
    · rw [q o h] at t; cases t
  refine ⟨x.sub.trans y.sub, fun i a h => y.pre i a (x.pre i a h), fun a h => ?_, fun b o h nb t => y.kep b o (x.kep b o h nb t) (nb1 b o h nb t) t, fun b o h nb t hF => y.fno b o (x.kep b o h nb t) (nb1 b o h nb t) t (x.fno b o h nb t hF)⟩
  rcases y.new a h with q | q
  · exact x.new a q
  · by_cases ha : a ∈ ads
    · exact .inl ha
    · refine .inr fun o e => ?_
      cases t : isTb o with
      | true => rfl
      | false => rw [q o (x.kep a o e ha t)] at t; cases t
theorem Rp.ext {d : D} {v : V} (x : Ext F ads H F' ads' H') (r : Rp K F ads d v) : Rp K F' ads' d v := r.mono x.sub x.pre
theorem Rps.ext {d : List D} {v : List V} (x : Ext F ads H F' ads' H') (r : Rps K F ads d v) : Rps K F' ads' d v := r.mono x.sub x.pre
theorem Sim.at (s : Sim K F ads S H) {i : Nat} {o : O} (h : S[i]? = some o) : ∃ a, ads[i]? = some a ∧ ORp K F ads H a o := by
  have hi : i < S.length := (List.getElem?_eq_some_iff.mp h).1
  have ha : ads[i]? = some (ads[i]'(by rw [s.len]; exact hi)) := List.getElem?_eq_getElem _
  exact ⟨_, ha, s.ob i _ o ha h⟩
theorem ORp.there {a : Addr} {o : O} (h : ORp K F ads H a o) : ∃ u, H a = some u := by
  cases o with
  | lst ds => obtain ⟨_, vs, e, _⟩ := h; exact ⟨_, e⟩
  | gone => obtain ⟨vs, e⟩ := h; exact ⟨_, e⟩
  | ins c fs => obtain ⟨_, C, dx, gs, e, _⟩ := h; exact ⟨_, e⟩
  | dct kvs => obtain ⟨_, us, e, _⟩ := h; exact ⟨_, e⟩
theorem Sim.there (s : Sim K F ads S H) {a : Addr} (h : a ∈ ads) : ∃ u, H a = some u := by
  obtain ⟨i, hi, e⟩ := List.getElem_of_mem h
  have ha : ads[i]? = some a := by rw [List.getElem?_eq_getElem hi, e]
  have hS : i < S.length := by rw [← s.len]; exact hi
  exact (s.ob i a S[i] ha (List.getElem?_eq_getElem hS)).there
theorem ORp.noCode {a : Addr} {o : O} (h : ORp K F ads H a o) : (∀ c q, H c = some (LamX.CodeO c q) → c ≠ a) ∧ ∀ m, H a ≠ some (.tbl m) := by
  have key : ∀ u, H a = some u → (∀ φ, u ≠ .ext φ) → (∀ m, u ≠ .tbl m) → (∀ c q, H c = some (LamX.CodeO c q) → c ≠ a) ∧ ∀ m, H a ≠ some (.tbl m) := fun u e n n2 => by
    refine ⟨fun c q hc z => ?_, fun m z => n2 m (Option.some.inj (e.symm.trans z))⟩
    subst z
    rw [e] at hc
    exact n _ (Option.some.inj hc)
  cases o with
  | lst ds => obtain ⟨_, vs, e, _⟩ := h; exact key _ e (fun φ z => by cases z) (fun φ z => by cases z)
  | gone => obtain ⟨vs, e⟩ := h; exact key _ e (fun φ z => by cases z) (fun φ z => by cases z)
  | ins c fs => obtain ⟨_, C, dx, gs, e, _⟩ := h; exact key _ e (fun φ z => by cases z) (fun φ z => by cases z)
  | dct ks =>
    obtain ⟨_, us, e, _⟩ := h
    refine ⟨fun c q hc z => ?_, fun m z => by rw [e] at z; cases z⟩
    subst z
    rw [e] at hc
    exact dct_noCode (Option.some.inj hc)
theorem Sim.noCode (s : Sim K F ads S H) {a : Addr} (h : a ∈ ads) : (∀ c q, H c = some (LamX.CodeO c q) → c ≠ a) ∧ ∀ m, H a ≠ some (.tbl m) := by
  obtain ⟨i, hi, e⟩ := List.getElem_of_mem h
  have ha : ads[i]? = some a := by rw [List.getElem?_eq_getElem hi, e]
  have hS : i < S.length := by rw [← s.len]; exact hi
  exact (s.ob i a S[i] ha (List.getElem?_eq_getElem hS)).noCode
theorem Sim.fresh (s : Sim K F ads S H) {p : Addr} (h : H p = none) : p ∉ ads ∧ F p = none := by
  refine ⟨fun hp => ?_, s.sub.free h⟩
  obtain ⟨u, e⟩ := s.there hp
  rw [e] at h; cases h
theorem ORp.keep {a : Addr} {o : O} (h : ORp K F ads H a o) (sF : Same F F') (pr : ∀ (i : Nat) a, ads[i]? = some a → ads'[i]? = some a) (e : H' a = H a) (f : F a = none → F' a = none) : ORp K F' ads' H' a o := by
  cases o with
  | lst ds => obtain ⟨q, vs, e1, r⟩ := h; exact ⟨f q, vs, by rw [e]; exact e1, r.mono sF pr⟩
  | gone => obtain ⟨u, e1⟩ := h; exact ⟨u, by rw [e]; exact e1⟩
  | ins c fs => obtain ⟨q, C, dx, gs, e1, n, k, r⟩ := h; exact ⟨f q, C, dx, gs, by rw [e]; exact e1, n, k, r.mono sF pr⟩
  | dct ks => obtain ⟨q, us, e1, z, k, n, r⟩ := h; exact ⟨f q, us, by rw [e]; exact e1, z, k, n, fun x hx => Same.tup sF (r x hx)⟩
/-- a new frozen object -/
theorem Sim.frz (s : Sim K F ads S H) {p : Addr} (hp : H p = none) (o : HO) (ho : isTb o = false := by rfl) : Sim K (upd F p o) ads S (upd H p o) ∧ Ext F ads H (upd F p o) ads (upd H p o) := by
  obtain ⟨np, nF⟩ := s.fresh hp
  have sF : Same F (upd F p o) := fun b u e => by rw [upd_ne (ne_of_none e nF)]; exact e
  have up : ∀ b u, H b = some u → upd H p o b = some u := fun b u e => by rw [upd_ne (ne_of_none e hp)]; exact e
  have tb : ∀ b m, upd F p o b = some (.tbl m) → F b = some (.tbl m) := fun b m e => by
    by_cases hb : b = p
    · subst hb; rw [upd_same] at e; cases e; cases ho
    · rw [upd_ne hb] at e; exact e
  refine ⟨⟨fun b u e => ?_, fun p hp => sF _ _ (s.tab p hp), fun b m e => s.tb2 b m (tb b m e), s.len, s.nd, fun i a q ha hq => ?_⟩, sF, fun _ _ h => h, fun _ h => .inl h, fun b u e _ _ => up b u e, fun b u e _ _ z => by rw [upd_ne (ne_of_none e hp)]; exact z⟩
  · by_cases hb : b = p
    · subst hb
      rw [upd_same] at e
      cases e
      cases o with
      | tbl m => cases ho
      | _ => exact upd_same
    · rw [upd_ne hb] at e
      have q := s.sub b u e
      cases u with
      | tbl m => obtain ⟨n, t, e1, e2⟩ := q; exact ⟨n, t, e1, e2.ext up⟩
      | _ => exact up b _ q
  · have na : a ≠ p := fun e => np (e ▸ List.mem_of_getElem? ha)
    exact (s.ob i a q ha hq).keep sF (fun _ _ h => h) (upd_ne na) (fun z => by rw [upd_ne na]; exact z)
/-- a new object of the store -/
theorem Sim.thw (s : Sim K F ads S H) {p : Addr} (hp : H p = none) (u : HO) (o : O) (h : ORp K F (ads ++ [p]) (upd H p u) p o) : Sim K F (ads ++ [p]) (S ++ [o]) (upd H p u) ∧ Ext F ads H F (ads ++ [p]) (upd H p u) := by
  obtain ⟨np, nF⟩ := s.fresh hp
  have up : ∀ b v, H b = some v → upd H p u b = some v := fun b v e => by rw [upd_ne (ne_of_none e hp)]; exact e
  have pr : ∀ (i : Nat) a, ads[i]? = some a → (ads ++ [p])[i]? = some a := fun i a e => by
    rw [List.getElem?_append_left (List.getElem?_eq_some_iff.mp e).1]; exact e
  refine ⟨⟨s.sub.to (fun b v e _ => upd_ne (ne_of_none e nF)) (fun b q t _ => t.ext up), s.tab, s.tb2, by simp [s.len], ?_, fun i a q ha hq => ?_⟩, Same.refl _, pr, fun a h => ?_, fun b v e _ _ => up b v e, fun _ _ _ _ _ z => z⟩
  · rw [List.nodup_append]
    exact ⟨s.nd, by simp, fun a ha b hb => by simp at hb; subst hb; exact fun e => np (e ▸ ha)⟩
  · by_cases hi : i < ads.length
    · rw [List.getElem?_append_left hi] at ha
      rw [List.getElem?_append_left (by rw [← s.len]; exact hi)] at hq
      have na : a ≠ p := fun e => np (e ▸ List.mem_of_getElem? ha)
      exact (s.ob i a q ha hq).keep (Same.refl _) pr (upd_ne na) id
    · have hi' : i = ads.length := by
        have := (List.getElem?_eq_some_iff.mp ha).1
        simp at this; omega
      subst hi'
      rw [List.getElem?_append_right (Nat.le_refl _)] at ha
      rw [s.len, List.getElem?_append_right (Nat.le_refl _)] at hq
      simp at ha hq
      subst ha; subst hq
      exact h
  · rcases List.mem_append.mp h with q | q
    · exact .inl q
    · simp at q; subst q; exact .inr (Fresh.none hp)
theorem nd_get {l : List Addr} (h : l.Nodup) {i j : Nat} {a : Addr} (x : l[i]? = some a) (y : l[j]? = some a) : i = j := L2.nd_ix h x y
/-- an object of the store is changed -/
theorem Sim.put (s : Sim K F ads S H) {i : Nat} {a : Addr} {o : O} (ha : ads[i]? = some a) (hF : F a = none) (u : HO) (h : ORp K F ads (upd H a u) a o) : Sim K F ads (S.set i o) (upd H a u) ∧ Ext F ads H F ads (upd H a u) := by
  obtain ⟨nc, nt⟩ := s.noCode (List.mem_of_getElem? ha)
  refine ⟨⟨s.sub.to (fun b v e _ => upd_ne (ne_of_none e hF)) (fun b q t z => tabs_upd t (fun e => by obtain ⟨m, z⟩ := z; rw [e, hF] at z; cases z) nc), s.tab, s.tb2, by simp [s.len], s.nd, fun j b q hb hq => ?_⟩, Same.refl _, fun _ _ h => h, fun _ h => .inl h, fun b u e nb _ => ?_, fun _ _ _ _ _ z => z⟩
  · by_cases hj : j = i
    · subst hj
      rw [ha] at hb; cases hb
      have hi : j < S.length := by rw [← s.len]; exact (List.getElem?_eq_some_iff.mp ha).1
      rw [List.getElem?_set_self hi] at hq
      cases hq
      exact h
    · rw [List.getElem?_set_ne (fun e => hj e.symm)] at hq
      have nb : b ≠ a := fun e => hj (nd_get s.nd hb (e ▸ ha))
      exact (s.ob j b q hb hq).keep (Same.refl _) (fun _ _ h => h) (upd_ne nb) id
  · have : b ≠ a := fun e => nb (e ▸ List.mem_of_getElem? ha)
    rw [upd_ne this]; exact e
/-- a list of the store is frozen -/
theorem Sim.freeze (s : Sim K F ads S H) {i : Nat} {a : Addr} {vs : List V} {ds : List D} (ha : ads[i]? = some a) (hH : H a = some (.lst vs)) (hF : F a = none) : Sim K (upd F a (.lst vs)) ads (S.set i .gone) H ∧ Ext F ads H (upd F a (.lst vs)) ads H := by
  have sF : Same F (upd F a (.lst vs)) := fun b u e => by rw [upd_ne (ne_of_none e hF)]; exact e
  have tb : ∀ b m, upd F a (.lst vs) b = some (.tbl m) → F b = some (.tbl m) := fun b m e => by
    by_cases hb : b = a
    · subst hb; rw [upd_same] at e; cases e
    · rw [upd_ne hb] at e; exact e
  refine ⟨⟨fun b u e => ?_, fun p hp => sF _ _ (s.tab p hp), fun b m e => s.tb2 b m (tb b m e), by simp [s.len], s.nd, fun j b q hb hq => ?_⟩, sF, fun _ _ h => h, fun _ h => .inl h, fun b u e nb _ => e, fun b u e nb _ z => by
    have : b ≠ a := fun q => nb (by rw [q]; exact List.mem_of_getElem? ha)
    rw [upd_ne this]; exact z⟩
  · by_cases hb : b = a
    · subst hb; rw [upd_same] at e; cases e; exact hH
    · rw [upd_ne hb] at e; exact s.sub b u e
  · by_cases hj : j = i
    · subst hj
      rw [ha] at hb; cases hb
      have hi : j < S.length := by rw [← s.len]; exact (List.getElem?_eq_some_iff.mp ha).1
      rw [List.getElem?_set_self hi] at hq
      cases hq
      exact ⟨_, hH⟩
    · rw [List.getElem?_set_ne (fun e => hj e.symm)] at hq
      have nb : b ≠ a := fun e => hj (nd_get s.nd hb (e ▸ ha))
      exact (s.ob j b q hb hq).keep sF (fun _ _ h => h) rfl (fun z => by rw [upd_ne nb]; exact z)
end
/-! ### one tracked thing left out of sight -/
def er (H : Hp) (D : Addr) : Hp := fun b => if b = D then none else H b
theorem er_ne {H : Hp} {D b : Addr} (h : b ≠ D) : er H D b = H b := by unfold er; rw [if_neg h]
theorem er_same {H : Hp} {D : Addr} : er H D D = none := by unfold er; rw [if_pos rfl]
theorem er_some {H : Hp} {D b : Addr} {o : HO} (h : er H D b = some o) : b ≠ D ∧ H b = some o := by
  by_cases e : b = D
  · subst e; rw [er_same] at h; cases h
  · rw [er_ne e] at h; exact ⟨e, h⟩
theorem er_upd {H : Hp} {D : Addr} {o : HO} : er (upd H D o) D = er H D := by
  funext b
  by_cases e : b = D
  · subst e; rw [er_same, er_same]
  · rw [er_ne e, er_ne e, upd_ne e]
theorem er_none {H : Hp} {D : Addr} (h : H D = none) : er H D = H := by
  funext b
  by_cases e : b = D
  · subst e; rw [er_same, h]
  · rw [er_ne e]
theorem upd_er {H : Hp} {D : Addr} {o : HO} (h : H D = some o) : upd (er H D) D o = H := by
  funext b
  by_cases e : b = D
  · subst e; rw [upd_same, h]
  · rw [upd_ne e, er_ne e]
section
variable {K : Fg} {F F' : Hp} {ads ads' : List Addr} {H H' : Hp} {S : Sto} {D : Addr}
theorem Ext.er (x : Ext F ads H F' ads' H') : Ext F ads (er H D) F' ads' (er H' D) where
  sub := x.sub
  pre := x.pre
  new := fun a h => (x.new a h).elim .inl fun q => .inr fun o e => q o (er_some e).2
  kep := fun b o h nb t => by
    obtain ⟨e, h⟩ := er_some h
    rw [er_ne e]; exact x.kep b o h nb t
  fno := fun b o h nb t z => x.fno b o (er_some h).2 nb t z
theorem Sim.er (s : Sim K F ads S H) (h1 : D ∉ ads) (h2 : F D = none) (h3 : ∃ vs, H D = some (.lst vs)) : Sim K F ads S (er H D) := by
  obtain ⟨vs, h3⟩ := h3
  refine ⟨s.sub.to (fun b o e _ => er_ne (ne_of_none e h2)) (fun b q t z => ?_), s.tab, s.tb2, s.len, s.nd, fun i a o ha ho => (s.ob i a o ha ho).keep (Same.refl _) (fun _ _ h => h) (er_ne fun e => h1 (e ▸ List.mem_of_getElem? ha)) id⟩
  obtain ⟨ps, k1, k2, k3⟩ := t
  refine ⟨ps, by rw [er_ne (fun e => by subst e; rw [h3] at k1; cases k1)]; exact k1, k2, fun pos cv hcv => ?_⟩
  obtain ⟨c, e1, e2⟩ := k3 pos cv hcv
  exact ⟨c, e1, by rw [er_ne (fun e => by subst e; rw [h3] at e2; cases e2)]; exact e2⟩
theorem Sim.uner (s : Sim K F ads S (DLay.er H D)) : Sim K F ads S H := by
  have na : ∀ a ∈ ads, a ≠ D := fun a ha e => by
    obtain ⟨u, q⟩ := s.there ha
    subst e; rw [er_same] at q; cases q
  refine ⟨s.sub.to (fun b o e _ => ?_) (fun b q t _ => t.ext fun c o e => (er_some e).2), s.tab, s.tb2, s.len, s.nd, fun i a o ha ho => (s.ob i a o ha ho).keep (Same.refl _) (fun _ _ h => h) (er_ne (na a (List.mem_of_getElem? ha))).symm id⟩
  obtain ⟨u, z⟩ := s.sub.there e
  obtain ⟨nb, _⟩ := er_some z
  exact (er_ne nb).symm
end
/-! ### the slots -/
structure EnvR (K : Fg) (F : Hp) (ads : List Addr) (env : Env) (σ : L2.St) : Prop where
  len : env.length = σ.length
  get : ∀ (i : Nat) d, env[i]? = some (some d) → ∃ v, σ[i]? = some (some v) ∧ Rp K F ads d v
section
variable {K : Fg} {F F' : Hp} {ads ads' : List Addr} {H H' : Hp} {env : Env} {σ : L2.St}
theorem EnvR.ext (x : Ext F ads H F' ads' H') (e : EnvR K F ads env σ) : EnvR K F' ads' env σ :=
  ⟨e.len, fun i d h => let ⟨v, a, r⟩ := e.get i d h; ⟨v, a, r.ext x⟩⟩
theorem EnvR.set (e : EnvR K F ads env σ) {i : Nat} {d : D} {v : V} (r : Rp K F ads d v) : EnvR K F ads (env.set i (some d)) (σ.set i (some v)) := by
  refine ⟨by simp [e.len], fun j c h => ?_⟩
  by_cases hj : j = i
  · subst hj
    by_cases hl : j < env.length
    · rw [List.getElem?_set_self hl] at h
      cases h
      exact ⟨v, List.getElem?_set_self (by rw [← e.len]; exact hl), r⟩
    · rw [List.getElem?_eq_none (by simpa using hl)] at h; cases h
  · rw [List.getElem?_set_ne (fun q => hj q.symm)] at h
    obtain ⟨u, a, q⟩ := e.get j c h
    exact ⟨u, by rw [List.getElem?_set_ne (fun q => hj q.symm)]; exact a, q⟩
def wipeD (env : Env) : List Nat → Env
  | [] => env
  | v :: vs => (wipeD env vs).set v none
theorem EnvR.setN (e : EnvR K F ads env σ) {i : Nat} : EnvR K F ads (env.set i none) (σ.set i none) := by
  refine ⟨by simp [e.len], fun j c h => ?_⟩
  by_cases hj : j = i
  · subst hj
    by_cases hl : j < env.length
    · rw [List.getElem?_set_self hl] at h; cases h
    · rw [List.getElem?_eq_none (by simpa using hl)] at h; cases h
  · rw [List.getElem?_set_ne (fun q => hj q.symm)] at h
    obtain ⟨u, a, q⟩ := e.get j c h
    exact ⟨u, by rw [List.getElem?_set_ne (fun q => hj q.symm)]; exact a, q⟩
theorem EnvR.wipe (e : EnvR K F ads env σ) : ∀ vs : List Nat, EnvR K F ads (wipeD env vs) (L2.wipe σ vs)
  | [] => e
  | v :: vs => (EnvR.wipe e vs).setN
end
/-! #### DL2 -/
/-! The D layer, part 2: readings, expressions. -/
abbrev QD := D → Sto → Prop
abbrev QL := List D → Sto → Prop
abbrev QB := Bool → Sto → Prop
abbrev XD := Str → Sto → Prop
abbrev WE := Env → Sto → QD → XD → Prop
abbrev WT := Env → Sto → QB → XD → Prop
abbrev WL := Env → Sto → QL → XD → Prop
/-- the syntax' surroundings -/
structure Sc where
  N : List Str
  sc : Scope
  fn : Str → Bool
abbrev scOf (X : Cx) : Sc := ⟨X.N, X.env.scope, X.fn⟩
/-- what does not change within a def -/
abbrev kt (X : Cx) (T : List (Addr × Str)) : Fg := ⟨X.K, T⟩
structure Cy where
  prog : Program
  w : World
  K : PySem.W.Frag
  mg : Str → Option Value
  base : Heap
  A : Around
  code : Value
  qual : Str
  T : List (Addr × Str)
abbrev cyOf (X : Cx) (T : List (Addr × Str)) : Cy := ⟨X.prog, X.w, X.K, X.mg, X.base, X.A, X.env.code, X.env.qual, T⟩
structure Good (X : Cx) (W : WX) : Prop where
  calm : X.calm = true
  nd : X.N.Nodup
  tk : Takes X W
  own : PassesOwn (model X.prog X.w) X.A X.env X.xe
  un : X.A.units + 200 < cLine
  dp : X.A.depth + 5 < recursionLimit
/-! ### readings -/
section
variable (K : Fg) (mg : Str → Option Value) (W : WX)
def KX (F : Hp) (ads : List Addr) (H : Hp) (σ : L2.St) (Xd : XD) : Prop := ∀ F' ads' S' H' x, Ext F ads H F' ads' H' → Sim K F' ads' S' H' → Xd x S' → W ((mg x).getD .none) none σ H'
def KV (F : Hp) (ads : List Addr) (H : Hp) (Qd : QD) (Q : VK) : Prop := ∀ F' ads' S' H' d v, Ext F ads H F' ads' H' → Sim K F' ads' S' H' → Rp K F' ads' d v → Qd d S' → Q v H'
def KB (F : Hp) (ads : List Addr) (H : Hp) (Qd : QB) (Q : Bool → Hp → Prop) : Prop := ∀ F' ads' S' H' b, Ext F ads H F' ads' H' → Sim K F' ads' S' H' → Qd b S' → Q b H'
def KA (n : Nat) (F : Hp) (ads : List Addr) (H : Hp) (Qd : QL) (Q : List V → Hp → Prop) : Prop := ∀ F' ads' S' H' ds vs, Ext F ads H F' ads' H' → Sim K F' ads' S' H' → Rps K F' ads' ds vs → ds.length = n → Qd ds S' → Q vs H'
def KL (F : Hp) (ads : List Addr) (H : Hp) (Qd : QL) (Q : VK) : Prop := ∀ F' ads' S' H' ds vs p, Ext F ads H F' ads' H' → Sim K F' ads' S' H' → Rps K F' ads' ds vs → H' p = none → Qd ds S' → Q (.ref p) (upd H' p (.lst vs))
def tE (w : WE) : TE := fun σ H Q => ∃ env S F ads Qd Xd, EnvR K F ads env σ ∧ Sim K F ads S H ∧ w env S Qd Xd ∧ KV K F ads H Qd Q ∧ KX K mg W F ads H σ Xd
def tT (w : WT) : TT := fun σ H Q => ∃ env S F ads Qd Xd, EnvR K F ads env σ ∧ Sim K F ads S H ∧ w env S Qd Xd ∧ KB K F ads H Qd Q ∧ KX K mg W F ads H σ Xd
def tA (n : Nat) (w : WL) : TA := fun σ H Q => ∃ env S F ads Qd Xd, EnvR K F ads env σ ∧ Sim K F ads S H ∧ w env S Qd Xd ∧ KA K n F ads H Qd Q ∧ KX K mg W F ads H σ Xd
def tL (w : WL) : TE := fun σ H Q => ∃ env S F ads Qd Xd, EnvR K F ads env σ ∧ Sim K F ads S H ∧ w env S Qd Xd ∧ KL K F ads H Qd Q ∧ KX K mg W F ads H σ Xd
end
section
variable {K : Fg} {mg : Str → Option Value} {W : WX} {F F' : Hp} {ads ads' : List Addr} {H H' : Hp} {σ : L2.St}
theorem KX.ext {Xd : XD} (k : KX K mg W F ads H σ Xd) (x : Ext F ads H F' ads' H') : KX K mg W F' ads' H' σ Xd := fun _ _ _ _ _ y s h => k _ _ _ _ _ (x.trans y) s h
theorem KV.ext {Qd : QD} {Q : VK} (k : KV K F ads H Qd Q) (x : Ext F ads H F' ads' H') : KV K F' ads' H' Qd Q := fun _ _ _ _ _ _ y s r h => k _ _ _ _ _ _ (x.trans y) s r h
theorem KB.ext {Qd : QB} {Q : Bool → Hp → Prop} (k : KB K F ads H Qd Q) (x : Ext F ads H F' ads' H') : KB K F' ads' H' Qd Q := fun _ _ _ _ _ y s h => k _ _ _ _ _ (x.trans y) s h
theorem KA.ext {n : Nat} {Qd : QL} {Q : List V → Hp → Prop} (k : KA K n F ads H Qd Q) (x : Ext F ads H F' ads' H') : KA K n F' ads' H' Qd Q := fun _ _ _ _ _ _ y s r e h => k _ _ _ _ _ _ (x.trans y) s r e h
theorem KL.ext {Qd : QL} {Q : VK} (k : KL K F ads H Qd Q) (x : Ext F ads H F' ads' H') : KL K F' ads' H' Qd Q := fun _ _ _ _ _ _ _ y s r p h => k _ _ _ _ _ _ _ (x.trans y) s r p h
end
theorem PE.imp {X : Cx} {e : Expr} {t t' : TE} (h : PE X e t) (q : ∀ σ H Q, t' σ H Q → t σ H Q) : PE X e t' := ⟨fun pins s σ H Q I z => h.run pins s σ H Q I (q _ _ _ z)⟩
theorem PT.imp {X : Cx} {e : Expr} {t t' : TT} (h : PT X e t) (q : ∀ σ H Q, t' σ H Q → t σ H Q) : PT X e t' := ⟨fun pins s σ H Q I z => h.run pins s σ H Q I (q _ _ _ z)⟩
theorem PA.imp {X : Cx} {e : List Expr} {t t' : TA} (h : PA X e t) (q : ∀ σ H Q, t' σ H Q → t σ H Q) : PA X e t' := ⟨fun pos pins s σ H Q I z => h.run pos pins s σ H Q I (q _ _ _ z)⟩
/-! ### the words: what is matched, what is meant, that it is right -/
structure DE where
  mt : Sc → Expr → Bool
  wp : WE
  rq : Cy → Prop
  ok : ∀ (X : Cx) (W : WX) (T : List (Addr × Str)) (e : Expr), mt (scOf X) e = true → Good X W → rq (cyOf X T) → PE X e (tE (kt X T) X.mg W wp)
structure DT where
  mt : Sc → Expr → Bool
  wp : WT
  rq : Cy → Prop
  ok : ∀ (X : Cx) (W : WX) (T : List (Addr × Str)) (e : Expr), mt (scOf X) e = true → Good X W → rq (cyOf X T) → PT X e (tT (kt X T) X.mg W wp)
/-- a new list -/
structure DL where
  mt : Sc → Expr → Bool
  wp : WL
  rq : Cy → Prop
  ok : ∀ (X : Cx) (W : WX) (T : List (Addr × Str)) (e : Expr), mt (scOf X) e = true → Good X W → rq (cyOf X T) → PE X e (tL (kt X T) X.mg W wp)
def noStar : Expr → Bool
  | .Starred _ _ => false
  | _ => true
theorem starEach_cons {e : Expr} {es : List Expr} {env : PySem.Env} (h : noStar e = true) : starEach (e :: es) env = (false, eval e env) :: starEach es env := by
  cases e <;> first | rfl | (simp [noStar] at h)
theorem starEach_all : ∀ {es : List Expr} {env : PySem.Env} (h : es.all noStar = true), starEach es env = es.map fun e => (false, eval e env)
  | [], _, _ => rfl
  | e :: es, env, h => by
    simp only [List.all_cons, Bool.and_eq_true] at h
    rw [starEach_cons h.1, starEach_all h.2]
    rfl
theorem backTo_any (pos : Pos) : ∀ l : List (Bool × Sem Value), (backTo pos l).any (·.1) = l.any (·.1) := fun l => by
  unfold backTo
  simp [List.any_map, Function.comp_def]
theorem star_any {es : List Expr} {env : PySem.Env} {pos : Pos} (h : es.all noStar = true) : (backTo pos (starEach es env)).any (·.1) = false := by
  rw [backTo_any, starEach_all h]
  simp [List.any_map, Function.comp_def]
structure DA where
  n : Nat
  mt : Sc → List Expr → Bool
  wp : WL
  rq : Cy → Prop
  ok : ∀ (X : Cx) (W : WX) (T : List (Addr × Str)) (e : List Expr), mt (scOf X) e = true → Good X W → rq (cyOf X T) → PA X e (tA (kt X T) X.mg W n wp) ∧ e.all noStar = true
/-! ### names, constants -/
def visB (c : Sc) (x : Str) : Bool := c.sc.names.lookup x == some .local || c.sc.names.lookup x == some .cell || c.sc.names.lookup x == some .free
theorem vis_of {X : Cx} {x : Str} (h : visB (scOf X) x = true) : Vis X.env.scope x := by
  simp only [visB, Bool.or_eq_true, beq_iff_eq] at h
  rcases h with (h | h) | h
  · exact .inl h
  · exact .inr (.inl h)
  · exact .inr (.inr h)
def nameB (c : Sc) (i : Nat) : Expr → Bool
  | .Name x _ => c.N[i]? == some x && visB c x && !(x == ("__debug__" : Str)) && !(x == ("__classdict__" : Str))
  | _ => false
theorem pe_slot {X : Cx} {i : Nat} {e : Expr} (h : nameB (scOf X) i e = true) : PE X e (tVar i) := by
  unfold nameB at h
  split at h
  · simp only [Bool.and_eq_true, beq_iff_eq, Bool.not_eq_true'] at h
    obtain ⟨⟨⟨h1, h2⟩, h3⟩, h4⟩ := h
    exact pe_var h1 (vis_of h2) h3 h4
  · cases h
def wVar (i : Nat) : WE := fun env S Q _ => ∃ d, env[i]? = some (some d) ∧ Q d S
def DE.var (i : Nat) : DE where
  mt c e := nameB c i e
  wp := wVar i
  rq _ := True
  ok X W T e h g _ := PE.imp (pe_slot h) fun σ H Q ⟨env, S, F, ads, Qd, Xd, er, sm, hw, kv, kx⟩ => by
    obtain ⟨d, hd, hq⟩ := hw
    obtain ⟨v, hv, r⟩ := er.get i d hd
    exact ⟨v, hv, kv _ _ _ _ _ _ Ext.refl sm r hq⟩
/-- a list of the store, frozen as it is read -/
def wFrz (i : Nat) : WE := fun env S Q _ => ∃ j ds, env[i]? = some (some (.han j)) ∧ S[j]? = some (.lst ds) ∧ Q (.lst ds) (S.set j .gone)
def DE.frz (i : Nat) : DE where
  mt c e := nameB c i e
  wp := wFrz i
  rq _ := True
  ok X W T e h g _ := PE.imp (pe_slot h) fun σ H Q ⟨env, S, F, ads, Qd, Xd, er, sm, hw, kv, kx⟩ => by
    obtain ⟨j, ds, hd, hS, hq⟩ := hw
    obtain ⟨v, hv, r⟩ := er.get i _ hd
    cases r with
    | han ha =>
      rename_i a
      obtain ⟨a', ha', nF, vs, hH, rs⟩ := sm.at hS
      rw [ha] at ha'; cases ha'
      obtain ⟨s2, x2⟩ := sm.freeze (ds := ds) ha hH nF
      exact ⟨_, hv, kv _ _ _ _ _ _ x2 s2 (.lst upd_same (rs.ext x2)) hq⟩
def wC (d : D) : WE := fun _ S Q _ => Q d S
def constB : D → Expr → Bool
  | .non, .Constant .none _ _ => true
  | .bl b, .Constant (.bool c) _ _ => b == c
  | .int i, .Constant (.int j) _ _ => i == j
  | .str x, .Constant (.str y) _ _ => x == y
  | _, _ => false
theorem pe_const {X : Cx} {d : D} {e : Expr} (h : constB d e = true) : ∃ v, PE X e (tC v) ∧ ∀ K F ads, Rp K F ads d v := by
  unfold constB at h
  split at h
  · exact ⟨.non, pe_non, fun _ _ _ => .non⟩
  · simp only [beq_iff_eq] at h; subst h; exact ⟨.bl _, pe_bl, fun _ _ _ => .bl _⟩
  · simp only [beq_iff_eq] at h; subst h; exact ⟨.int _, pe_int, fun _ _ _ => .int _⟩
  · simp only [beq_iff_eq] at h; subst h; exact ⟨.str _, pe_str, fun _ _ _ => .str _⟩
  · cases h
def DE.con (d : D) : DE where
  mt _ e := constB d e
  wp := wC d
  rq _ := True
  ok X W T e h g _ := by
    obtain ⟨v, p, r⟩ := pe_const (X := X) h
    exact PE.imp p fun σ H Q ⟨env, S, F, ads, Qd, Xd, er, sm, hw, kv, kx⟩ => kv _ _ _ _ _ _ Ext.refl sm (r _ _ _) hw
def glB (c : Sc) (x : Str) : Bool := c.sc.names.lookup x == some .globalImplicit
theorem gl_of {X : Cx} {x : Str} (h : glB (scOf X) x = true) : Gl X x := by
  simp only [glB, beq_iff_eq] at h; exact h
/-- a module's constant: an int -/
def DE.glo (x : Str) (i : Int) : DE where
  mt c e := match e with
    | .Name y _ => y == x && glB c x && !(x == ("__debug__" : Str))
    | _ => false
  wp := wC (.int i)
  rq Z := ∃ t, Z.mg x = some (.int i t)
  ok X W T e h g q := by
    split at h
    · simp only [Bool.and_eq_true, beq_iff_eq, Bool.not_eq_true'] at h
      obtain ⟨⟨h1, h2⟩, h3⟩ := h
      subst h1
      obtain ⟨t, ht⟩ := q
      exact PE.imp (pe_glob (v := .int i) (gl_of h2) ht ⟨t, rfl⟩ h3) fun σ H Q ⟨env, S, F, ads, Qd, Xd, er, sm, hw, kv, kx⟩ => kv _ _ _ _ _ _ Ext.refl sm (.int _) hw
    · cases h
/-! ### argument lists -/
def wNil : WL := fun _ S Q _ => Q [] S
def wCons (a : WE) (r : WL) : WL := fun env S Q X => a env S (fun d S1 => r env S1 (fun ds S2 => Q (d :: ds) S2) X) X
def DA.nil : DA where
  n := 0
  mt _ e := e.isEmpty
  wp := wNil
  rq _ := True
  ok X W T e h g _ := by
    have e0 : e = [] := by simpa using h
    subst e0
    exact ⟨PA.imp pa_nil fun σ H Q ⟨env, S, F, ads, Qd, Xd, er, sm, hw, kv, kx⟩ => kv _ _ _ _ _ _ Ext.refl sm .nil rfl hw, rfl⟩
def DA.cons (a : DE) (r : DA) : DA where
  n := r.n + 1
  mt c e := match e with
    | x :: xs => noStar x && a.mt c x && r.mt c xs
    | [] => false
  wp := wCons a.wp r.wp
  rq Z := a.rq Z ∧ r.rq Z
  ok X W T e h g q := by
    split at h
    · rename_i x xs
      simp only [Bool.and_eq_true] at h
      obtain ⟨⟨h1, h2⟩, h3⟩ := h
      obtain ⟨pr, ps⟩ := r.ok X W T xs h3 g q.2
      refine ⟨PA.imp (pa_cons (a.ok X W T x h2 g q.1) pr (starEach_cons h1)) fun σ H Q ⟨env, S, F, ads, Qd, Xd, er, sm, hw, kv, kx⟩ => ?_, by rw [List.all_cons, h1, ps]; rfl⟩
      refine ⟨env, S, F, ads, _, Xd, er, sm, hw, fun F1 ads1 S1 H1 d v x1 s1 r1 h1 => ?_, kx⟩
      exact ⟨env, S1, F1, ads1, _, Xd, er.ext x1, s1, h1, fun F2 ads2 S2 H2 ds vs x2 s2 r2 l2 h2 => kv _ _ _ _ _ _ (x1.trans x2) s2 (.cons (r1.ext x2) r2) (by rw [List.length_cons, l2]) h2, kx.ext x1⟩
    · cases h
/-! ### from values to data -/
/-- an operation of two values -/
def Ok2 (K : Fg) (op : D → D → Sto → QD → Prop) (r : R2) : Prop := ∀ {F ads S H x y v u Qd Q}, Sim K F ads S H → Rp K F ads x v → Rp K F ads y u → op x y S Qd → KV K F ads H Qd Q → r v u H Q
def w2 (op : D → D → Sto → QD → Prop) (a b : WE) : WE := fun env S Q X => a env S (fun x S1 => b env S1 (fun y S2 => op x y S2 Q) X) X
theorem seq2 {K : Fg} {mg : Str → Option Value} {W : WX} {op : D → D → Sto → QD → Prop} {r : R2} {a b : WE} (o : Ok2 K op r) {σ : L2.St} {H : Hp} {Q : VK} (h : tE K mg W (w2 op a b) σ H Q) : tOp r (tE K mg W a) (tE K mg W b) σ H Q := by
  obtain ⟨env, S, F, ads, Qd, Xd, er, sm, hw, kv, kx⟩ := h
  refine ⟨env, S, F, ads, _, Xd, er, sm, hw, fun F1 ads1 S1 H1 d v x1 s1 r1 h1 => ?_, kx⟩
  refine ⟨env, S1, F1, ads1, _, Xd, er.ext x1, s1, h1, fun F2 ads2 S2 H2 d2 v2 x2 s2 r2 h2 => ?_, kx.ext x1⟩
  exact o s2 (r1.ext x2) r2 h2 (kv.ext (x1.trans x2))
def Ok1 (K : Fg) (op : D → Sto → QD → Prop) (r : V → Hp → VK → Prop) : Prop := ∀ {F ads S H x v Qd Q}, Sim K F ads S H → Rp K F ads x v → op x S Qd → KV K F ads H Qd Q → r v H Q
def w1 (op : D → Sto → QD → Prop) (a : WE) : WE := fun env S Q X => a env S (fun x S1 => op x S1 Q) X
theorem seq1 {K : Fg} {mg : Str → Option Value} {W : WX} {op : D → Sto → QD → Prop} {r : V → Hp → VK → Prop} {a : WE} (o : Ok1 K op r) {σ : L2.St} {H : Hp} {Q : VK} (h : tE K mg W (w1 op a) σ H Q) : tUn r (tE K mg W a) σ H Q := by
  obtain ⟨env, S, F, ads, Qd, Xd, er, sm, hw, kv, kx⟩ := h
  exact ⟨env, S, F, ads, _, Xd, er, sm, hw, fun F1 ads1 S1 H1 d v x1 s1 r1 h1 => o s1 r1 h1 (kv.ext x1), kx⟩
def OkA (K : Fg) (op : List D → Sto → QD → Prop) (r : List V → Hp → VK → Prop) : Prop := ∀ {F ads S H xs vs Qd Q}, Sim K F ads S H → Rps K F ads xs vs → op xs S Qd → KV K F ads H Qd Q → r vs H Q
def wAp (op : List D → Sto → QD → Prop) (a : WL) : WE := fun env S Q X => a env S (fun x S1 => op x S1 Q) X
theorem seqA {K : Fg} {mg : Str → Option Value} {W : WX} {op : List D → Sto → QD → Prop} {r : List V → Hp → VK → Prop} {a : WL} {n : Nat} (o : OkA K op r) {σ : L2.St} {H : Hp} {Q : VK} (h : tE K mg W (wAp op a) σ H Q) : tCB r (tA K mg W n a) σ H Q := by
  obtain ⟨env, S, F, ads, Qd, Xd, er, sm, hw, kv, kx⟩ := h
  exact ⟨env, S, F, ads, _, Xd, er, sm, hw, fun F1 ads1 S1 H1 d v x1 s1 r1 _ h1 => o s1 r1 h1 (kv.ext x1), kx⟩
/-! ### sequences as data -/
/-- the items of a list -/
def lstOf (S : Sto) : D → Option (List D)
  | .lst ds => some ds
  | .scr ds => some ds
  | .han i => match S[i]? with
    | some (.lst ds) => some ds
    | _ => none
  | _ => none
theorem lst_sq {K : Fg} {F : Hp} {ads : List Addr} {S : Sto} {H : Hp} {d : D} {v : V} {ds : List D} (sm : Sim K F ads S H) (r : Rp K F ads d v) (h : lstOf S d = some ds) : ∃ a vs, v = .ref a ∧ SqL K.K H a vs ∧ Rps K F ads ds vs := by
  unfold lstOf at h
  split at h
  · cases h
    cases r with
    | lst hF rs => exact ⟨_, _, rfl, SqL.of (sm.sub _ _ hF), rs⟩
  · cases h
    cases r with
    | scr hF rs => exact ⟨_, _, rfl, sm.sub.seq hF, rs⟩
  · split at h
    · rename_i hS
      cases h
      cases r with
      | han ha =>
        obtain ⟨a', ha', nF, vs, hH, rs⟩ := sm.at hS
        rw [ha] at ha'; cases ha'
        exact ⟨_, _, rfl, SqL.of hH, rs⟩
    · cases h
  · cases h
def tupOf : D → Option (List D)
  | .tup ds => some ds
  | _ => none
theorem tup_sq {K : Fg} {F : Hp} {ads : List Addr} {S : Sto} {H : Hp} {d : D} {v : V} {ds : List D} (sm : Sim K F ads S H) (r : Rp K F ads d v) (h : tupOf d = some ds) : ∃ a vs, v = .ref a ∧ SqT K.K H a vs ∧ Rps K F ads ds vs := by
  unfold tupOf at h
  split at h
  · cases h
    cases r with
    | tup hF rs => exact ⟨_, _, rfl, Sub.tup sm.sub hF, rs⟩
  · cases h
/-- the items of a list or tuple -/
def seqOf (S : Sto) (d : D) : Option (List D) := match tupOf d with
  | some ds => some ds
  | none => lstOf S d
theorem seq_sq {K : Fg} {F : Hp} {ads : List Addr} {S : Sto} {H : Hp} {d : D} {v : V} {ds : List D} (sm : Sim K F ads S H) (r : Rp K F ads d v) (h : seqOf S d = some ds) : ∃ a vs, v = .ref a ∧ (SqL K.K H a vs ∨ SqT K.K H a vs) ∧ Rps K F ads ds vs := by
  unfold seqOf at h
  split at h
  · rename_i q
    cases h
    obtain ⟨a, vs, e, hs, rs⟩ := tup_sq sm r q
    exact ⟨a, vs, e, .inr hs, rs⟩
  · obtain ⟨a, vs, e, hs, rs⟩ := lst_sq sm r h
    exact ⟨a, vs, e, .inl hs, rs⟩
/-- a list that may be changed or joined (not the script) -/
def lstX (S : Sto) : D → Option (List D)
  | .lst ds => some ds
  | .han i => match S[i]? with
    | some (.lst ds) => some ds
    | _ => none
  | _ => none
theorem lstX_at {K : Fg} {F : Hp} {ads : List Addr} {S : Sto} {H : Hp} {d : D} {v : V} {ds : List D} (sm : Sim K F ads S H) (r : Rp K F ads d v) (h : lstX S d = some ds) : ∃ a vs, v = .ref a ∧ H a = some (.lst vs) ∧ Rps K F ads ds vs := by
  unfold lstX at h
  split at h
  · cases h
    cases r with
    | lst hF rs => exact ⟨_, _, rfl, sm.sub _ _ hF, rs⟩
  · split at h
    · rename_i hS
      cases h
      cases r with
      | han ha =>
        obtain ⟨a', ha', nF, vs, hH, rs⟩ := sm.at hS
        rw [ha] at ha'; cases ha'
        exact ⟨_, _, rfl, hH, rs⟩
    · cases h
  · cases h
/-! ### operators -/
def IntDivOk (j : Int) : Prop := j ≠ 0 ∧ j.natAbs.log2 < 9000
def oAdd : D → D → Sto → QD → Prop
  | .int i, .int j, S, Q => Q (.int (i + j)) S
  | .str a, .str b, S, Q => a.length + b.length ≤ sizeLine ∧ Q (.str (a ++ b)) S
  | .tup a, .tup b, S, Q => a.length + b.length ≤ sizeLine ∧ Q (.tup (a ++ b)) S
  | x, y, S, Q => ∃ a b, lstX S x = some a ∧ lstX S y = some b ∧ a.length + b.length ≤ sizeLine ∧ Q (.lst (a ++ b)) S
def oSub : D → D → Sto → QD → Prop
  | .int i, .int j, S, Q => Q (.int (i - j)) S
  | _, _, _, _ => False
def repS (z : Str) (k : Int) : Str := if k < 1 then Str.empty else if (k == 1 || z.length == 0) = true then z else ⟨(List.replicate k.toNat z.cps).foldl (· ++ ·) #[]⟩
def oMul : D → D → Sto → QD → Prop
  | .int i, .int j, S, Q => IntMulOk i j ∧ Q (.int (i * j)) S
  | .tup a, .int k, S, Q => a ≠ [] ∧ -1000 ≤ k ∧ k ≤ 1000 ∧ a.length ≤ 1000 ∧ Q (.tup (List.replicate k.toNat a).flatten) S
  | .str z, .int k, S, Q => (-1000 ≤ k ∧ k ≤ 1000 ∧ z.length ≤ 1000) ∧ Q (.str (repS z k)) S
  | _, _, _, _ => False
def oDiv : D → D → Sto → QD → Prop
  | .int i, .int j, S, Q => IntDivOk j ∧ Q (.int (i.fdiv j)) S
  | _, _, _, _ => False
def oMod : D → D → Sto → QD → Prop
  | .int i, .int j, S, Q => j ≠ 0 ∧ Q (.int (i.fmod j)) S
  | _, _, _, _ => False
def oPow : D → D → Sto → QD → Prop
  | .int i, .int j, S, Q => (0 ≤ j ∧ j ≤ 1000000 ∧ i.natAbs < 2 ^ 64) ∧ Q (.int (i ^ j.toNat)) S
  | _, _, _, _ => False
def opD : Operator → D → D → Sto → QD → Prop
  | .Add => oAdd
  | .Sub => oSub
  | .Mult => oMul
  | .FloorDiv => oDiv
  | .Mod => oMod
  | .Pow => oPow
  | _ => fun _ _ _ _ => False
theorem op_mulA {X : Cx} : OpR X (binaryOp .Mult) (rI IntMulOk fun i j => .int (i * j)) := opI fun _ _ _ _ _ _ _ hc q => mul_int q hc
theorem op_divA {X : Cx} : OpR X (binaryOp .FloorDiv) (rI (fun _ j => IntDivOk j) fun i j => .int (i.fdiv j)) := opI fun _ _ _ _ _ _ _ hc q => floordiv_int hc.1 q (.inl (PyProof.noPylong_of_log2 hc.2))
theorem ok_add {K : Fg} : Ok2 K oAdd (fun x y H Q => (rI0 fun i j => .int (i + j)) x y H Q ∨ ((fun x y H Q => ∃ i j, x = .str i ∧ y = .str j ∧ i.length + j.length ≤ sizeLine ∧ Q (.str (i ++ j)) H : R2) x y H Q ∨ (rCatA K.K x y H Q ∨ rCat x y H Q))) := by
  intro F ads S H x y v u Qd Q sm rx ry h kv
  unfold oAdd at h
  split at h
  · cases rx; cases ry
    exact .inl ⟨_, _, rfl, rfl, kv _ _ _ _ _ _ Ext.refl sm (.int _) h⟩
  · cases rx; cases ry
    exact .inr (.inl ⟨_, _, rfl, rfl, h.1, kv _ _ _ _ _ _ Ext.refl sm (.str _) h.2⟩)
  · rename_i da db
    have rx0 := rx; have ry0 := ry
    cases rx with
    | tup ha ra =>
      cases ry with
      | tup hb rb =>
        rename_i a xs b ys
        obtain ⟨hz, hq⟩ := h
        refine .inr (.inr (.inl ⟨a, b, xs, ys, rfl, rfl, Sub.tup sm.sub ha, Sub.tup sm.sub hb, by rw [← ra.length, ← rb.length]; exact hz, fun e => ?_, fun _ e => ?_, fun _ _ p hp => ?_⟩))
        · subst e
          cases ra
          exact kv _ _ _ _ _ _ Ext.refl sm ry0 hq
        · subst e
          cases rb
          rw [List.append_nil] at hq
          exact kv _ _ _ _ _ _ Ext.refl sm rx0 hq
        · obtain ⟨s2, x2⟩ := sm.frz hp (.tup (xs ++ ys))
          exact kv _ _ _ _ _ _ x2 s2 (.tup (SqT.of upd_same) ((ra.append rb).ext x2)) hq
  · obtain ⟨da, db, ha, hb, hz, hq⟩ := h
    obtain ⟨a, xs, rfl, ea, ra⟩ := lstX_at sm rx ha
    obtain ⟨b, ys, rfl, eb, rb⟩ := lstX_at sm ry hb
    refine .inr (.inr (.inr ⟨a, b, xs, ys, rfl, rfl, ea, eb, by rw [← ra.length, ← rb.length]; exact hz, fun p hp => ?_⟩))
    obtain ⟨s2, x2⟩ := sm.frz hp (.lst (xs ++ ys))
    exact kv _ _ _ _ _ _ x2 s2 (.lst upd_same ((ra.append rb).ext x2)) hq
theorem ok_sub {K : Fg} : Ok2 K oSub (rI0 fun i j => .int (i - j)) := by
  intro F ads S H x y v u Qd Q sm rx ry h kv
  unfold oSub at h
  split at h
  · cases rx; cases ry
    exact ⟨_, _, rfl, rfl, kv _ _ _ _ _ _ Ext.refl sm (.int _) h⟩
  · exact h.elim
theorem rep_size (a : Array Nat) : ∀ (m : Nat) (b : Array Nat), (List.foldl (fun x1 x2 => x1 ++ x2) b (List.replicate m a)).size = b.size + m * a.size
  | 0, b => by simp
  | m + 1, b => by
    rw [List.replicate_succ, List.foldl_cons, rep_size a m, Array.size_append, Nat.succ_mul]
    omega
def rRepS : R2 := fun x y H Q => ∃ z k, x = .str z ∧ y = .int k ∧ (-1000 ≤ k ∧ k ≤ 1000 ∧ z.length ≤ 1000) ∧ Q (.str (repS z k)) H
theorem op_repS {X : Cx} : OpR X (binaryOp .Mult) rRepS := by
  intro pins s σ H x y v u Q I rx ry h
  obtain ⟨z, k, rfl, rfl, ⟨h0, h1, hz⟩, q⟩ := h
  obtain ⟨t, rfl⟩ := rx
  obtain ⟨t2, rfl⟩ := ry
  have c0 : (decide (k < -(2 ^ 63 : Int)) || decide (k ≥ 2 ^ 63)) = false := by
    rw [decide_eq_false (by omega), decide_eq_false (by omega)] <;> rfl
  refine P.mul_str c0 (fun hk _ => ?_) (fun hk _ => ?_) ?_
  · have : (1000 : Int) ≤ (2 ^ 63 - 1) / k := by
      rw [Int.le_ediv_iff_mul_le (by omega)]
      omega
    omega
  · have : z.length * k.toNat ≤ 1000 * 1000 := Nat.mul_le_mul hz (by omega)
    exact decide_eq_false (by rw [sizeLine_eq]; omega)
  · have q' : Q (.str (repS z k)) H := q
    unfold repS at q'
    split
    · rename_i e
      rw [if_pos e] at q'
      exact ⟨by decide, .str _, H, I.tok _, ⟨_, rfl⟩, q'⟩
    · rename_i e
      rw [if_neg e] at q'
      split
      · rename_i e2
        rw [if_pos e2] at q'
        exact ⟨.str _, H, I, ⟨_, rfl⟩, q'⟩
      · rename_i e2
        rw [if_neg e2] at q'
        refine ⟨?_, .str _, H, I.tok _, ⟨_, rfl⟩, q'⟩
        have : z.length * k.toNat ≤ 1000 * 1000 := Nat.mul_le_mul hz (by omega)
        show (List.foldl (fun x1 x2 => x1 ++ x2) #[] (List.replicate k.toNat z.cps)).size ≤ sizeLine
        rw [rep_size, sizeLine_eq]
        rw [Nat.mul_comm] at this
        have e3 : z.cps.size = z.length := rfl
        rw [e3]; simp; omega
theorem ok_mul {K : Fg} : Ok2 K oMul (fun x y H Q => (rI IntMulOk fun i j => .int (i * j)) x y H Q ∨ (rRepA K.K x y H Q ∨ rRepS x y H Q)) := by
  intro F ads S H x y v u Qd Q sm rx ry h kv
  unfold oMul at h
  split at h
  · cases rx; cases ry
    exact .inl ⟨_, _, rfl, rfl, h.1, kv _ _ _ _ _ _ Ext.refl sm (.int _) h.2⟩
  · obtain ⟨hne, h0, h1, hl, hq⟩ := h
    rename_i da k
    have rx0 := rx
    cases ry
    cases rx with
    | tup ha ra =>
      rename_i a xs
      refine .inr <| .inl ⟨a, k, xs, rfl, rfl, Sub.tup sm.sub ha, fun e => ?_, h0, h1, by rw [← ra.length]; exact hl, fun e => ?_, fun _ p hp => ?_⟩
      · subst e; cases ra; exact hne rfl
      · subst e
        have : (List.replicate (1 : Int).toNat da).flatten = da := by simp [List.replicate]
        rw [this] at hq
        exact kv _ _ _ _ _ _ Ext.refl sm rx0 hq
      · obtain ⟨s2, x2⟩ := sm.frz hp (.tup (List.replicate k.toNat xs).flatten)
        exact kv _ _ _ _ _ _ x2 s2 (.tup (SqT.of upd_same) ((ra.rep _).ext x2)) hq
  · cases rx; cases ry
    exact .inr <| .inr ⟨_, _, rfl, rfl, h.1, kv _ _ _ _ _ _ Ext.refl sm (.str _) h.2⟩
  · exact h.elim
theorem ok_div {K : Fg} : Ok2 K oDiv (rI (fun _ j => IntDivOk j) fun i j => .int (i.fdiv j)) := by
  intro F ads S H x y v u Qd Q sm rx ry h kv
  unfold oDiv at h
  split at h
  · cases rx; cases ry
    exact ⟨_, _, rfl, rfl, h.1, kv _ _ _ _ _ _ Ext.refl sm (.int _) h.2⟩
  · exact h.elim
theorem ok_mod {K : Fg} : Ok2 K oMod (rI (fun _ j => j ≠ 0) fun i j => .int (i.fmod j)) := by
  intro F ads S H x y v u Qd Q sm rx ry h kv
  unfold oMod at h
  split at h
  · cases rx; cases ry
    exact ⟨_, _, rfl, rfl, h.1, kv _ _ _ _ _ _ Ext.refl sm (.int _) h.2⟩
  · exact h.elim
theorem ok_pow {K : Fg} : Ok2 K oPow (rI CPow fun i j => .int (i ^ j.toNat)) := by
  intro F ads S H x y v u Qd Q sm rx ry h kv
  unfold oPow at h
  split at h
  · cases rx; cases ry
    exact ⟨_, _, rfl, rfl, h.1, kv _ _ _ _ _ _ Ext.refl sm (.int _) h.2⟩
  · exact h.elim
theorem op_ok {X : Cx} (T : List (Addr × Str)) (o : Operator) : ∃ r, OpR X (binaryOp o) r ∧ Ok2 (kt X T) (opD o) r := by
  have no : ∀ o, ∃ r, OpR X (binaryOp o) r ∧ Ok2 (kt X T) (fun _ _ _ _ => False) r := fun o => ⟨fun _ _ _ _ => False, fun _ _ _ _ _ _ _ _ _ _ _ _ h => h.elim, fun _ _ _ h _ => h.elim⟩
  cases o with
  | Add => exact ⟨_, op_add.or (op_add_str.or (op_catA.or op_cat)), ok_add⟩
  | Sub => exact ⟨_, op_sub, ok_sub⟩
  | Mult => exact ⟨_, op_mulA.or (op_repA.or op_repS), ok_mul⟩
  | FloorDiv => exact ⟨_, op_divA, ok_div⟩
  | Mod => exact ⟨_, op_modN, ok_mod⟩
  | Pow => exact ⟨_, op_pow, ok_pow⟩
  | _ => exact no _
def DE.op (o : Operator) (a b : DE) : DE where
  mt c e := match e with
    | .BinOp x o' y _ => o' == o && a.mt c x && b.mt c y
    | _ => false
  wp := w2 (opD o) a.wp b.wp
  rq Z := a.rq Z ∧ b.rq Z
  ok X W T e h g q := by
    split at h
    · simp only [Bool.and_eq_true, beq_iff_eq] at h
      obtain ⟨⟨rfl, h1⟩, h2⟩ := h
      rename_i o' _ _
      obtain ⟨r, ho, hk⟩ := op_ok (X := X) T o'
      exact PE.imp (pe_op ho (a.ok X W T _ h1 g q.1) (b.ok X W T _ h2 g q.2)) fun σ H Q z => seq2 hk z
    · cases h
def oNeg : D → Sto → QD → Prop
  | .int i, S, Q => Q (.int (-i)) S
  | _, _, _ => False
theorem ok_neg {K : Fg} : Ok1 K oNeg (rU fun i => .int (-i)) := by
  intro F ads S H x v Qd Q sm rx h kv
  unfold oNeg at h
  split at h
  · cases rx
    exact ⟨_, rfl, kv _ _ _ _ _ _ Ext.refl sm (.int _) h⟩
  · exact h.elim
def DE.neg (a : DE) : DE where
  mt c e := match e with
    | .UnaryOp .USub x _ => a.mt c x
    | _ => false
  wp := w1 oNeg a.wp
  rq Z := a.rq Z
  ok X W T e h g q := by
    split at h
    · exact PE.imp (pe_un un_neg (a.ok X W T _ h g q)) fun σ H Q z => seq1 ok_neg z
    · cases h
/-! #### DL3 -/
/-! The D layer, part 3: comparisons, tests, subscripts, displays, built-ins. -/
/-! ### data as the library's own -/
mutual
def pyD : D → Option PyData
  | .non => some .none
  | .bl b => some (.bool b)
  | .int i => some (.int i)
  | .str x => some (.str x)
  | .tup ds => (pyDs ds).map .tuple
  | .lst ds => (pyDs ds).map .list
  | .scr ds => (pyDs ds).map .list
  | _ => none
def pyDs : List D → Option (List PyData)
  | [] => some []
  | d :: ds => match pyD d, pyDs ds with
    | some p, some ps => some (p :: ps)
    | _, _ => none
end
section
variable {K : Fg} {F : Hp} {ads : List Addr} {S : Sto} {H : Hp}
mutual
theorem dp_of (sm : Sim K F ads S H) : ∀ {d : D} {v : V} {p : PyData}, Rp K F ads d v → pyD d = some p → Dp K.K H v p
  | _, _, _, .non, e => by cases e; exact .non
  | _, _, _, .bl b, e => by cases e; exact .bl b
  | _, _, _, .int i, e => by cases e; exact .int i
  | _, _, _, .str x, e => by cases e; exact .str x
  | _, _, _, .flt b, e => by cases e
  | _, _, _, .tup (ds := ds) h r, e => by
    unfold pyD at e
    cases q : pyDs ds with
    | none => rw [q] at e; cases e
    | some ps => rw [q] at e; cases e; exact .tup (Sub.tup sm.sub h) (dps_of sm r q)
  | _, _, _, .lst (ds := ds) h r, e => by
    unfold pyD at e
    cases q : pyDs ds with
    | none => rw [q] at e; cases e
    | some ps => rw [q] at e; cases e; exact .lst (SqL.of (sm.sub _ _ h)) (dps_of sm r q)
  | _, _, _, .scr (ds := ds) h r, e => by
    unfold pyD at e
    cases q : pyDs ds with
    | none => rw [q] at e; cases e
    | some ps => rw [q] at e; cases e; exact .lst (sm.sub.seq h) (dps_of sm r q)
  | _, _, _, .han h, e => by cases e
  | _, _, _, .cst v, e => by cases e
theorem dps_of (sm : Sim K F ads S H) : ∀ {ds : List D} {vs : List V} {ps : List PyData}, Rps K F ads ds vs → pyDs ds = some ps → DpAll K.K H vs ps
  | _, _, _, .nil, e => by cases e; exact .nil
  | _, _, _, .cons (d := d) (ds := ds) r t, e => by
    unfold pyDs at e
    cases q : pyD d with
    | none => rw [q] at e; cases e
    | some p =>
      cases q2 : pyDs ds with
      | none => rw [q, q2] at e; cases e
      | some ps => rw [q, q2] at e; cases e; exact .cons (dp_of sm r q) (dps_of sm t q2)
end
/-- .. a handle's list too -/
def pyOf (S : Sto) : D → Option PyData
  | .han i => match S[i]? with
    | some (.lst ds) => (pyDs ds).map .list
    | _ => none
  | d => pyD d
theorem dpo_of (sm : Sim K F ads S H) {d : D} {v : V} {p : PyData} (r : Rp K F ads d v) (e : pyOf S d = some p) : Dp K.K H v p := by
  unfold pyOf at e
  split at e
  · split at e
    · rename_i ds hS
      cases r with
      | han ha =>
        obtain ⟨a', ha', nF, vs, hH, rs⟩ := sm.at hS
        rw [ha] at ha'; cases ha'
        cases q : pyDs ds with
        | none => rw [q] at e; cases e
        | some ps => rw [q] at e; cases e; exact .lst (SqL.of hH) (dps_of sm rs q)
    · cases e
  · exact dp_of sm r e
end
/-! ### comparisons -/
def oEq : D → D → Sto → QD → Prop
  | .int i, .int j, S, Q => Q (.bl (decide (i = j))) S
  | .str i, .str j, S, Q => Q (.bl (decide (i = j))) S
  | x, y, S, Q => ∃ p q, pyOf S x = some p ∧ pyOf S y = some q ∧ SeqAt.shaped p = true ∧ SeqAt.shaped q = true ∧ Q (.bl (PyData.eqv p q)) S
def oNe : D → D → Sto → QD → Prop
  | .int i, .int j, S, Q => Q (.bl (!decide (i = j))) S
  | .str i, .str j, S, Q => Q (.bl (!decide (i = j))) S
  | x, y, S, Q => ∃ p q, pyOf S x = some p ∧ pyOf S y = some q ∧ SeqAt.shaped p = true ∧ SeqAt.shaped q = true ∧ Q (.bl (!PyData.eqv p q)) S
def oI (f : Int → Int → Bool) : D → D → Sto → QD → Prop
  | .int i, .int j, S, Q => Q (.bl (f i j)) S
  | _, _, _, _ => False
def isNon : D → Option Bool
  | .non => some true
  | .cst _ => none
  | _ => some false
def oIs : D → D → Sto → QD → Prop
  | x, .non, S, Q => ∃ b, isNon x = some b ∧ Q (.bl b) S
  | .bl a, .bl b, S, Q => Q (.bl (decide (a = b))) S
  | _, _, _, _ => False
def oIsNot : D → D → Sto → QD → Prop
  | x, .non, S, Q => ∃ b, isNon x = some b ∧ Q (.bl (!b)) S
  | .bl a, .bl b, S, Q => Q (.bl (!decide (a = b))) S
  | _, _, _, _ => False
def oIn : D → D → Sto → QD → Prop
  | .str x, .str z, S, Q => ∃ c, x = ⟨#[c]⟩ ∧ Q (.bl (decide (c ∈ z.cps.toList))) S
  | .int i, y, S, Q => ∃ ns : List Int, seqOf S y = some (ns.map .int) ∧ Q (.bl (decide (i ∈ ns))) S
  | _, _, _, _ => False
def oNotIn : D → D → Sto → QD → Prop
  | .str x, .str z, S, Q => ∃ c, x = ⟨#[c]⟩ ∧ Q (.bl (!decide (c ∈ z.cps.toList))) S
  | .int i, y, S, Q => ∃ ns : List Int, seqOf S y = some (ns.map .int) ∧ Q (.bl (!decide (i ∈ ns))) S
  | _, _, _, _ => False
def cmD : CmpOp → D → D → Sto → QD → Prop
  | .Eq => oEq
  | .NotEq => oNe
  | .Lt => oI fun i j => decide (i < j)
  | .LtE => oI fun i j => decide (i ≤ j)
  | .Gt => oI fun i j => decide (j < i)
  | .GtE => oI fun i j => decide (j ≤ i)
  | .Is => oIs
  | .IsNot => oIsNot
  | .In => oIn
  | .NotIn => oNotIn
section
variable {K : Fg}
theorem ok_eq : Ok2 K oEq (fun x y H Q => rEq x y H Q ∨ rEqD K.K x y H Q) := by
  intro F ads S H x y v u Qd Q sm rx ry h kv
  unfold oEq at h
  split at h
  · cases rx; cases ry
    refine .inl ⟨rfl, kv _ _ _ _ _ _ Ext.refl sm (.bl _) ?_⟩
    simpa using h
  · cases rx; cases ry
    refine .inl ⟨rfl, kv _ _ _ _ _ _ Ext.refl sm (.bl _) ?_⟩
    simpa using h
  · obtain ⟨p, q, e1, e2, s1, s2, h⟩ := h
    exact .inr ⟨p, q, dpo_of sm rx e1, dpo_of sm ry e2, s1, s2, kv _ _ _ _ _ _ Ext.refl sm (.bl _) h⟩
theorem ok_ne : Ok2 K oNe (fun x y H Q => rNe x y H Q ∨ rNeD K.K x y H Q) := by
  intro F ads S H x y v u Qd Q sm rx ry h kv
  unfold oNe at h
  split at h
  · cases rx; cases ry
    refine .inl ⟨rfl, kv _ _ _ _ _ _ Ext.refl sm (.bl _) ?_⟩
    simpa using h
  · cases rx; cases ry
    refine .inl ⟨rfl, kv _ _ _ _ _ _ Ext.refl sm (.bl _) ?_⟩
    simpa using h
  · obtain ⟨p, q, e1, e2, s1, s2, h⟩ := h
    exact .inr ⟨p, q, dpo_of sm rx e1, dpo_of sm ry e2, s1, s2, kv _ _ _ _ _ _ Ext.refl sm (.bl _) h⟩
theorem ok_I {f : Int → Int → Bool} : Ok2 K (oI f) (rI0 fun i j => .bl (f i j)) := by
  intro F ads S H x y v u Qd Q sm rx ry h kv
  unfold oI at h
  split at h
  · cases rx; cases ry
    exact ⟨_, _, rfl, rfl, kv _ _ _ _ _ _ Ext.refl sm (.bl _) h⟩
  · exact h.elim
theorem isNon_of {F : Hp} {ads : List Addr} {x : D} {v : V} {b : Bool} (r : Rp K F ads x v) (h : isNon x = some b) : decide (v = .non) = b := by
  cases r <;> first | (cases h; rfl) | cases h
theorem ok_is : Ok2 K oIs (fun x y H Q => (y = .non ∧ Q (.bl (decide (x = .non))) H) ∨ ∃ a b, x = .bl a ∧ y = .bl b ∧ Q (.bl (decide (a = b))) H) := by
  intro F ads S H x y v u Qd Q sm rx ry h kv
  unfold oIs at h
  split at h
  · obtain ⟨b, hb, h⟩ := h
    cases ry
    refine .inl ⟨rfl, kv _ _ _ _ _ _ Ext.refl sm (.bl _) ?_⟩
    rw [isNon_of rx hb]; exact h
  · cases rx; cases ry
    exact .inr ⟨_, _, rfl, rfl, kv _ _ _ _ _ _ Ext.refl sm (.bl _) h⟩
  · exact h.elim
theorem ok_isnot : Ok2 K oIsNot (fun x y H Q => (y = .non ∧ Q (.bl (!decide (x = .non))) H) ∨ ∃ a b, x = .bl a ∧ y = .bl b ∧ Q (.bl (!decide (a = b))) H) := by
  intro F ads S H x y v u Qd Q sm rx ry h kv
  unfold oIsNot at h
  split at h
  · obtain ⟨b, hb, h⟩ := h
    cases ry
    refine .inl ⟨rfl, kv _ _ _ _ _ _ Ext.refl sm (.bl _) ?_⟩
    rw [isNon_of rx hb]; exact h
  · cases rx; cases ry
    exact .inr ⟨_, _, rfl, rfl, kv _ _ _ _ _ _ Ext.refl sm (.bl _) h⟩
  · exact h.elim
theorem inV_int (i : Int) : ∀ ns : List Int, inV (.int i) (ns.map V.int) = decide (i ∈ ns)
  | [] => rfl
  | n :: ns => by
    have ih := inV_int i ns
    unfold inV at ih ⊢
    rw [List.map_cons, List.any_cons, ih]
    by_cases e : n = i
    · subst e; simp [eqV]
    · have e' : ¬ i = n := fun q => e q.symm
      simp [eqV, e, e']
theorem flat_ints (ns : List Int) : (ns.map V.int).all flatV = true := by
  rw [List.all_map]
  simp [Function.comp_def, flatV]
theorem ok_in : Ok2 K oIn (fun x y H Q => (∃ (c : Nat) (z : Str), x = .str ⟨#[c]⟩ ∧ y = .str z ∧ Q (.bl (decide (c ∈ z.cps.toList))) H) ∨ rIn K.K false x y H Q) := by
  intro F ads S H x y v u Qd Q sm rx ry h kv
  unfold oIn at h
  split at h
  · obtain ⟨c, rfl, h⟩ := h
    cases rx; cases ry
    exact .inl ⟨_, _, rfl, rfl, kv _ _ _ _ _ _ Ext.refl sm (.bl _) h⟩
  · obtain ⟨ns, hs, h⟩ := h
    cases rx
    obtain ⟨a, vs, e, hq, rs⟩ := seq_sq sm ry hs
    have e2 := rs.ints
    subst e2
    refine .inr ⟨a, _, e, hq, rfl, flat_ints ns, kv _ _ _ _ _ _ Ext.refl sm (.bl _) ?_⟩
    rw [inV_int]; exact h
  · exact h.elim
theorem ok_notin : Ok2 K oNotIn (fun x y H Q => (∃ (c : Nat) (z : Str), x = .str ⟨#[c]⟩ ∧ y = .str z ∧ Q (.bl (!decide (c ∈ z.cps.toList))) H) ∨ rIn K.K true x y H Q) := by
  intro F ads S H x y v u Qd Q sm rx ry h kv
  unfold oNotIn at h
  split at h
  · obtain ⟨c, rfl, h⟩ := h
    cases rx; cases ry
    exact .inl ⟨_, _, rfl, rfl, kv _ _ _ _ _ _ Ext.refl sm (.bl _) h⟩
  · obtain ⟨ns, hs, h⟩ := h
    cases rx
    obtain ⟨a, vs, e, hq, rs⟩ := seq_sq sm ry hs
    have e2 := rs.ints
    subst e2
    refine .inr ⟨a, _, e, hq, rfl, flat_ints ns, kv _ _ _ _ _ _ Ext.refl sm (.bl _) ?_⟩
    rw [inV_int]; exact h
  · exact h.elim
end
theorem cm_ok {X : Cx} {W : WX} (T : List (Addr × Str)) (g : Good X W) (o : CmpOp) : ∃ r, OpR X (compareOp o) r ∧ Ok2 (kt X T) (cmD o) r := by
  have u64 : X.A.units + 64 < cLine := by have := g.un; omega
  cases o with
  | Eq => exact ⟨_, op_eq.or (op_eqD u64), ok_eq⟩
  | NotEq => exact ⟨_, op_ne.or (op_neD u64), ok_ne⟩
  | Lt => exact ⟨_, op_lt, ok_I⟩
  | LtE => exact ⟨_, op_le, ok_I⟩
  | Gt => exact ⟨_, op_gt, ok_I⟩
  | GtE => exact ⟨_, op_ge, ok_I⟩
  | Is => exact ⟨_, op_isN.or op_is_bl, ok_is⟩
  | IsNot => exact ⟨_, op_notN.or op_isnot_bl, ok_isnot⟩
  | In => exact ⟨_, op_in_sign.or op_in_seq, ok_in⟩
  | NotIn => exact ⟨_, op_notIn_sign.or op_notIn_seq, ok_notin⟩
def noSet : Expr → Bool
  | .Set _ _ _ => false
  | _ => true
theorem noSet_marks {o : CmpOp} {e : Expr} (h : noSet e = true) : behindInMarks o e = false := by
  cases e <;> first | rfl | (simp [noSet] at h)
def DE.cmp (o : CmpOp) (a b : DE) : DE where
  mt c e := match e with
    | .Compare x [o'] [y] _ => o' == o && a.mt c x && b.mt c y && noSet y
    | _ => false
  wp := w2 (cmD o) a.wp b.wp
  rq Z := a.rq Z ∧ b.rq Z
  ok X W T e h g q := by
    split at h
    · simp only [Bool.and_eq_true, beq_iff_eq] at h
      obtain ⟨⟨⟨rfl, h1⟩, h2⟩, h3⟩ := h
      rename_i o' _ _
      obtain ⟨r, ho, hk⟩ := cm_ok T g o'
      exact PE.imp (pe_cmpR ho (a.ok X W T _ h1 g q.1) (b.ok X W T _ h2 g q.2) (noSet_marks h3)) fun σ H Q z => seq2 hk z
    · cases h
/-! ### tests -/
/-- a value that is a bool, as a test -/
def wB (a : WE) : WT := fun env S Q X => a env S (fun d S1 => ∃ b, d = .bl b ∧ Q b S1) X
theorem tB_of {K : Fg} {mg : Str → Option Value} {W : WX} {a : WE} {σ : L2.St} {H : Hp} {Q : Bool → Hp → Prop} (h : tT K mg W (wB a) σ H Q) : tE K mg W a σ H fun x H' => ∃ k, x = .bl k ∧ Q k H' := by
  obtain ⟨env, S, F, ads, Qd, Xd, er, sm, hw, kv, kx⟩ := h
  refine ⟨env, S, F, ads, _, Xd, er, sm, hw, fun F1 ads1 S1 H1 d v x1 s1 r1 h1 => ?_, kx⟩
  obtain ⟨b, rfl, hq⟩ := h1
  cases r1
  exact ⟨b, rfl, kv _ _ _ _ _ x1 s1 hq⟩
def DT.cmp (o : CmpOp) (a b : DE) : DT where
  mt c e := match e with
    | .Compare x [o'] [y] _ => o' == o && a.mt c x && b.mt c y && noSet y
    | _ => false
  wp := wB (w2 (cmD o) a.wp b.wp)
  rq Z := a.rq Z ∧ b.rq Z
  ok X W T e h g q := by
    split at h
    · simp only [Bool.and_eq_true, beq_iff_eq] at h
      obtain ⟨⟨⟨rfl, h1⟩, h2⟩, h3⟩ := h
      rename_i o' _ _
      obtain ⟨r, ho, hk⟩ := cm_ok T g o'
      exact PT.imp (pt_cmpR ho (a.ok X W T _ h1 g q.1) (b.ok X W T _ h2 g q.2) (noSet_marks h3)) fun σ H Q z => seq2 hk (tB_of z)
    · cases h
/-- a < b < c -/
def w3 (op op' : D → D → Sto → QD → Prop) (a b c : WE) : WE := fun env S Q X => a env S (fun x S1 => b env S1 (fun y S2 => op x y S2 fun z S3 => ∃ k, z = .bl k ∧ if k = true then c env S3 (fun u S4 => op' y u S4 Q) X else Q (.bl false) S3) X) X
theorem seq3 {K : Fg} {mg : Str → Option Value} {W : WX} {op op' : D → D → Sto → QD → Prop} {r r' : R2} {a b c : WE} (o : Ok2 K op r) (o' : Ok2 K op' r') {σ : L2.St} {H : Hp} {Q : VK} (h : tE K mg W (w3 op op' a b c) σ H Q) :
    tChain r r' (tE K mg W a) (tE K mg W b) (tE K mg W c) σ H Q := by
  obtain ⟨env, S, F, ads, Qd, Xd, er, sm, hw, kv, kx⟩ := h
  refine ⟨env, S, F, ads, _, Xd, er, sm, hw, fun F1 ads1 S1 H1 d v x1 s1 r1 h1 => ?_, kx⟩
  refine ⟨env, S1, F1, ads1, _, Xd, er.ext x1, s1, h1, fun F2 ads2 S2 H2 d2 v2 x2 s2 r2 h2 => ?_, kx.ext x1⟩
  refine o s2 (r1.ext x2) r2 h2 fun F3 ads3 S3 H3 d3 v3 x3 s3 r3 h3 => ?_
  obtain ⟨k, rfl, h3⟩ := h3
  cases r3
  refine ⟨k, rfl, ?_⟩
  have x13 := (x1.trans x2).trans x3
  cases k with
  | false => exact kv _ _ _ _ _ _ x13 s3 (.bl _) h3
  | true => exact ⟨env, S3, F3, ads3, _, Xd, er.ext x13, s3, h3, fun F4 ads4 S4 H4 d4 v4 x4 s4 r4 h4 => o' s4 (r2.ext (x3.trans x4)) r4 h4 (kv.ext (x13.trans x4)), kx.ext x13⟩
def DE.chn (o o' : CmpOp) (a b c : DE) : DE where
  mt k e := match e with
    | .Compare x [p, p'] [y, z] _ => p == o && p' == o' && a.mt k x && b.mt k y && c.mt k z && noSet y && noSet z
    | _ => false
  wp := w3 (cmD o) (cmD o') a.wp b.wp c.wp
  rq Z := a.rq Z ∧ b.rq Z ∧ c.rq Z
  ok X W T e h g q := by
    split at h
    · simp only [Bool.and_eq_true, beq_iff_eq] at h
      obtain ⟨⟨⟨⟨⟨⟨rfl, rfl⟩, h1⟩, h2⟩, h3⟩, h4⟩, h5⟩ := h
      rename_i p p' _ _ _
      obtain ⟨r, ho, hk⟩ := cm_ok T g p
      obtain ⟨r', ho', hk'⟩ := cm_ok T g p'
      exact PE.imp (pe_chain ho ho' (a.ok X W T _ h1 g q.1) (b.ok X W T _ h2 g q.2.1) (c.ok X W T _ h3 g q.2.2) (noSet_marks h5)) fun σ H Q z => seq3 hk hk' z
    · cases h
def DT.chn (o o' : CmpOp) (a b c : DE) : DT where
  mt k e := match e with
    | .Compare x [p, p'] [y, z] _ => p == o && p' == o' && a.mt k x && b.mt k y && c.mt k z && noSet y && noSet z
    | _ => false
  wp := wB (w3 (cmD o) (cmD o') a.wp b.wp c.wp)
  rq Z := a.rq Z ∧ b.rq Z ∧ c.rq Z
  ok X W T e h g q := by
    split at h
    · simp only [Bool.and_eq_true, beq_iff_eq] at h
      obtain ⟨⟨⟨⟨⟨⟨rfl, rfl⟩, h1⟩, h2⟩, h3⟩, h4⟩, h5⟩ := h
      rename_i p p' _ _ _
      obtain ⟨r, ho, hk⟩ := cm_ok T g p
      obtain ⟨r', ho', hk'⟩ := cm_ok T g p'
      exact PT.imp (pt_chain ho ho' (a.ok X W T _ h1 g q.1) (b.ok X W T _ h2 g q.2.1) (c.ok X W T _ h3 g q.2.2) (noSet_marks h5)) fun σ H Q z => seq3 hk hk' (tB_of z)
    · cases h
def plainT : Expr → Bool
  | .UnaryOp .Not _ _ => false
  | .BoolOp _ _ _ => false
  | .IfExp _ _ _ _ => false
  | .Compare _ _ _ _ => false
  | _ => true
theorem plainT_of {e : Expr} {env : PySem.Env} (h : plainT e = true) (whole : Sem Value) : isTrue e env whole = (do let v ← whole; standAt e.pos; holding [v] (truthy v)) := by
  cases e with
  | UnaryOp o x p => cases o <;> first | rfl | (exact absurd h (by simp [plainT]))
  | _ => first | rfl | (exact absurd h (by simp [plainT]))
/-- an expression that gives a bool -/
def DT.val (a : DE) : DT where
  mt c e := plainT e && a.mt c e
  wp := wB a.wp
  rq Z := a.rq Z
  ok X W T e h g q := by
    simp only [Bool.and_eq_true] at h
    exact PT.imp (pt_val (a.ok X W T _ h.2 g q) (plainT_of h.1)) fun σ H Q z => tB_of z
def wNotT (a : WT) : WT := fun env S Q X => a env S (fun b S1 => Q (!b) S1) X
def DT.not (a : DT) : DT where
  mt c e := match e with
    | .UnaryOp .Not x _ => a.mt c x
    | _ => false
  wp := wNotT a.wp
  rq Z := a.rq Z
  ok X W T e h g q := by
    split at h
    · exact PT.imp (pt_not (a.ok X W T _ h g q)) fun σ H Q ⟨env, S, F, ads, Qd, Xd, er, sm, hw, kv, kx⟩ => ⟨env, S, F, ads, _, Xd, er, sm, hw, fun F1 ads1 S1 H1 b x1 s1 h1 => kv _ _ _ _ _ x1 s1 h1, kx⟩
    · cases h
/-- the parts of an «and», an «or» -/
structure DW where
  op : BoolOp
  mt : Sc → List Expr → Bool
  wp : WT
  rq : Cy → Prop
  ok : ∀ (X : Cx) (W : WX) (T : List (Addr × Str)) (e : List Expr) (pos : Pos), mt (scOf X) e = true → Good X W → rq (cyOf X T) → PW X (.BoolOp op e pos) (tT (kt X T) X.mg W wp) ∧ e ≠ []
theorem PW.imp {X : Cx} {e : Expr} {t t' : TT} (h : PW X e t) (q : ∀ σ H Q, t' σ H Q → t σ H Q) : PW X e t' := ⟨fun wh pins s σ H Q I z => h.run wh pins s σ H Q I (q _ _ _ z)⟩
def DW.one (o : BoolOp) (a : DT) : DW where
  op := o
  mt c e := match e with
    | [x] => a.mt c x
    | _ => false
  wp := a.wp
  rq := a.rq
  ok X W T e pos h g q := by
    split at h
    · cases o with
      | And => exact ⟨pw_and1 (a.ok X W T _ h g q), by simp⟩
      | Or => exact ⟨pw_or1 (a.ok X W T _ h g q), by simp⟩
    · cases h
def wAndT (a b : WT) : WT := fun env S Q X => a env S (fun k S1 => if k = true then b env S1 Q X else Q false S1) X
def wOrT (a b : WT) : WT := fun env S Q X => a env S (fun k S1 => if k = true then Q true S1 else b env S1 Q X) X
theorem seqAnd {K : Fg} {mg : Str → Option Value} {W : WX} {a b : WT} {σ : L2.St} {H : Hp} {Q : Bool → Hp → Prop} (h : tT K mg W (wAndT a b) σ H Q) : tAnd (tT K mg W a) (tT K mg W b) σ H Q := by
  obtain ⟨env, S, F, ads, Qd, Xd, er, sm, hw, kv, kx⟩ := h
  refine ⟨env, S, F, ads, _, Xd, er, sm, hw, fun F1 ads1 S1 H1 k x1 s1 h1 => ?_, kx⟩
  cases k with
  | true => exact ⟨env, S1, F1, ads1, _, Xd, er.ext x1, s1, h1, kv.ext x1, kx.ext x1⟩
  | false => exact kv _ _ _ _ _ x1 s1 h1
theorem seqOr {K : Fg} {mg : Str → Option Value} {W : WX} {a b : WT} {σ : L2.St} {H : Hp} {Q : Bool → Hp → Prop} (h : tT K mg W (wOrT a b) σ H Q) : tOr (tT K mg W a) (tT K mg W b) σ H Q := by
  obtain ⟨env, S, F, ads, Qd, Xd, er, sm, hw, kv, kx⟩ := h
  refine ⟨env, S, F, ads, _, Xd, er, sm, hw, fun F1 ads1 S1 H1 k x1 s1 h1 => ?_, kx⟩
  cases k with
  | false => exact ⟨env, S1, F1, ads1, _, Xd, er.ext x1, s1, h1, kv.ext x1, kx.ext x1⟩
  | true => exact kv _ _ _ _ _ x1 s1 h1
def boolW : BoolOp → WT → WT → WT
  | .And => wAndT
  | .Or => wOrT
def DW.cons (a : DT) (r : DW) : DW where
  op := r.op
  mt c e := match e with
    | x :: xs => a.mt c x && r.mt c xs
    | _ => false
  wp := boolW r.op a.wp r.wp
  rq Z := a.rq Z ∧ r.rq Z
  ok X W T e pos h g q := by
    split at h
    · simp only [Bool.and_eq_true] at h
      rename_i x xs
      obtain ⟨hr, hne⟩ := r.ok X W T xs pos h.2 g q.2
      have ha := a.ok X W T x h.1 g q.1
      refine ⟨?_, by simp⟩
      cases xs with
      | nil => exact absurd rfl hne
      | cons y ys =>
        cases hop : r.op with
        | And => rw [hop] at hr; exact PW.imp (pw_and ha hr) fun σ H Q z => seqAnd z
        | Or => rw [hop] at hr; exact PW.imp (pw_or ha hr) fun σ H Q z => seqOr z
    · cases h
def DT.bool (r : DW) : DT where
  mt c e := match e with
    | .BoolOp o es _ => o == r.op && r.mt c es
    | _ => false
  wp := r.wp
  rq := r.rq
  ok X W T e h g q := by
    split at h
    · simp only [Bool.and_eq_true, beq_iff_eq] at h
      obtain ⟨rfl, h2⟩ := h
      exact (r.ok X W T _ _ h2 g q).1.pt
    · cases h
/-! ### and, or, not, if as values -/
def wNotV (a : WE) : WE := fun env S Q X => a env S (fun d S1 => ∃ b, d = .bl b ∧ Q (.bl (!b)) S1) X
def DE.not (a : DE) : DE where
  mt c e := match e with
    | .UnaryOp .Not x _ => a.mt c x
    | _ => false
  wp := wNotV a.wp
  rq Z := a.rq Z
  ok X W T e h g q := by
    split at h
    · exact PE.imp (pe_not (a.ok X W T _ h g q)) fun σ H Q ⟨env, S, F, ads, Qd, Xd, er, sm, hw, kv, kx⟩ => ⟨env, S, F, ads, _, Xd, er, sm, hw, fun F1 ads1 S1 H1 d v x1 s1 r1 h1 => by
        obtain ⟨b, rfl, hq⟩ := h1
        cases r1
        exact ⟨b, rfl, kv _ _ _ _ _ _ x1 s1 (.bl _) hq⟩, kx⟩
    · cases h
structure DV where
  op : BoolOp
  mt : Sc → List Expr → Bool
  wp : WE
  rq : Cy → Prop
  ok : ∀ (X : Cx) (W : WX) (T : List (Addr × Str)) (e : List Expr) (pos : Pos), mt (scOf X) e = true → Good X W → rq (cyOf X T) → PE X (.BoolOp op e pos) (tE (kt X T) X.mg W wp) ∧ e ≠ []
def DV.one (o : BoolOp) (a : DE) : DV where
  op := o
  mt c e := match e with
    | [x] => a.mt c x
    | _ => false
  wp := a.wp
  rq := a.rq
  ok X W T e pos h g q := by
    split at h
    · exact ⟨pe_one (a.ok X W T _ h g q), by simp⟩
    · cases h
def wAndV (a b : WE) : WE := fun env S Q X => a env S (fun d S1 => ∃ k, d = .bl k ∧ if k = true then b env S1 Q X else Q (.bl false) S1) X
def wOrV (a b : WE) : WE := fun env S Q X => a env S (fun d S1 => ∃ k, d = .bl k ∧ if k = true then Q (.bl true) S1 else b env S1 Q X) X
theorem seqAndV {K : Fg} {mg : Str → Option Value} {W : WX} {a b : WE} {σ : L2.St} {H : Hp} {Q : VK} (h : tE K mg W (wAndV a b) σ H Q) : tAndV (tE K mg W a) (tE K mg W b) σ H Q := by
  obtain ⟨env, S, F, ads, Qd, Xd, er, sm, hw, kv, kx⟩ := h
  refine ⟨env, S, F, ads, _, Xd, er, sm, hw, fun F1 ads1 S1 H1 d v x1 s1 r1 h1 => ?_, kx⟩
  obtain ⟨k, rfl, h1⟩ := h1
  cases r1
  refine ⟨k, rfl, ?_⟩
  cases k with
  | true => exact ⟨env, S1, F1, ads1, _, Xd, er.ext x1, s1, h1, kv.ext x1, kx.ext x1⟩
  | false => exact kv _ _ _ _ _ _ x1 s1 (.bl _) h1
theorem seqOrV {K : Fg} {mg : Str → Option Value} {W : WX} {a b : WE} {σ : L2.St} {H : Hp} {Q : VK} (h : tE K mg W (wOrV a b) σ H Q) : tOrV (tE K mg W a) (tE K mg W b) σ H Q := by
  obtain ⟨env, S, F, ads, Qd, Xd, er, sm, hw, kv, kx⟩ := h
  refine ⟨env, S, F, ads, _, Xd, er, sm, hw, fun F1 ads1 S1 H1 d v x1 s1 r1 h1 => ?_, kx⟩
  obtain ⟨k, rfl, h1⟩ := h1
  cases r1
  refine ⟨k, rfl, ?_⟩
  cases k with
  | false => exact ⟨env, S1, F1, ads1, _, Xd, er.ext x1, s1, h1, kv.ext x1, kx.ext x1⟩
  | true => exact kv _ _ _ _ _ _ x1 s1 (.bl _) h1
def boolV : BoolOp → WE → WE → WE
  | .And => wAndV
  | .Or => wOrV
def DV.cons (a : DE) (r : DV) : DV where
  op := r.op
  mt c e := match e with
    | x :: xs => a.mt c x && r.mt c xs
    | _ => false
  wp := boolV r.op a.wp r.wp
  rq Z := a.rq Z ∧ r.rq Z
  ok X W T e pos h g q := by
    split at h
    · simp only [Bool.and_eq_true] at h
      rename_i x xs
      obtain ⟨hr, hne⟩ := r.ok X W T xs pos h.2 g q.2
      have ha := a.ok X W T x h.1 g q.1
      refine ⟨?_, by simp⟩
      cases xs with
      | nil => exact absurd rfl hne
      | cons y ys =>
        cases hop : r.op with
        | And => rw [hop] at hr; exact PE.imp (pe_and ha hr) fun σ H Q z => seqAndV z
        | Or => rw [hop] at hr; exact PE.imp (pe_or ha hr) fun σ H Q z => seqOrV z
    · cases h
def DE.bool (r : DV) : DE where
  mt c e := match e with
    | .BoolOp o es _ => o == r.op && r.mt c es
    | _ => false
  wp := r.wp
  rq := r.rq
  ok X W T e h g q := by
    split at h
    · simp only [Bool.and_eq_true, beq_iff_eq] at h
      obtain ⟨rfl, h2⟩ := h
      exact (r.ok X W T _ _ h2 g q).1
    · cases h
def wIte (t : WT) (a b : WE) : WE := fun env S Q X => t env S (fun k S1 => if k = true then a env S1 Q X else b env S1 Q X) X
def DE.ite (t : DT) (a b : DE) : DE where
  mt c e := match e with
    | .IfExp x y z _ => t.mt c x && a.mt c y && b.mt c z
    | _ => false
  wp := wIte t.wp a.wp b.wp
  rq Z := t.rq Z ∧ a.rq Z ∧ b.rq Z
  ok X W T e h g q := by
    split at h
    · simp only [Bool.and_eq_true] at h
      refine PE.imp (pe_ifExp (t.ok X W T _ h.1.1 g q.1) (a.ok X W T _ h.1.2 g q.2.1) (b.ok X W T _ h.2 g q.2.2)) fun σ H Q ⟨env, S, F, ads, Qd, Xd, er, sm, hw, kv, kx⟩ => ?_
      refine ⟨env, S, F, ads, _, Xd, er, sm, hw, fun F1 ads1 S1 H1 k x1 s1 h1 => ?_, kx⟩
      cases k with
      | true => exact ⟨env, S1, F1, ads1, _, Xd, er.ext x1, s1, h1, kv.ext x1, kx.ext x1⟩
      | false => exact ⟨env, S1, F1, ads1, _, Xd, er.ext x1, s1, h1, kv.ext x1, kx.ext x1⟩
    · cases h
/-! ### subscripts -/
def oIx : D → D → Sto → QD → Prop
  | x, .int i, S, Q => ∃ ds d, seqOf S x = some ds ∧ atI ds i = some d ∧ Q d S
  | _, _, _, _ => False
theorem atI_rp {K : Fg} {F : Hp} {ads : List Addr} {ds : List D} {vs : List V} {i : Int} {d : D} (r : Rps K F ads ds vs) (h : atI ds i = some d) : ∃ v, atI vs i = some v ∧ Rp K F ads d v := by
  unfold atI at h ⊢
  rw [← r.length]
  cases e : ixN ds.length i with
  | none => rw [e] at h; cases h
  | some j =>
    rw [e] at h
    obtain ⟨v, hv, rv⟩ := r.get (show ds[j]? = some d from h)
    exact ⟨v, hv, rv⟩
theorem ok_ix {K : Fg} : Ok2 K oIx (rIx K.K) := by
  intro F ads S H x y v u Qd Q sm rx ry h kv
  unfold oIx at h
  split at h
  · obtain ⟨ds, d, hs, hi, hq⟩ := h
    cases ry
    obtain ⟨a, vs, e, hq2, rs⟩ := seq_sq sm rx hs
    obtain ⟨z, hz, rz⟩ := atI_rp rs hi
    rcases hq2 with hq2 | hq2
    · exact .inl ⟨a, vs, _, z, e, rfl, hq2, hz, kv _ _ _ _ _ _ Ext.refl sm rz hq⟩
    · exact .inr (.inl ⟨a, vs, _, z, e, rfl, hq2, hz, kv _ _ _ _ _ _ Ext.refl sm rz hq⟩)
  · exact h.elim
def plainIx : Expr → Bool
  | .Slice _ _ _ _ => false
  | _ => true
theorem plainIx_of {e : Expr} (h : plainIx e = true) : PlainIx e := fun o i => by
  cases e <;> first | rfl | (simp [plainIx] at h)
def DE.ix (a b : DE) : DE where
  mt c e := match e with
    | .Subscript x y _ => a.mt c x && b.mt c y && plainIx y
    | _ => false
  wp := w2 oIx a.wp b.wp
  rq Z := a.rq Z ∧ b.rq Z
  ok X W T e h g q := by
    split at h
    · simp only [Bool.and_eq_true] at h
      exact PE.imp (pe_ix ix_seq (a.ok X W T _ h.1.1 g q.1) (b.ok X W T _ h.1.2 g q.2) (plainIx_of h.2)) fun σ H Q z => seq2 ok_ix z
    · cases h
/-! slices -/
abbrev WO := Env → Sto → (Option Int → Sto → Prop) → XD → Prop
def tO (K : Fg) (mg : Str → Option Value) (W : WX) (w : WO) : TO := fun σ H Q => ∃ env S F ads Qd Xd, EnvR K F ads env σ ∧ Sim K F ads S H ∧ w env S Qd Xd ∧ (∀ F' ads' S' H' o, Ext F ads H F' ads' H' → Sim K F' ads' S' H' → Qd o S' → Q o H') ∧ KX K mg W F ads H σ Xd
structure DO where
  mt : Sc → Option Expr → Bool
  wp : WO
  rq : Cy → Prop
  ok : ∀ (X : Cx) (W : WX) (T : List (Addr × Str)) (e : Option Expr), mt (scOf X) e = true → Good X W → rq (cyOf X T) → PO X e (tO (kt X T) X.mg W wp)
theorem PO.imp {X : Cx} {e : Option Expr} {t t' : TO} (h : PO X e t) (q : ∀ σ H Q, t' σ H Q → t σ H Q) : PO X e t' := ⟨fun pins s σ H Q I z => h.run pins s σ H Q I (q _ _ _ z)⟩
def wNo : WO := fun _ S Q _ => Q none S
def wSo (a : WE) : WO := fun env S Q X => a env S (fun d S1 => ∃ i, d = .int i ∧ Q (some i) S1) X
def DO.no : DO where
  mt _ e := e.isNone
  wp := wNo
  rq _ := True
  ok X W T e h g _ := by
    cases e with
    | none => exact PO.imp po_none fun σ H Q ⟨env, S, F, ads, Qd, Xd, er, sm, hw, kv, kx⟩ => kv _ _ _ _ _ Ext.refl sm hw
    | some x => cases h
def DO.so (a : DE) : DO where
  mt c e := match e with
    | some x => a.mt c x
    | none => false
  wp := wSo a.wp
  rq := a.rq
  ok X W T e h g q := by
    split at h
    · exact PO.imp (po_some (a.ok X W T _ h g q)) fun σ H Q ⟨env, S, F, ads, Qd, Xd, er, sm, hw, kv, kx⟩ => ⟨env, S, F, ads, _, Xd, er, sm, hw, fun F1 ads1 S1 H1 d v x1 s1 r1 h1 => by
        obtain ⟨i, rfl, hq⟩ := h1
        cases r1
        exact ⟨i, rfl, kv _ _ _ _ _ x1 s1 hq⟩, kx⟩
    · cases h
def cutD (xs : List D) (lo hi : Option Int) : List D := (xs.drop (HT.sIx xs.length 0 lo)).take (HT.sIx xs.length xs.length hi - HT.sIx xs.length 0 lo)
theorem cut_rp {K : Fg} {F : Hp} {ads : List Addr} {ds : List D} {vs : List V} (r : Rps K F ads ds vs) (lo hi : Option Int) : Rps K F ads (cutD ds lo hi) (cutV vs lo hi) := by
  unfold cutD cutV
  rw [r.length]
  exact (r.drop _).take _
def oSl (lo hi : Option Int) : D → Sto → QD → Prop
  | .tup ds, S, Q => Q (.tup (cutD ds lo hi)) S
  | .str z, S, Q => z.length ≤ sizeLine ∧ Q (.str (cutS z lo hi)) S
  | x, S, Q => ∃ ds, lstOf S x = some ds ∧ Q (.lst (cutD ds lo hi)) S
theorem cut_all {n : Nat} {ds : List D} {lo hi : Option Int} (h : HT.sIx ds.length 0 lo = 0 ∧ HT.sIx ds.length ds.length hi = ds.length) : cutD ds lo hi = ds := by
  unfold cutD
  rw [h.1, h.2]
  simp
theorem ok_sl {K : Fg} {lo hi : Option Int} : Ok1 K (oSl lo hi) (fun x H Q => rSlA K.K x lo hi H Q ∨ (rSlL K.K x lo hi H Q ∨ rSlS x lo hi H Q)) := by
  intro F ads S H x v Qd Q sm rx h kv
  unfold oSl at h
  split at h
  · have rx0 := rx
    cases rx with
    | tup ha ra =>
      rename_i ds a vs
      refine .inl ⟨a, vs, rfl, Sub.tup sm.sub ha, fun e => ?_, fun _ p hp => ?_⟩
      · rw [← ra.length] at e
        rw [cut_all (n := 0) e] at h
        exact kv _ _ _ _ _ _ Ext.refl sm rx0 h
      · obtain ⟨s2, x2⟩ := sm.frz hp (.tup (cutV vs lo hi))
        exact kv _ _ _ _ _ _ x2 s2 (.tup (SqT.of upd_same) ((cut_rp ra lo hi).ext x2)) h
  · cases rx
    exact .inr (.inr ⟨_, rfl, h.1, kv _ _ _ _ _ _ Ext.refl sm (.str _) h.2⟩)
  · obtain ⟨ds, hs, h⟩ := h
    obtain ⟨a, vs, e, hq, rs⟩ := lst_sq sm rx hs
    refine .inr (.inl ⟨a, vs, e, hq, fun p hp => ?_⟩)
    obtain ⟨s2, x2⟩ := sm.frz hp (.lst (cutV vs lo hi))
    exact kv _ _ _ _ _ _ x2 s2 (.lst upd_same ((cut_rp rs lo hi).ext x2)) h
def wSl (a : WE) (lo hi : WO) : WE := fun env S Q X => a env S (fun x S1 => lo env S1 (fun l S2 => hi env S2 (fun u S3 => oSl l u x S3 Q) X) X) X
def DE.sl (a : DE) (lo hi : DO) : DE where
  mt c e := match e with
    | .Subscript x (.Slice l u none _) _ => a.mt c x && lo.mt c l && hi.mt c u
    | _ => false
  wp := wSl a.wp lo.wp hi.wp
  rq Z := a.rq Z ∧ lo.rq Z ∧ hi.rq Z
  ok X W T e h g q := by
    split at h
    · simp only [Bool.and_eq_true] at h
      refine PE.imp (pe_slice (sl_tupA.or (sl_list.or sl_str)) (a.ok X W T _ h.1.1 g q.1) (lo.ok X W T _ h.1.2 g q.2.1) (hi.ok X W T _ h.2 g q.2.2)) fun σ H Q ⟨env, S, F, ads, Qd, Xd, er, sm, hw, kv, kx⟩ => ?_
      refine ⟨env, S, F, ads, _, Xd, er, sm, hw, fun F1 ads1 S1 H1 d v x1 s1 r1 h1 => ?_, kx⟩
      refine ⟨env, S1, F1, ads1, _, Xd, er.ext x1, s1, h1, fun F2 ads2 S2 H2 l x2 s2 h2 => ?_, kx.ext x1⟩
      refine ⟨env, S2, F2, ads2, _, Xd, er.ext (x1.trans x2), s2, h2, fun F3 ads3 S3 H3 u x3 s3 h3 => ?_, kx.ext (x1.trans x2)⟩
      exact ok_sl s3 (r1.ext (x2.trans x3)) h3 (kv.ext ((x1.trans x2).trans x3))
    · cases h
/-! #### DL4 -/
/-! The D layer, part 4: displays, new lists, built-ins, methods. -/
theorem small_line {n : Nat} (h : decide (n ≤ 1000) = true) : n ≤ sizeLine := Nat.le_trans (of_decide_eq_true h) (by rw [sizeLine_eq]; decide)
def wTup (a : WL) : WE := fun env S Q X => a env S (fun ds S1 => Q (.tup ds) S1) X
def DE.tup (a : DA) : DE where
  mt c e := match e with
    | .Tuple es _ _ => a.mt c es && decide (a.n ≤ 1000)
    | _ => false
  wp := wTup a.wp
  rq := a.rq
  ok X W T e h g q := by
    split at h
    · simp only [Bool.and_eq_true] at h
      refine PE.imp (pe_tup (a.ok X W T _ h.1 g q).1) fun σ H Q ⟨env, S, F, ads, Qd, Xd, er, sm, hw, kv, kx⟩ => ?_
      refine ⟨env, S, F, ads, _, Xd, er, sm, hw, fun F1 ads1 S1 H1 ds vs x1 s1 r1 l1 h1 => ?_, kx⟩
      refine ⟨by rw [← r1.length, l1]; exact small_line h.2, fun p hp => ?_⟩
      obtain ⟨s2, x2⟩ := s1.frz hp (.tup vs)
      exact kv _ _ _ _ _ _ (x1.trans x2) s2 (.tup (SqT.of upd_same) (r1.ext x2)) h1
    · cases h
/-! ### new lists -/
def DL.dis (a : DA) : DL where
  mt c e := match e with
    | .List es _ => a.mt c es && decide (a.n ≤ 1000)
    | _ => false
  wp := a.wp
  rq := a.rq
  ok X W T e h g q := by
    split at h
    · simp only [Bool.and_eq_true] at h
      refine PE.imp (pe_lst (a.ok X W T _ h.1 g q).1) fun σ H Q ⟨env, S, F, ads, Qd, Xd, er, sm, hw, kv, kx⟩ => ?_
      refine ⟨env, S, F, ads, _, Xd, er, sm, hw, fun F1 ads1 S1 H1 ds vs x1 s1 r1 l1 h1 => ?_, kx⟩
      exact ⟨by rw [← r1.length, l1]; exact small_line h.2, fun p hp => kv _ _ _ _ _ _ _ x1 s1 r1 hp h1⟩
    · cases h
def wLst (a : WL) : WE := fun env S Q X => a env S (fun ds S1 => Q (.lst ds) S1) X
def wThw (a : WL) : WE := fun env S Q X => a env S (fun ds S1 => Q (.han S1.length) (S1 ++ [.lst ds])) X
theorem seqLst {K : Fg} {mg : Str → Option Value} {W : WX} {a : WL} {σ : L2.St} {H : Hp} {Q : VK} (h : tE K mg W (wLst a) σ H Q) : tL K mg W a σ H Q := by
  obtain ⟨env, S, F, ads, Qd, Xd, er, sm, hw, kv, kx⟩ := h
  refine ⟨env, S, F, ads, _, Xd, er, sm, hw, fun F1 ads1 S1 H1 ds vs p x1 s1 r1 hp h1 => ?_, kx⟩
  obtain ⟨s2, x2⟩ := s1.frz hp (.lst vs)
  exact kv _ _ _ _ _ _ (x1.trans x2) s2 (.lst upd_same (r1.ext x2)) h1
theorem seqThw {K : Fg} {mg : Str → Option Value} {W : WX} {a : WL} {σ : L2.St} {H : Hp} {Q : VK} (h : tE K mg W (wThw a) σ H Q) : tL K mg W a σ H Q := by
  obtain ⟨env, S, F, ads, Qd, Xd, er, sm, hw, kv, kx⟩ := h
  refine ⟨env, S, F, ads, _, Xd, er, sm, hw, fun F1 ads1 S1 H1 ds vs p x1 s1 r1 hp h1 => ?_, kx⟩
  have pr : ∀ (i : Nat) a, ads1[i]? = some a → (ads1 ++ [p])[i]? = some a := fun i a e => by
    rw [List.getElem?_append_left (List.getElem?_eq_some_iff.mp e).1]; exact e
  obtain ⟨s2, x2⟩ := s1.thw hp (.lst vs) (.lst ds) ⟨(s1.fresh hp).2, vs, upd_same, r1.mono (Same.refl _) pr⟩
  refine kv _ _ _ _ _ _ (x1.trans x2) s2 (.han ?_) h1
  rw [← s1.len, List.getElem?_append_right (Nat.le_refl _)]
  simp
def DE.lst (l : DL) : DE where
  mt := l.mt
  wp := wLst l.wp
  rq := l.rq
  ok X W T e h g q := PE.imp (l.ok X W T e h g q) fun σ H Q z => seqLst z
def DE.thw (l : DL) : DE where
  mt := l.mt
  wp := wThw l.wp
  rq := l.rq
  ok X W T e h g q := PE.imp (l.ok X W T e h g q) fun σ H Q z => seqThw z
/-! ### built-ins by their names -/
def bltB (x : Str) (a : DA) (c : Sc) : Expr → Bool
  | .Call (.Name y _) (e :: es) [] _ => y == x && glB c x && a.mt c (e :: es)
  | _ => false
/-- a built-in function -/
def mkB (x : Str) (id : String) (hv : bootBuiltins x = some (.builtin id)) (hn : x ≠ "__name__") (hd : (x == ("__debug__" : Str)) = false) (op : List D → Sto → QD → Prop)
    (pf : ∀ (X : Cx) (W : WX) (T : List (Addr × Str)), Good X W → ∃ r, CallR X (.builtin id) r ∧ OkA (kt X T) op r) (a : DA) : DE where
  mt c e := bltB x a c e
  wp := wAp op a.wp
  rq Z := Z.mg x = none ∧ a.rq Z
  ok X W T e h g q := by
    unfold bltB at h
    split at h
    · simp only [Bool.and_eq_true, beq_iff_eq] at h
      obtain ⟨⟨rfl, h1⟩, h2⟩ := h
      obtain ⟨r, hr, hk⟩ := pf X W T g
      obtain ⟨pa, ps⟩ := a.ok X W T _ h2 g q.2
      simp only [List.all_cons, Bool.and_eq_true] at ps
      exact PE.imp (pe_callB hr (gl_of h1) q.1 hv pa hn hd (starEach_cons ps.1) (star_any ps.2)) fun σ H Q z => seqA hk z
    · cases h
/-- a built-in class, called -/
def mkT (x : Str) (Ty : String) (hv : bootBuiltins x = some (.type Ty)) (hn : x ≠ "__name__") (hd : (x == ("__debug__" : Str)) = false) (op : List D → Sto → QD → Prop)
    (pf : ∀ (X : Cx) (W : WX) (T : List (Addr × Str)), Good X W → ∃ r, CallR X (.type Ty) r ∧ OkA (kt X T) op r) (a : DA) : DE where
  mt c e := bltB x a c e
  wp := wAp op a.wp
  rq Z := Z.mg x = none ∧ a.rq Z
  ok X W T e h g q := by
    unfold bltB at h
    split at h
    · simp only [Bool.and_eq_true, beq_iff_eq] at h
      obtain ⟨⟨rfl, h1⟩, h2⟩ := h
      obtain ⟨r, hr, hk⟩ := pf X W T g
      obtain ⟨pa, ps⟩ := a.ok X W T _ h2 g q.2
      simp only [List.all_cons, Bool.and_eq_true] at ps
      exact PE.imp (pe_callTy hr (gl_of h1) q.1 hv pa hn hd (starEach_cons ps.1) (star_any ps.2)) fun σ H Q z => seqA hk z
    · cases h
def oLen : List D → Sto → QD → Prop
  | [.str z], S, Q => z.length ≤ sizeLine ∧ Q (.int z.length) S
  | [x], S, Q => ∃ ds, seqOf S x = some ds ∧ Q (.int ds.length) S
  | _, _, _ => False
theorem ok_len {K : Fg} : OkA K oLen (fun xs H Q => (∃ p ys, xs = [.ref p] ∧ (SqL K.K H p ys ∨ SqT K.K H p ys) ∧ Q (.int ys.length) H) ∨ ∃ z, xs = [.str z] ∧ z.length ≤ sizeLine ∧ Q (.int z.length) H) := by
  intro F ads S H xs vs Qd Q sm rx h kv
  unfold oLen at h
  split at h
  · cases rx with
    | cons r t => cases t; cases r; exact .inr ⟨_, rfl, h.1, kv _ _ _ _ _ _ Ext.refl sm (.int _) h.2⟩
  · cases rx with
    | cons r t =>
      cases t
      obtain ⟨ds, hs, hq⟩ := h
      obtain ⟨a, ys, e, hy, rs⟩ := seq_sq sm r hs
      subst e
      exact .inl ⟨a, ys, rfl, hy, kv _ _ _ _ _ _ Ext.refl sm (.int _) (by rw [← rs.length]; exact hq)⟩
  · exact h.elim
def DE.len : DA → DE := mkB "len" "len" PySem.boot_len (by decide) (by decide) oLen fun X W T g => ⟨_, call_len_seq.or call_len_str, ok_len⟩
def oAbs : List D → Sto → QD → Prop
  | [.int i], S, Q => Q (.int i.natAbs) S
  | _, _, _ => False
theorem ok_abs {K : Fg} : OkA K oAbs (fun xs H Q => ∃ i, xs = [.int i] ∧ Q (.int (if i < 0 then -i else i)) H) := by
  intro F ads S H xs vs Qd Q sm rx h kv
  unfold oAbs at h
  split at h
  · cases rx with
    | cons r t =>
      cases t; cases r
      rename_i i
      refine ⟨i, rfl, kv _ _ _ _ _ _ Ext.refl sm (.int _) ?_⟩
      have e : (if i < 0 then -i else i) = ((i.natAbs : Nat) : Int) := by split <;> omega
      rw [e]; exact h
  · exact h.elim
def DE.abs : DA → DE := mkB "abs" "abs" (by decide +kernel) (by decide) (by decide) oAbs fun X W T g => ⟨_, call_abs, ok_abs⟩
def oSum : List D → Sto → QD → Prop
  | [x], S, Q => ∃ ns : List Int, lstOf S x = some (ns.map .int) ∧ Q (.int ns.sum) S
  | _, _, _ => False
theorem ok_sum {K : Fg} : OkA K oSum (rSum K.K) := by
  intro F ads S H xs vs Qd Q sm rx h kv
  unfold oSum at h
  split at h
  · cases rx with
    | cons r t =>
      cases t
      obtain ⟨ns, hs, hq⟩ := h
      obtain ⟨a, ys, e, hy, rs⟩ := lst_sq sm r hs
      subst e
      have e2 := rs.ints
      subst e2
      exact ⟨a, ns, rfl, hy, kv _ _ _ _ _ _ Ext.refl sm (.int _) hq⟩
  · exact h.elim
def DE.sum : DA → DE := mkB "sum" "sum" (by decide +kernel) (by decide) (by decide) oSum fun X W T g => ⟨_, cr_sum g.calm, ok_sum⟩
def oAll : List D → Sto → QD → Prop
  | [x], S, Q => ∃ bs : List Bool, lstOf S x = some (bs.map .bl) ∧ Q (.bl (bs.all id)) S
  | _, _, _ => False
def oAny : List D → Sto → QD → Prop
  | [x], S, Q => ∃ bs : List Bool, lstOf S x = some (bs.map .bl) ∧ Q (.bl (bs.any id)) S
  | _, _, _ => False
theorem ok_all {K : Fg} : OkA K oAll (rAll K.K) := by
  intro F ads S H xs vs Qd Q sm rx h kv
  unfold oAll at h
  split at h
  · cases rx with
    | cons r t =>
      cases t
      obtain ⟨ns, hs, hq⟩ := h
      obtain ⟨a, ys, e, hy, rs⟩ := lst_sq sm r hs
      subst e
      have e2 := rs.bls
      subst e2
      exact ⟨a, ns, rfl, hy, kv _ _ _ _ _ _ Ext.refl sm (.bl _) hq⟩
  · exact h.elim
theorem ok_any {K : Fg} : OkA K oAny (rAny K.K) := by
  intro F ads S H xs vs Qd Q sm rx h kv
  unfold oAny at h
  split at h
  · cases rx with
    | cons r t =>
      cases t
      obtain ⟨ns, hs, hq⟩ := h
      obtain ⟨a, ys, e, hy, rs⟩ := lst_sq sm r hs
      subst e
      have e2 := rs.bls
      subst e2
      exact ⟨a, ns, rfl, hy, kv _ _ _ _ _ _ Ext.refl sm (.bl _) hq⟩
  · exact h.elim
def DE.all : DA → DE := mkB "all" "all" (by decide +kernel) (by decide) (by decide) oAll fun X W T g => ⟨_, cr_all g.calm, ok_all⟩
def DE.any : DA → DE := mkB "any" "any" (by decide +kernel) (by decide) (by decide) oAny fun X W T g => ⟨_, cr_any g.calm, ok_any⟩
def oTuple : List D → Sto → QD → Prop
  | [x], S, Q => ∃ ds, seqOf S x = some ds ∧ Q (.tup ds) S
  | _, _, _ => False
theorem tupOf_eq {d : D} {ds : List D} (h : tupOf d = some ds) : d = .tup ds := by
  unfold tupOf at h
  split at h
  · cases h; rfl
  · cases h
theorem ok_tuple {K : Fg} : OkA K oTuple (fun xs H Q => ∃ p ys, xs = [.ref p] ∧ ((SqL K.K H p ys ∧ ∀ l, H l = none → Q (.ref l) (upd H l (.tup ys))) ∨ (SqT K.K H p ys ∧ Q (.ref p) H))) := by
  intro F ads S H xs vs Qd Q sm rx h kv
  unfold oTuple at h
  split at h
  · cases rx with
    | cons r t =>
      cases t
      obtain ⟨ds, hs, hq⟩ := h
      unfold seqOf at hs
      split at hs
      · rename_i ht
        cases hs
        have r0 := r
        obtain ⟨a, ys, e, hy, rs⟩ := tup_sq sm r ht
        subst e
        rw [tupOf_eq ht] at r0
        exact ⟨a, ys, rfl, .inr ⟨hy, kv _ _ _ _ _ _ Ext.refl sm r0 hq⟩⟩
      · obtain ⟨a, ys, e, hy, rs⟩ := lst_sq sm r hs
        subst e
        refine ⟨a, ys, rfl, .inl ⟨hy, fun l hl => ?_⟩⟩
        obtain ⟨s2, x2⟩ := sm.frz hl (.tup ys)
        exact kv _ _ _ _ _ _ x2 s2 (.tup (SqT.of upd_same) (rs.ext x2)) hq
  · exact h.elim
def DE.tuple : DA → DE := mkT "tuple" "tuple" (by decide +kernel) (by decide) (by decide) oTuple fun X W T g => ⟨_, call_tuple_of, ok_tuple⟩
def oInt : List D → Sto → QD → Prop
  | [.int i], S, Q => Q (.int i) S
  | [.bl b], S, Q => Q (.int (if b then 1 else 0)) S
  | [.str z], S, Q => ∃ n, PySem.intText? z = some n ∧ z.length ≤ 640 ∧ Q (.int n) S
  | _, _, _ => False
theorem ok_int {K : Fg} : OkA K oInt (fun xs H Q => ((∃ i, xs = [.int i] ∧ Q (.int i) H) ∨ ∃ k, xs = [.bl k] ∧ Q (.int (if k then 1 else 0)) H) ∨ ∃ a n, xs = [.str a] ∧ PySem.intText? a = some n ∧ a.length ≤ 640 ∧ Q (.int n) H) := by
  intro F ads S H xs vs Qd Q sm rx h kv
  unfold oInt at h
  split at h
  · cases rx with
    | cons r t => cases t; cases r; exact .inl (.inl ⟨_, rfl, kv _ _ _ _ _ _ Ext.refl sm (.int _) h⟩)
  · cases rx with
    | cons r t => cases t; cases r; exact .inl (.inr ⟨_, rfl, kv _ _ _ _ _ _ Ext.refl sm (.int _) h⟩)
  · cases rx with
    | cons r t =>
      cases t; cases r
      obtain ⟨n, h1, h2, h3⟩ := h
      exact .inr ⟨_, n, rfl, h1, h2, kv _ _ _ _ _ _ Ext.refl sm (.int _) h3⟩
  · exact h.elim
def DE.int : DA → DE := mkT "int" "int" (by decide +kernel) (by decide) (by decide) oInt fun X W T g => ⟨_, call_int1.or call_int_str, ok_int⟩
def oStr : List D → Sto → QD → Prop
  | [.int i], S, Q => i.natAbs.log2 < 1920 ∧ Q (.str (toString i)) S
  | _, _, _ => False
theorem ok_str {K : Fg} : OkA K oStr (fun xs H Q => ∃ i : Int, xs = [.int i] ∧ i.natAbs.log2 < 1920 ∧ Q (.str (toString i)) H) := by
  intro F ads S H xs vs Qd Q sm rx h kv
  unfold oStr at h
  split at h
  · cases rx with
    | cons r t => cases t; cases r; exact ⟨_, rfl, h.1, kv _ _ _ _ _ _ Ext.refl sm (.str _) h.2⟩
  · exact h.elim
def DE.str : DA → DE := mkT "str" "str" (by decide +kernel) (by decide) (by decide) oStr fun X W T g => ⟨_, call_str_int, ok_str⟩
/-! list(x): a new list -/
def wLof (a : WL) : WL := fun env S Q X => a env S (fun xs S1 => ∃ x ds, xs = [x] ∧ seqOf S1 x = some ds ∧ Q ds S1) X
def DL.lof (a : DA) : DL where
  mt c e := bltB "list" a c e
  wp := wLof a.wp
  rq Z := Z.mg "list" = none ∧ a.rq Z
  ok X W T e h g q := by
    unfold bltB at h
    split at h
    · simp only [Bool.and_eq_true, beq_iff_eq] at h
      obtain ⟨⟨rfl, h1⟩, h2⟩ := h
      obtain ⟨pa, ps⟩ := a.ok X W T _ h2 g q.2
      simp only [List.all_cons, Bool.and_eq_true] at ps
      refine PE.imp (pe_callTy call_list_of (gl_of h1) q.1 (by decide +kernel) pa (by decide) (by decide) (starEach_cons ps.1) (star_any ps.2)) fun σ H Q ⟨env, S, F, ads, Qd, Xd, er, sm, hw, kv, kx⟩ => ?_
      refine ⟨env, S, F, ads, _, Xd, er, sm, hw, fun F1 ads1 S1 H1 xs vs x1 s1 r1 _ hh => ?_, kx⟩
      obtain ⟨x, ds, rfl, hs, hq⟩ := hh
      cases r1 with
      | cons r t =>
        cases t
        obtain ⟨a, ys, e, hy, rs⟩ := seq_sq s1 r hs
        subst e
        exact ⟨a, ys, rfl, hy, fun l hl => kv _ _ _ _ _ _ _ x1 s1 rs hl hq⟩
    · cases h
/-! a + b of lists, a new list -/
def wCat (a b : WE) : WL := fun env S Q X => a env S (fun x S1 => b env S1 (fun y S2 => ∃ xs ys, lstX S2 x = some xs ∧ lstX S2 y = some ys ∧ xs.length + ys.length ≤ sizeLine ∧ Q (xs ++ ys) S2) X) X
def DL.cat (a b : DE) : DL where
  mt c e := match e with
    | .BinOp x .Add y _ => a.mt c x && b.mt c y
    | _ => false
  wp := wCat a.wp b.wp
  rq Z := a.rq Z ∧ b.rq Z
  ok X W T e h g q := by
    split at h
    · simp only [Bool.and_eq_true] at h
      refine PE.imp (pe_op op_cat (a.ok X W T _ h.1 g q.1) (b.ok X W T _ h.2 g q.2)) fun σ H Q ⟨env, S, F, ads, Qd, Xd, er, sm, hw, kv, kx⟩ => ?_
      refine ⟨env, S, F, ads, _, Xd, er, sm, hw, fun F1 ads1 S1 H1 d v x1 s1 r1 h1 => ?_, kx⟩
      refine ⟨env, S1, F1, ads1, _, Xd, er.ext x1, s1, h1, fun F2 ads2 S2 H2 d2 v2 x2 s2 r2 h2 => ?_, kx.ext x1⟩
      obtain ⟨xs, ys, e1, e2, hz, hq⟩ := h2
      obtain ⟨a1, us, rfl, ea, ra⟩ := lstX_at s2 (r1.ext x2) e1
      obtain ⟨a2, ws, rfl, eb, rb⟩ := lstX_at s2 r2 e2
      exact ⟨a1, a2, us, ws, rfl, rfl, ea, eb, by rw [← ra.length, ← rb.length]; exact hz, fun p hp => kv _ _ _ _ _ _ _ (x1.trans x2) s2 (ra.append rb) hp hq⟩
    · cases h
/-! [a] * n -/
def wRep (a b : WE) : WL := fun env S Q X => a env S (fun x S1 => b env S1 (fun y S2 => ∃ xs k, lstX S2 x = some xs ∧ y = .int k ∧ -(2 ^ 63) ≤ k ∧ k < 2 ^ 63 ∧ xs.length * k.toNat ≤ sizeLine ∧ Q (List.replicate k.toNat xs).flatten S2) X) X
def DL.rep (a b : DE) : DL where
  mt c e := match e with
    | .BinOp x .Mult y _ => a.mt c x && b.mt c y
    | _ => false
  wp := wRep a.wp b.wp
  rq Z := a.rq Z ∧ b.rq Z
  ok X W T e h g q := by
    split at h
    · simp only [Bool.and_eq_true] at h
      refine PE.imp (pe_op op_rep (a.ok X W T _ h.1 g q.1) (b.ok X W T _ h.2 g q.2)) fun σ H Q ⟨env, S, F, ads, Qd, Xd, er, sm, hw, kv, kx⟩ => ?_
      refine ⟨env, S, F, ads, _, Xd, er, sm, hw, fun F1 ads1 S1 H1 d v x1 s1 r1 h1 => ?_, kx⟩
      refine ⟨env, S1, F1, ads1, _, Xd, er.ext x1, s1, h1, fun F2 ads2 S2 H2 d2 v2 x2 s2 r2 h2 => ?_, kx.ext x1⟩
      obtain ⟨xs, k, e1, rfl, hk1, hk2, hz, hq⟩ := h2
      cases r2
      obtain ⟨a1, us, rfl, ea, ra⟩ := lstX_at s2 (r1.ext x2) e1
      exact ⟨a1, k, us, rfl, rfl, ea, hk1, hk2, by rw [← ra.length]; exact hz, fun p hp => kv _ _ _ _ _ _ _ (x1.trans x2) s2 (ra.rep _) hp hq⟩
    · cases h
/-! ### isinstance(x, T), T a built-in class -/
def tyD (S : Sto) : D → Option String
  | .non => some "NoneType"
  | .bl _ => some "bool"
  | .int _ => some "int"
  | .str _ => some "str"
  | .flt _ => some "float"
  | .tup _ => some "tuple"
  | .lst _ => some "list"
  | .scr _ => some "list"
  | .han i => match S[i]? with
    | some (.lst _) => some "list"
    | _ => none
  | .cst _ => none
  | .exc _ => none
theorem tyD_of {K : Fg} {F : Hp} {ads : List Addr} {S : Sto} {H : Hp} {d : D} {v : V} {T : String} (sm : Sim K F ads S H) (r : Rp K F ads d v) (h : tyD S d = some T) : TyX K.K H v (.type T) := by
  cases r with
  | non => cases h; exact .base .non
  | bl b => cases h; exact .base (.bl b)
  | int b => cases h; exact .base (.int b)
  | str b => cases h; exact .base (.str b)
  | flt b => cases h; exact .base (.flt b)
  | tup hs _ =>
    cases h
    rcases Sub.tup sm.sub hs with (z | ⟨o, z⟩) | ⟨o, its, n, z, c, _⟩
    · exact .base (.tup z)
    · exact .fTuple z
    · exact .kTuple z c
  | lst hs _ => cases h; exact .base (.lst (sm.sub _ _ hs))
  | scr hs _ =>
    cases h
    rcases sm.sub.seq hs with (z | ⟨o, z⟩) | ⟨o, its, n, z, c, _⟩
    · exact .base (.lst z)
    · exact .base (.frz z)
    · exact .kList z c
  | han ha =>
    unfold tyD at h
    simp only at h
    split at h
    · rename_i hS
      cases h
      obtain ⟨a', ha', nF, vs, hH, rs⟩ := sm.at hS
      rw [ha] at ha'; cases ha'
      exact .base (.lst hH)
    · cases h
  | cst v => cases h
  | exc _ _ => cases h
def wIsi (T : String) (a : WE) : WE := fun env S Q X => a env S (fun d S1 => ∃ t b, tyD S1 d = some t ∧ kitB t T = some b ∧ Q (.bl b) S1) X
def DE.isi (x : Str) (Ty : String) (hv : bootBuiltins x = some (.type Ty)) (hn : x ≠ "__name__") (hd : (x == ("__debug__" : Str)) = false) (a : DE) : DE where
  mt c e := match e with
    | .Call (.Name f _) [y, .Name z _] [] _ => f == "isinstance" && glB c "isinstance" && noStar y && a.mt c y && z == x && glB c x
    | _ => false
  wp := wIsi Ty a.wp
  rq Z := Z.mg "isinstance" = none ∧ Z.mg x = none ∧ a.rq Z
  ok X W T e h g q := by
    split at h
    · simp only [Bool.and_eq_true, beq_iff_eq] at h
      obtain ⟨⟨⟨⟨⟨rfl, h1⟩, h2⟩, h3⟩, rfl⟩, h5⟩ := h
      refine PE.imp (pe_callB call_isi (gl_of h1) q.1 (by decide +kernel) (pa_cons (a.ok X W T _ h3 g q.2.2) (pa_cons (pe_bltn (v := .ty Ty) (gl_of h5) q.2.1 hv rfl hn hd) pa_nil) (starEach_cons h2)) (by decide) (by decide) (starEach_cons h2) rfl) fun σ H Q ⟨env, S, F, ads, Qd, Xd, er, sm, hw, kv, kx⟩ => ?_
      refine ⟨env, S, F, ads, _, Xd, er, sm, hw, fun F1 ads1 S1 H1 d v x1 s1 r1 hh => ?_, kx⟩
      obtain ⟨t, b, ht, hb, hq⟩ := hh
      exact ⟨v, .ty Ty, .type t, .type Ty, b, rfl, .ty Ty, tyD_of s1 r1 ht, kit_ty hb, kv _ _ _ _ _ _ x1 s1 (.bl _) hq⟩
    · cases h
def DE.isTuple : DE → DE := DE.isi "tuple" "tuple" (by decide +kernel) (by decide) (by decide)
def DE.isInt : DE → DE := DE.isi "int" "int" (by decide +kernel) (by decide) (by decide)
def DE.isBool : DE → DE := DE.isi "bool" "bool" (by decide +kernel) (by decide) (by decide)
/-! ### methods of built-in classes -/
def noCall : Expr → Bool
  | .Call (.Name _ _) [] [] _ => false
  | _ => true
theorem noCall_base {o : Expr} {f : Str} {env : PySem.Env} (h : noCall o = true) : attributeBase o f env (eval o env) = eval o env := by
  unfold attributeBase
  split
  · simp [noCall] at h
  · rfl
def met1B (name : Str) (o : DE) (a : DE) (c : Sc) : Expr → Bool
  | .Call (.Attribute x n apos) [e] [] cpos => n == name && noCall x && o.mt c x && (apos.endLine == cpos.line) && noStar e && a.mt c e
  | _ => false
/-- the receiver's class -/
def recD (S : Sto) (T : String) : D → Bool
  | .str _ => T == "str"
  | .lst _ => T == "list"
  | .han i => match S[i]? with
    | some (.lst _) => T == "list"
    | _ => false
  | _ => false
theorem rec_ty {K : Fg} {F : Hp} {ads : List Addr} {S : Sto} {H : Hp} {d : D} {v : V} {T : String} (sm : Sim K F ads S H) (r : Rp K F ads d v) (h : recD S T d = true) : tyV K.K T v H := by
  cases r with
  | str b => simp [recD] at h; exact h
  | lst hs _ => simp [recD] at h; exact .inl ⟨h, _, SqL.of (sm.sub _ _ hs)⟩
  | han ha =>
    unfold recD at h
    simp only at h
    split at h
    · rename_i hS
      obtain ⟨a', ha', nF, vs, hH, rs⟩ := sm.at hS
      rw [ha] at ha'; cases ha'
      exact .inl ⟨by simpa using h, _, SqL.of hH⟩
    · cases h
  | _ => simp [recD] at h
def OkM (K : Fg) (op : D → List D → Sto → QD → Prop) (r : V → List V → Hp → VK → Prop) : Prop := ∀ {F ads S H x xs v vs Qd Q}, Sim K F ads S H → Rp K F ads x v → Rps K F ads xs vs → op x xs S Qd → KV K F ads H Qd Q → r v vs H Q
def wM1 (T : String) (op : D → List D → Sto → QD → Prop) (o a : WE) : WE := fun env S Q X => o env S (fun x S1 => recD S1 T x = true ∧ a env S1 (fun y S2 => op x [y] S2 Q) X) X
def mkM1 (Ty : String) (name : Str) (id : String) (pa : PlainAttrs Ty) (slot : Slot Ty name id) (hty : typeOf (.builtin id) = pure (.type "method_descriptor")) (op : D → List D → Sto → QD → Prop)
    (pf : ∀ (X : Cx) (W : WX) (T : List (Addr × Str)), Good X W → ∃ r, MtR X id r ∧ OkM (kt X T) op r) (o a : DE) : DE where
  mt c e := met1B name o a c e
  wp := wM1 Ty op o.wp a.wp
  rq Z := o.rq Z ∧ a.rq Z
  ok X W T e h g q := by
    unfold met1B at h
    split at h
    · simp only [Bool.and_eq_true, beq_iff_eq] at h
      obtain ⟨⟨⟨⟨⟨rfl, h1⟩, h2⟩, h3⟩, h4⟩, h5⟩ := h
      obtain ⟨r, hr, hk⟩ := pf X W T g
      have hs : ∀ e, noStar e = true → starEach [e] X.env = [(false, eval e X.env)] := fun e he => starEach_cons he
      refine PE.imp (pe_bm pa slot hty hr (o.ok X W T _ h2 g q.1) (pa_cons (a.ok X W T _ h5 g q.2) pa_nil (starEach_cons h4)) (noCall_base h1) (by rw [hs _ h4]; rfl) (by simpa using h3) (starEach_cons h4) rfl) fun σ H Q ⟨env, S, F, ads, Qd, Xd, er, sm, hw, kv, kx⟩ => ?_
      refine ⟨env, S, F, ads, _, Xd, er, sm, hw, fun F1 ads1 S1 H1 d v x1 s1 r1 hh => ?_, kx⟩
      refine ⟨rec_ty s1 r1 hh.1, env, S1, F1, ads1, _, Xd, er.ext x1, s1, hh.2, fun F2 ads2 S2 H2 d2 v2 x2 s2 r2 h2 => ?_, kx.ext x1⟩
      exact hk s2 (r1.ext x2) (.cons r2 .nil) h2 (kv.ext (x1.trans x2))
    · cases h
/-- .. of an object of the store -/
def oAppend : D → List D → Sto → QD → Prop
  | .han i, [y], S, Q => ∃ ds, S[i]? = some (.lst ds) ∧ ds.length < sizeLine ∧ Q .non (S.set i (.lst (ds ++ [y])))
  | _, _, _, _ => False
theorem ok_append {K : Fg} : OkM K oAppend rAppend := by
  intro F ads S H x xs v vs Qd Q sm rx rxs h kv
  unfold oAppend at h
  split at h
  · obtain ⟨ds, hS, hz, hq⟩ := h
    cases rx with
    | han ha =>
      cases rxs with
      | cons r t =>
        cases t
        obtain ⟨a', ha', nF, us, hH, rs⟩ := sm.at hS
        rw [ha] at ha'; cases ha'
        refine ⟨_, us, _, rfl, rfl, hH, by rw [← rs.length]; exact hz, ?_⟩
        obtain ⟨s2, x2⟩ := sm.put ha nF (.lst (us ++ [_])) (o := .lst (ds ++ [_])) ⟨nF, _, upd_same, rs.append (.cons r .nil)⟩
        exact kv _ _ _ _ _ _ x2 s2 .non hq
  · exact h.elim
def DE.append : DE → DE → DE := mkM1 "list" "append" "list.append" PySem.F.plainAttrs_list PySem.F.slot_list_append PySem.F.type_list_append oAppend fun X W T g => ⟨_, mt_append, ok_append⟩
/-! #### DL5 -/
/-! The D layer, part 5: what is walked, targets, comprehensions. -/
/-! ### what is walked -/
abbrev Src := List (Nat × List D)
abbrev QI := List D → Src → Sto → Prop
abbrev WI := Env → Sto → QI → XD → Prop
def srcOk : Src → Sto → Prop
  | [], _ => True
  | (h, ds) :: r, S => S[h]? = some (.lst ds) ∧ srcOk r S
theorem srcOk_app : ∀ {a b : Src} {S : Sto}, srcOk (a ++ b) S → srcOk a S ∧ srcOk b S
  | [], _, _, h => ⟨trivial, h⟩
  | (_, _) :: r, _, _, h => ⟨⟨h.1, (srcOk_app (a := r) h.2).1⟩, (srcOk_app (a := r) h.2).2⟩
def ItOk (K : Fg) (F : Hp) (ads : List Addr) (ds : List D) (src : Src) (J : It) : Prop :=
  ∀ F2 ads2 S2 H2, Same F F2 → (∀ (i : Nat) a, ads[i]? = some a → ads2[i]? = some a) → Sim K F2 ads2 S2 H2 → srcOk src S2 →
    (∀ (i : Nat) d, ds[i]? = some d → J.go i H2 ∧ ∀ x H3, J.yld i H2 x H3 → ∃ F3, Ext F2 ads2 H2 F3 ads2 H3 ∧ Sim K F3 ads2 S2 H3 ∧ Rp K F3 ads2 d x) ∧ ∀ i, ds.length ≤ i → J.stop i H2
def tI (K : Fg) (mg : Str → Option Value) (W : WX) (w : WI) : TI := fun σ H R => ∃ env S F ads Qd Xd, EnvR K F ads env σ ∧ Sim K F ads S H ∧ w env S Qd Xd ∧
  (∀ F' ads' S' H' ds src J, Ext F ads H F' ads' H' → Sim K F' ads' S' H' → ItOk K F' ads' ds src J → Qd ds src S' → R J H') ∧ KX K mg W F ads H σ Xd
structure DI where
  mt : Sc → Expr → Expr → Bool
  wp : WI
  rq : Cy → Prop
  ok : ∀ (X : Cx) (W : WX) (T : List (Addr × Str)) (tg e : Expr), mt (scOf X) tg e = true → Good X W → rq (cyOf X T) → PI X tg e (tI (kt X T) X.mg W wp)
theorem PI.imp {X : Cx} {tg e : Expr} {t t' : TI} (h : PI X tg e t) (q : ∀ σ H Q, t' σ H Q → t σ H Q) : PI X tg e t' := ⟨fun pins s σ H Q I z => h.run pins s σ H Q I (q _ _ _ z)⟩
/-- lists and tuples -/
def iSeq (K : PySem.W.Frag) (tl : TE) : TI := fun σ H R => tl σ H fun x H1 => ∃ a, x = .ref a ∧ (((∃ xs, SqL K H1 a xs) ∧ R (Itl K a) H1) ∨ ((∃ xs, SqT K H1 a xs) ∧ R (Itt K a) H1))
theorem pi_seq {X : Cx} {tg l : Expr} {tl : TE} (hl : PE X l tl) : PI X tg l (iSeq X.K tl) := by
  refine ⟨fun pins s σ H R I h => ?_⟩
  refine thn (hl.run pins s σ H _ I h) fun v s1 ⟨x, H1, I1, r1, q1⟩ => ?_
  obtain ⟨a, e, q⟩ := q1
  subst e
  cases r1
  rcases q with ⟨⟨xs, hq⟩, q⟩ | ⟨⟨xs, hq⟩, q⟩
  · obtain ⟨its, rv, p, hz⟩ := I1.list hq
    refine wpAny_pyIter_list p.isList ?_
    refine ⟨s1.heap.objs.size, [s1.heap.objs.size], _, _, H1, rfl, I1.kept (t' := s1.toks) fun b o e => Heap.get?_push_of_some _ e, turn_list a _, ⟨_, Heap.get?_push_size _ rfl, rfl, rfl⟩, fun b hb => ?_, q⟩
    have e : b = s1.heap.objs.size := by simpa using hb
    subst e
    exact I1.fpOk (Nat.le_refl _) (I1.hok.fresh (Nat.le_refl _))
  · obtain ⟨its, rv, p, hz⟩ := I1.tuple hq
    refine wpAny_pyIter_tuple (show s1.heap.IsTuple a its.toArray from p) ?_
    refine ⟨s1.heap.objs.size, [s1.heap.objs.size], _, _, H1, rfl, I1.kept (t' := s1.toks) fun b o e => Heap.get?_push_of_some _ e, turn_tuple a _, ⟨_, Heap.get?_push_size _ rfl, rfl, rfl⟩, fun b hb => ?_, q⟩
    have e : b = s1.heap.objs.size := by simpa using hb
    subst e
    exact I1.fpOk (Nat.le_refl _) (I1.hok.fresh (Nat.le_refl _))
def srcOf : D → List D → Src
  | .han i, ds => [(i, ds)]
  | _, _ => []
theorem it_key {K : Fg} {F : Hp} {ads : List Addr} {ds : List D} {src : Src} {a : Addr}
    (hk : ∀ F2 ads2 S2 H2, Same F F2 → (∀ (i : Nat) a, ads[i]? = some a → ads2[i]? = some a) → Sim K F2 ads2 S2 H2 → srcOk src S2 → ∃ us, SqL K.K H2 a us ∧ Rps K F2 ads2 ds us) : ItOk K F ads ds src (Itl K.K a) := fun F2 ads2 S2 H2 f2 p2 s2 so => by
  obtain ⟨us, hu, ru⟩ := hk F2 ads2 S2 H2 f2 p2 s2 so
  refine ⟨fun i d hd => ?_, fun i hi => ⟨us, hu, by rw [← ru.length]; exact hi⟩⟩
  obtain ⟨x, hx, rx⟩ := ru.get hd
  refine ⟨⟨us, x, hu, hx⟩, fun y H3 hy => ?_⟩
  obtain ⟨rfl, hy⟩ := hy
  have ey : us[i]? = some y := hy us hu
  rw [hx] at ey; cases ey
  exact ⟨F2, Ext.refl, s2, rx⟩
theorem it_keyT {K : Fg} {F : Hp} {ads : List Addr} {ds : List D} {a : Addr} {vs : List V} (h : SqT K.K F a vs) (r : Rps K F ads ds vs) : ItOk K F ads ds [] (Itt K.K a) := fun F2 ads2 S2 H2 f2 p2 s2 so => by
  have hu : SqT K.K H2 a vs := Sub.tup s2.sub (Same.tup f2 h)
  have ru := r.mono f2 p2
  refine ⟨fun i d hd => ?_, fun i hi => ⟨vs, hu, by rw [← ru.length]; exact hi⟩⟩
  obtain ⟨x, hx, rx⟩ := ru.get hd
  refine ⟨⟨vs, x, hu, hx⟩, fun y H3 hy => ?_⟩
  obtain ⟨rfl, hy⟩ := hy
  have ey : vs[i]? = some y := hy vs hu
  rw [hx] at ey; cases ey
  exact ⟨F2, Ext.refl, s2, rx⟩
/-- a list's standing in every later state -/
theorem lst_later {K : Fg} {F : Hp} {ads : List Addr} {S : Sto} {d : D} {v : V} {ds : List D} (r : Rp K F ads d v) (h : lstOf S d = some ds) : ∃ a, v = .ref a ∧
    ∀ F2 ads2 S2 H2, Same F F2 → (∀ (i : Nat) a, ads[i]? = some a → ads2[i]? = some a) → Sim K F2 ads2 S2 H2 → srcOk (srcOf d ds) S2 → ∃ us, SqL K.K H2 a us ∧ Rps K F2 ads2 ds us := by
  cases r with
  | lst hF rs => cases h; exact ⟨_, rfl, fun F2 ads2 S2 H2 f2 p2 s2 so => ⟨_, SqL.of (s2.sub _ _ (f2 _ _ hF)), rs.mono f2 p2⟩⟩
  | scr hF rs => cases h; exact ⟨_, rfl, fun F2 ads2 S2 H2 f2 p2 s2 so => ⟨_, s2.sub.seq (f2.seq hF), rs.mono f2 p2⟩⟩
  | han ha =>
    refine ⟨_, rfl, fun F2 ads2 S2 H2 f2 p2 s2 so => ?_⟩
    obtain ⟨a', ha', nF, us, hH, rs⟩ := s2.at (show S2[_]? = some (.lst ds) from so.1)
    rw [p2 _ _ ha] at ha'; cases ha'
    exact ⟨us, SqL.of hH, rs⟩
  | _ => cases h
theorem src_now {S : Sto} {d : D} {ds : List D} (h : lstOf S d = some ds) : srcOk (srcOf d ds) S := by
  cases d with
  | han i =>
    unfold lstOf at h
    simp only at h
    split at h
    · rename_i q; cases h; exact ⟨q, trivial⟩
    · cases h
  | _ => trivial
def wIseq (a : WE) : WI := fun env S Q X => a env S (fun d S1 => ∃ ds, seqOf S1 d = some ds ∧ Q ds (srcOf d ds) S1) X
def DI.seq (a : DE) : DI where
  mt c _ e := a.mt c e && noSet e
  wp := wIseq a.wp
  rq := a.rq
  ok X W T tg e h g q := by
    simp only [Bool.and_eq_true] at h
    refine PI.imp (pi_seq (a.ok X W T e h.1 g q)) fun σ H R ⟨env, S, F, ads, Qd, Xd, er, sm, hw, kv, kx⟩ => ?_
    refine ⟨env, S, F, ads, _, Xd, er, sm, hw, fun F1 ads1 S1 H1 d v x1 s1 r1 h1 => ?_, kx⟩
    obtain ⟨ds, hs, hq⟩ := h1
    unfold seqOf at hs
    split at hs
    · rename_i ht
      cases hs
      rw [tupOf_eq ht] at r1 hq
      cases r1 with
      | tup hF rs => exact ⟨_, rfl, .inr ⟨⟨_, Sub.tup s1.sub hF⟩, kv _ _ _ _ _ _ _ x1 s1 (it_keyT hF rs) hq⟩⟩
    · obtain ⟨a, e, hk⟩ := lst_later r1 hs
      obtain ⟨a', vs, e', hq', rs⟩ := lst_sq s1 r1 hs
      subst e; cases e'
      exact ⟨a, rfl, .inl ⟨⟨vs, hq'⟩, kv _ _ _ _ _ _ _ x1 s1 (it_key hk) hq⟩⟩
/-- range -/
def rangeD (lo : Int) (n : Nat) : List D := (List.range n).map fun i => .int (lo + (i : Nat))
theorem range_get {lo : Int} {n i : Nat} {d : D} (h : (rangeD lo n)[i]? = some d) : i < n ∧ d = .int (lo + (i : Nat)) := by
  unfold rangeD at h
  rw [List.getElem?_map] at h
  by_cases hi : i < n
  · rw [List.getElem?_range hi] at h
    exact ⟨hi, (Option.some.inj h).symm⟩
  · rw [List.getElem?_eq_none (by simpa using hi)] at h; cases h
theorem range_len {lo : Int} {n : Nat} : (rangeD lo n).length = n := by unfold rangeD; simp
theorem it_range {K : Fg} {F : Hp} {ads : List Addr} {lo : Int} {n : Nat} : ItOk K F ads (rangeD lo n) [] (Itr lo n) := fun F2 ads2 S2 H2 f2 p2 s2 so => by
  refine ⟨fun i d hd => ?_, fun i hi => ?_⟩
  · obtain ⟨hi, rfl⟩ := range_get hd
    refine ⟨hi, fun x H3 hy => ?_⟩
    obtain ⟨rfl, rfl⟩ := hy
    exact ⟨F2, Ext.refl, s2, .int _⟩
  · rw [range_len] at hi; exact hi
def wR1 (a : WE) : WI := fun env S Q X => a env S (fun d S1 => ∃ j, d = .int j ∧ -(2 ^ 62) ≤ j ∧ j < 2 ^ 62 ∧ Q (rangeD 0 j.toNat) [] S1) X
def wR2 (a b : WE) : WI := fun env S Q X => a env S (fun d S1 => b env S1 (fun d2 S2 => ∃ i j, d = .int i ∧ d2 = .int j ∧ (-(2 ^ 62) ≤ i ∧ i < 2 ^ 62 ∧ -(2 ^ 62) ≤ j ∧ j < 2 ^ 62) ∧ Q (rangeD i (j - i).toNat) [] S2) X) X
def DI.range1 (a : DE) : DI where
  mt c _ e := match e with
    | .Call (.Name x _) [y] [] _ => x == "range" && glB c "range" && noStar y && a.mt c y
    | _ => false
  wp := wR1 a.wp
  rq Z := Z.mg "range" = none ∧ a.rq Z
  ok X W T tg e h g q := by
    split at h
    · simp only [Bool.and_eq_true, beq_iff_eq] at h
      obtain ⟨⟨⟨rfl, h1⟩, h2⟩, h3⟩ := h
      refine PI.imp (pi_range1 (gl_of h1) q.1 (pa_cons (a.ok X W T _ h3 g q.2) pa_nil (starEach_cons h2)) (starEach_cons h2)) fun σ H R ⟨env, S, F, ads, Qd, Xd, er, sm, hw, kv, kx⟩ => ?_
      refine ⟨env, S, F, ads, _, Xd, er, sm, hw, fun F1 ads1 S1 H1 d v x1 s1 r1 h1 => ?_, kx⟩
      obtain ⟨j, rfl, b1, b2, hq⟩ := h1
      cases r1
      exact ⟨j, rfl, b1, b2, kv _ _ _ _ _ _ _ x1 s1 it_range hq⟩
    · cases h
def DI.range2 (a b : DE) : DI where
  mt c _ e := match e with
    | .Call (.Name x _) [y, z] [] _ => x == "range" && glB c "range" && noStar y && a.mt c y && noStar z && b.mt c z
    | _ => false
  wp := wR2 a.wp b.wp
  rq Z := Z.mg "range" = none ∧ a.rq Z ∧ b.rq Z
  ok X W T tg e h g q := by
    split at h
    · simp only [Bool.and_eq_true, beq_iff_eq] at h
      obtain ⟨⟨⟨⟨⟨rfl, h1⟩, h2⟩, h3⟩, h4⟩, h5⟩ := h
      rename_i y z _
      have e2 : starEach [z] X.env = [(false, eval z X.env)] := starEach_cons h4
      refine PI.imp (pi_range2 (gl_of h1) q.1 (pa_cons (a.ok X W T _ h3 g q.2.1) (pa_cons (b.ok X W T _ h5 g q.2.2) pa_nil (starEach_cons h4)) (starEach_cons h2)) (by rw [starEach_cons h2, e2]) e2) fun σ H R ⟨env, S, F, ads, Qd, Xd, er, sm, hw, kv, kx⟩ => ?_
      refine ⟨env, S, F, ads, _, Xd, er, sm, hw, fun F1 ads1 S1 H1 d v x1 s1 r1 h1 => ?_, kx⟩
      refine ⟨env, S1, F1, ads1, _, Xd, er.ext x1, s1, h1, fun F2 ads2 S2 H2 d2 v2 x2 s2 r2 h2 => ?_, kx.ext x1⟩
      obtain ⟨i, j, rfl, rfl, hb, hq⟩ := h2
      cases r1; cases r2
      exact ⟨i, j, rfl, hb, kv _ _ _ _ _ _ _ (x1.trans x2) s2 it_range hq⟩
    · cases h
/-- zip of two lists or of two tuples -/
def zipD (xs ys : List D) : List D := (xs.zip ys).map fun p => .tup [p.1, p.2]
theorem zip_get {xs ys : List D} {i : Nat} {d : D} (h : (zipD xs ys)[i]? = some d) : ∃ x y, xs[i]? = some x ∧ ys[i]? = some y ∧ d = .tup [x, y] := by
  unfold zipD at h
  rw [List.getElem?_map] at h
  cases e : (xs.zip ys)[i]? with
  | none => rw [e] at h; cases h
  | some p =>
    rw [e] at h
    obtain ⟨e1, e2⟩ := List.getElem?_zip_eq_some.mp e
    exact ⟨p.1, p.2, e1, e2, (Option.some.inj h).symm⟩
theorem zip_len {xs ys : List D} {i : Nat} (h : (zipD xs ys).length ≤ i) : xs.length ≤ i ∨ ys.length ≤ i := by
  unfold zipD at h
  simp only [List.length_map, List.length_zip] at h
  omega
theorem new_pair {K : Fg} {F : Hp} {ads : List Addr} {S : Sto} {H : Hp} {T : Addr} {x y : V} {a b : D} (sm : Sim K F ads S H) (hT : H T = none) (ra : Rp K F ads a x) (rb : Rp K F ads b y) :
    ∃ F3, Ext F ads H F3 ads (upd H T (.tup [x, y])) ∧ Sim K F3 ads S (upd H T (.tup [x, y])) ∧ Rp K F3 ads (.tup [a, b]) (.ref T) := by
  obtain ⟨s2, x2⟩ := sm.frz hT (.tup [x, y])
  exact ⟨_, x2, s2, .tup (SqT.of upd_same) (.cons (ra.ext x2) (.cons (rb.ext x2) .nil))⟩
def wZip (a b : WE) : WI := fun env S Q X => a env S (fun d S1 => b env S1 (fun d2 S2 => ∃ xs ys, ((tupOf d = some xs ∧ tupOf d2 = some ys) ∨ (lstOf S2 d = some xs ∧ lstOf S2 d2 = some ys)) ∧ Q (zipD xs ys) (srcOf d xs ++ srcOf d2 ys) S2) X) X
def isTup : Expr → Bool
  | .Tuple _ _ _ => true
  | _ => false
def DI.zip (a b : DE) : DI where
  mt c tg e := isTup tg && match e with
    | .Call (.Name x _) [y, z] [] _ => x == "zip" && glB c "zip" && noStar y && a.mt c y && noStar z && b.mt c z
    | _ => false
  wp := wZip a.wp b.wp
  rq Z := Z.mg "zip" = none ∧ a.rq Z ∧ b.rq Z
  ok X W T tg e h g q := by
    simp only [Bool.and_eq_true] at h
    obtain ⟨ht, h⟩ := h
    cases tg with
    | Tuple elts kk tpos =>
      split at h
      · simp only [Bool.and_eq_true, beq_iff_eq] at h
        obtain ⟨⟨⟨⟨⟨rfl, h1⟩, h2⟩, h3⟩, h4⟩, h5⟩ := h
        rename_i y z _
        have e2 : starEach [z] X.env = [(false, eval z X.env)] := starEach_cons h4
        refine PI.imp (RZ.pi_zipA (gl_of h1) q.1 (pa_cons (a.ok X W T _ h3 g q.2.1) (pa_cons (b.ok X W T _ h5 g q.2.2) pa_nil (starEach_cons h4)) (starEach_cons h2)) (starEach_cons h2) (star_any (by rw [List.all_cons, h4]; rfl))) fun σ H R ⟨env, S, F, ads, Qd, Xd, er, sm, hw, kv, kx⟩ => ?_
        refine ⟨env, S, F, ads, _, Xd, er, sm, hw, fun F1 ads1 S1 H1 d v x1 s1 r1 h1 => ?_, kx⟩
        refine ⟨env, S1, F1, ads1, _, Xd, er.ext x1, s1, h1, fun F2 ads2 S2 H2 d2 v2 x2 s2 r2 h2 => ?_, kx.ext x1⟩
        obtain ⟨xs, ys, hs, hq⟩ := h2
        have r1 := r1.ext x2
        rcases hs with ⟨t1, t2⟩ | ⟨t1, t2⟩
        · rw [tupOf_eq t1] at r1 hq
          rw [tupOf_eq t2] at r2 hq
          cases r1 with
          | tup f1 g1 =>
            cases r2 with
            | tup f2 g2 =>
              refine ⟨_, _, _, _, rfl, .inr ⟨Sub.tup s2.sub f1, Sub.tup s2.sub f2, kv _ _ _ _ _ _ _ (x1.trans x2) s2 ?_ hq⟩⟩
              intro F3 ads3 S3 H3 f3 p3 s3 so
              have q1 := Sub.tup s3.sub (Same.tup f3 f1)
              have q2 := Sub.tup s3.sub (Same.tup f3 f2)
              have g1 := g1.mono f3 p3
              have g2 := g2.mono f3 p3
              refine ⟨fun i d hd => ?_, fun i hi => ⟨_, _, q1, q2, by rw [← g1.length, ← g2.length]; exact zip_len hi⟩⟩
              obtain ⟨x, y, ex, ey, rfl⟩ := zip_get hd
              obtain ⟨u, hu, ru⟩ := g1.get ex
              obtain ⟨w, hw, rw⟩ := g2.get ey
              refine ⟨⟨_, _, u, w, q1, q2, hu, hw⟩, fun z H4 hy => ?_⟩
              obtain ⟨T, u', w', rfl, hT, rfl, k1, k2⟩ := hy
              have := k1 _ q1; rw [hu] at this; cases this
              have := k2 _ q2; rw [hw] at this; cases this
              exact new_pair s3 hT ru rw
        · obtain ⟨a1, rfl, l1⟩ := lst_later r1 t1
          obtain ⟨a2, rfl, l2⟩ := lst_later r2 t2
          obtain ⟨us, hu, gu⟩ := l1 _ _ _ _ (Same.refl _) (fun _ _ h => h) s2 (src_now t1)
          obtain ⟨ws, hw, gw⟩ := l2 _ _ _ _ (Same.refl _) (fun _ _ h => h) s2 (src_now t2)
          refine ⟨a1, a2, us, ws, rfl, .inl ⟨hu, hw, kv _ _ _ _ _ _ _ (x1.trans x2) s2 ?_ hq⟩⟩
          intro F3 ads3 S3 H3 f3 p3 s3 so
          obtain ⟨us, q1, g1⟩ := l1 _ _ _ _ f3 p3 s3 (srcOk_app so).1
          obtain ⟨ws, q2, g2⟩ := l2 _ _ _ _ f3 p3 s3 (srcOk_app so).2
          refine ⟨fun i d hd => ?_, fun i hi => ⟨_, _, q1, q2, by rw [← g1.length, ← g2.length]; exact zip_len hi⟩⟩
          obtain ⟨x, y, ex, ey, rfl⟩ := zip_get hd
          obtain ⟨u, hu, ru⟩ := g1.get ex
          obtain ⟨w, hw, rw⟩ := g2.get ey
          refine ⟨⟨_, _, u, w, q1, q2, hu, hw⟩, fun z H4 hy => ?_⟩
          obtain ⟨T, u', w', rfl, hT, rfl, k1, k2⟩ := hy
          have := k1 _ q1; rw [hu] at this; cases this
          have := k2 _ q2; rw [hw] at this; cases this
          exact new_pair s3 hT ru rw
      · cases h
    | _ => cases ht
/-! ### targets: names, tuples of names -/
theorem wipe_set {σ : L2.St} {i : Nat} {x : Option V} : ∀ {vs : List Nat}, i ∈ vs → L2.wipe (σ.set i x) vs = L2.wipe σ vs
  | [], h => by cases h
  | v :: vs, h => by
    unfold L2.wipe
    by_cases e : i = v
    · subst e
      by_cases hm : i ∈ vs
      · rw [wipe_set hm]
      · have key : ∀ (us : List Nat) (τ : L2.St), i ∉ us → L2.wipe (τ.set i x) us = (L2.wipe τ us).set i x := by
          intro us
          induction us with
          | nil => intro τ _; rfl
          | cons u us ih =>
            intro τ hn
            simp only [List.mem_cons, not_or] at hn
            show (L2.wipe (τ.set i x) us).set u none = ((L2.wipe τ us).set u none).set i x
            rw [ih τ hn.2, List.set_comm _ _ hn.1]
        rw [key vs σ hm, List.set_set]
    · have hm : i ∈ vs := by
        rcases List.mem_cons.mp h with q | q
        · exact absurd q e
        · exact q
      rw [wipe_set hm]
def tG (K : Fg) (sl : List Nat) (bd : D → Env → Sto → Option Env) : TG := fun v σ H Q => ∃ env S F ads d env', EnvR K F ads env σ ∧ Sim K F ads S H ∧ Rp K F ads d v ∧ bd d env S = some env' ∧
  ∀ σ', EnvR K F ads env' σ' → (∀ vs : List Nat, (∀ i ∈ sl, i ∈ vs) → L2.wipe σ' vs = L2.wipe σ vs) → Q σ' H
structure DG where
  sl : List Nat
  mt : Sc → Expr → Bool
  bd : D → Env → Sto → Option Env
  ok : ∀ (X : Cx) (T : List (Addr × Str)) (e : Expr), mt (scOf X) e = true → X.calm = true → X.N.Nodup → PG X e (tG (kt X T) sl bd)
theorem PG.imp {X : Cx} {e : Expr} {t t' : TG} (h : PG X e t) (q : ∀ v σ H Q, t' v σ H Q → t v σ H Q) : PG X e t' := ⟨fun pins s σ H v u Q I r z => h.run pins s σ H v u Q I r (q _ _ _ _ z)⟩
theorem PG.or {X : Cx} {e : Expr} {t t' : TG} (h : PG X e t) (h' : PG X e t') : PG X e (fun v σ H Q => t v σ H Q ∨ t' v σ H Q) := ⟨fun pins s σ H v u Q I r z => z.elim (h.run pins s σ H v u Q I r) (h'.run pins s σ H v u Q I r)⟩
def locB (c : Sc) (i : Nat) (x : Str) : Bool := c.N[i]? == some x && ((c.sc.names.lookup x == some .local) || (c.sc.names.lookup x == some .cell && c.fn x))
theorem loc_of {X : Cx} {i : Nat} {x : Str} (h : locB (scOf X) i x = true) : X.N[i]? = some x ∧ Loc X.env.scope x ∧ (X.fn x = true ∨ X.env.scope.names.lookup x = some .local) := by
  simp only [locB, Bool.and_eq_true, Bool.or_eq_true, beq_iff_eq] at h
  obtain ⟨h1, h2 | ⟨h2, h3⟩⟩ := h
  · exact ⟨h1, .inl h2, .inr h2⟩
  · exact ⟨h1, .inr h2, .inl h3⟩
def DG.nm (i : Nat) : DG where
  sl := [i]
  mt c e := match e with
    | .Name x _ => locB c i x
    | _ => false
  bd d env _ := some (env.set i (some d))
  ok X T e h hc hN := by
    split at h
    · obtain ⟨h1, h2, h3⟩ := loc_of h
      exact PG.imp (pg_name hN h1 h2 h3) fun v σ H Q ⟨env, S, F, ads, d, env', er, sm, r, hb, k⟩ => by
        cases hb
        exact k _ (er.set r) fun vs hv => wipe_set (hv i (by simp))
    · cases h
def tGs (K : Fg) (sl : List Nat) (bd : List D → Env → Option Env) : TGs := fun vs σ H Q => ∃ env F ads ds env', EnvR K F ads env σ ∧ Rps K F ads ds vs ∧ bd ds env = some env' ∧
  ∀ σ', EnvR K F ads env' σ' → (∀ vs : List Nat, (∀ i ∈ sl, i ∈ vs) → L2.wipe σ' vs = L2.wipe σ vs) → Q σ' H
structure DGs where
  n : Nat
  sl : List Nat
  mt : Sc → List Expr → Bool
  bd : List D → Env → Option Env
  ok : ∀ (X : Cx) (T : List (Addr × Str)) (e : List Expr), mt (scOf X) e = true → X.N.Nodup → PGs X e (tGs (kt X T) sl bd) ∧ (assignEach e X.env).length = n ∧ (assignEach e X.env).findIdx? (·.1) = none
theorem PGs.imp {X : Cx} {e : List Expr} {t t' : TGs} (h : PGs X e t) (q : ∀ v σ H Q, t' v σ H Q → t v σ H Q) : PGs X e t' := ⟨fun pins s σ H v u Q I r z => h.run pins s σ H v u Q I r (q _ _ _ _ z)⟩
def DGs.nil : DGs where
  n := 0
  sl := []
  mt _ e := e.isEmpty
  bd ds env := match ds with
    | [] => some env
    | _ => none
  ok X T e h hN := by
    have e0 : e = [] := by simpa using h
    subst e0
    refine ⟨PGs.imp pgs_nil fun v σ H Q ⟨env, F, ads, ds, env', er, r, hb, k⟩ => ?_, rfl, rfl⟩
    simp only at hb
    split at hb
    · cases hb; cases r; exact ⟨rfl, k σ er fun _ _ => rfl⟩
    · cases hb
def DGs.cons (i : Nat) (r : DGs) : DGs where
  n := r.n + 1
  sl := i :: r.sl
  mt c e := match e with
    | .Name x _ :: es => locB c i x && r.mt c es
    | _ => false
  bd ds env := match ds with
    | d :: ds => r.bd ds (env.set i (some d))
    | _ => none
  ok X T e h hN := by
    split at h
    · simp only [Bool.and_eq_true] at h
      obtain ⟨h1, h2, h3⟩ := loc_of h.1
      obtain ⟨p, l, f⟩ := r.ok X T _ h.2 hN
      refine ⟨PGs.imp (pgs_cons (pg_name hN h1 h2 h3) p rfl) fun v σ H Q ⟨env, F, ads, ds, env', er, rs, hb, k⟩ => ?_, ?_, ?_⟩
      · simp only at hb
        split at hb
        · cases rs with
          | cons ra rt =>
            refine ⟨_, _, rfl, env.set i (some _), F, ads, _, env', er.set ra, rt, hb, fun σ' er' hw => k σ' er' fun vs hv => ?_⟩
            rw [hw vs fun j hj => hv j (List.mem_cons_of_mem _ hj)]
            exact wipe_set (hv i List.mem_cons_self)
        · cases hb
      · show (assignEach _ X.env).length + 1 = _
        rw [l]
      · show ((false, _) :: assignEach _ X.env).findIdx? (·.1) = none
        rw [List.findIdx?_cons]
        simp [f]
    · cases h
def DG.tp (r : DGs) : DG where
  sl := r.sl
  mt c e := match e with
    | .Tuple es _ _ => r.mt c es
    | _ => false
  bd d env S := match seqOf S d with
    | some ds => if ds.length = r.n then r.bd ds env else none
    | none => none
  ok X T e h hc hN := by
    split at h
    · obtain ⟨p, l, f⟩ := r.ok X T _ h hN
      refine PG.imp (PG.or (pg_tup hc p l f) (pg_lst hc p l f)) fun v σ H Q ⟨env, S, F, ads, d, env', er, sm, rd, hb, k⟩ => ?_
      cases hs : seqOf S d with
      | none => simp only [hs] at hb; cases hb
      | some ds =>
        simp only [hs] at hb
        split at hb
        · rename_i hl
          obtain ⟨a, vs, rfl, hq, rs⟩ := seq_sq sm rd hs
          have fin : tGs (kt X T) r.sl r.bd vs σ H Q := ⟨env, F, ads, ds, env', er, rs, hb, k⟩
          rcases hq with hq | hq
          · exact .inr ⟨a, vs, rfl, hq, by rw [← rs.length]; exact hl, fin⟩
          · exact .inl ⟨a, vs, rfl, hq, by rw [← rs.length]; exact hl, fin⟩
        · cases hb
    · cases h
/-! #### DL6 -/
/-! The D layer, part 6: comprehensions. -/
/-- a clause's tests: none or one -/
structure DF where
  mt : Sc → List Expr → Bool
  wp : WT
  rq : Cy → Prop
  ok : ∀ (X : Cx) (W : WX) (T : List (Addr × Str)) (e : List Expr), mt (scOf X) e = true → Good X W → rq (cyOf X T) → PTs X e (tT (kt X T) X.mg W wp)
theorem PTs.imp {X : Cx} {e : List Expr} {t t' : TT} (h : PTs X e t) (q : ∀ σ H Q, t' σ H Q → t σ H Q) : PTs X e t' := ⟨fun pins s σ H Q I z => h.run pins s σ H Q I (q _ _ _ z)⟩
def wYes : WT := fun _ S Q _ => Q true S
def DF.no : DF where
  mt _ e := e.isEmpty
  wp := wYes
  rq _ := True
  ok X W T e h g _ := by
    have e0 : e = [] := by simpa using h
    subst e0
    exact PTs.imp pts_nil fun σ H Q ⟨env, S, F, ads, Qd, Xd, er, sm, hw, kv, kx⟩ => kv _ _ _ _ _ Ext.refl sm hw
def DF.one (t : DT) : DF where
  mt c e := match e with
    | [x] => t.mt c x
    | _ => false
  wp := t.wp
  rq := t.rq
  ok X W T e h g q := by
    split at h
    · exact pts_one (t.ok X W T _ h g q)
    · cases h
def blkSc (c : Sc) (scope : Scope) : Sc := ⟨c.N, relS scope c.sc, fun x => scope.names.lookup x == some .cell⟩
theorem good_blk {X : Cx} {W : WX} (g : Good X W) (s : Shared) (H : Hp) (scope : Scope) (C : Addr) (cl : List (Str × Addr)) (fp : List Addr) : Good (X.blk s H scope (compEnvC scope cl C X.env) fp) (fun _ _ _ _ => False) :=
  ⟨g.calm, g.nd, takes0, PassesOwn.never, g.un, g.dp⟩
def noX : XD := fun _ _ => False
/-- the turns of a comprehension -/
def compGo (bd : D → Env → Sto → Option Env) (t : WT) (e : WE) (env : Env) (src : Src) : List D → Sto → List D → QL → Prop
  | [], S, acc, Q => srcOk src S ∧ Q acc S
  | d :: ds, S, acc, Q => srcOk src S ∧ ∃ env', bd d env S = some env' ∧ t env' S (fun b S1 => if b = true then e env' S1 (fun x S2 => compGo bd t e env src ds S2 (acc ++ [x]) Q) noX else compGo bd t e env src ds S1 acc Q) noX
def wComp (own : List Nat) (bd : D → Env → Sto → Option Env) (i : WI) (t : WT) (e : WE) : WL := fun env S Q X => i env S (fun ds src S1 => ds.length ≤ sizeLine ∧ compGo bd t e (wipeD env own) src ds S1 [] Q) X
theorem noX_kx {K : Fg} {mg : Str → Option Value} {W : WX} {F : Hp} {ads : List Addr} {H : Hp} {σ : L2.St} : KX K mg W F ads H σ noX := fun _ _ _ _ _ _ _ h => h.elim
theorem wipe_wipe {σ : L2.St} {own : List Nat} : ∀ us : List Nat, (∀ i ∈ us, i ∈ own) → L2.wipe (L2.wipe σ us) own = L2.wipe σ own
  | [], _ => rfl
  | u :: us, h => by
    show L2.wipe ((L2.wipe σ us).set u none) own = _
    rw [wipe_set (h u List.mem_cons_self)]
    exact wipe_wipe us fun i hi => h i (List.mem_cons_of_mem _ hi)
theorem seqComp {K : Fg} {mg : Str → Option Value} {W : WX} {own sl : List Nat} {bd : D → Env → Sto → Option Env} {i : WI} {t : WT} {e : WE} (hsl : ∀ j ∈ sl, j ∈ own) {σ : L2.St} {H : Hp} {Q : VK} (h : tL K mg W (wComp own bd i t e) σ H Q) :
    tLc (tI K mg W i) (tG K sl bd) (tT K mg (fun _ _ _ _ => False) t) (tE K mg (fun _ _ _ _ => False) e) own σ H Q := by
  obtain ⟨env, S, F, ads, Qd, Xd, er, sm, hw, kv, kx⟩ := h
  refine ⟨env, S, F, ads, _, Xd, er, sm, hw, fun F1 ads1 S1 H1 ds src J x1 s1 it h1 => ?_, kx⟩
  intro D hD
  obtain ⟨hz, h1⟩ := h1
  have er1 := (er.ext x1).wipe own
  refine ⟨fun i m H => m = ds.length - i ∧ i ≤ ds.length ∧ ∃ F2 ads2 S2 acc accv, Ext F1 ads1 H1 F2 ads2 (DLay.er H D) ∧ Sim K F2 ads2 S2 (DLay.er H D) ∧ F2 D = none ∧ H D = some (.lst accv) ∧ Rps K F2 ads2 acc accv ∧ acc.length ≤ i ∧ compGo bd t e (wipeD env own) src (ds.drop i) S2 acc Qd,
    ⟨ds.length, rfl, Nat.zero_le _, F1, ads1, S1, [], [], ?_, ?_, s1.sub.free hD, upd_same, .nil, Nat.le_refl _, by rw [List.drop_zero]; exact h1⟩, ?_⟩
  · rw [er_upd, er_none hD]; exact Ext.refl
  · rw [er_upd, er_none hD]; exact s1
  rintro i m H2 ⟨rfl, hi, F2, ads2, S2, acc, accv, x2, s2, nF, eD, ra, hl, hc⟩
  have nD : D ∉ ads2 := fun q => by
    obtain ⟨u, z⟩ := s2.there q
    rw [er_same] at z; cases z
  have s2u : Sim K F2 ads2 S2 H2 := s2.uner
  by_cases hlt : i < ds.length
  · have hdrop : ds.drop i = ds[i] :: ds.drop (i + 1) := List.drop_eq_getElem_cons hlt
    rw [hdrop] at hc
    obtain ⟨so, env', hb, ht⟩ := hc
    obtain ⟨go, yl⟩ := (it F2 ads2 S2 H2 x2.sub x2.pre s2u so).1 i ds[i] (List.getElem?_eq_getElem hlt)
    refine .inr ⟨go, fun H' => ∃ F3 ads3 S3 acc accv, Ext F1 ads1 H1 F3 ads3 (DLay.er H' D) ∧ Sim K F3 ads3 S3 (DLay.er H' D) ∧ F3 D = none ∧ H' D = some (.lst accv) ∧ Rps K F3 ads3 acc accv ∧ acc.length ≤ i + 1 ∧ compGo bd t e (wipeD env own) src (ds.drop (i + 1)) S3 acc Qd,
      fun H' hN => ⟨_, by omega, rfl, hlt, hN⟩, fun x H' hy => ?_⟩
    obtain ⟨F3, x3, s3, rx⟩ := yl x H' hy
    have er3 := (er1.ext x2).ext x3
    have eD3 := x3.kep D _ eD nD rfl
    have nF3 := x3.fno D _ eD nD rfl nF
    refine ⟨_, S2, F3, ads2, _, env', er3, s3, rx, hb, fun σ' er' hw => ⟨(hw own hsl).trans (wipe_wipe own fun _ h => h), env', S2, F3, ads2, _, noX, er', s3, ht, fun F4 ads4 S4 H4 b x4 s4 h4 => ?_, noX_kx⟩⟩
    have x34 := x3.trans x4
    have eD4 := x34.kep D _ eD nD rfl
    have nF4 := x34.fno D _ eD nD rfl nF
    have nD4 : D ∉ ads4 := fun q => (x34.new D q).elim nD fun z => by cases z _ eD
    cases b with
    | false =>
      exact ⟨F4, ads4, S4, acc, accv, x2.trans x34.er, s4.er nD4 nF4 ⟨_, eD4⟩, nF4, eD4, ra.ext x34, by omega, h4⟩
    | true =>
      refine ⟨env', S4, F4, ads4, _, noX, er'.ext x4, s4, h4, fun F5 ads5 S5 H5 d v x5 s5 r5 h5 => ?_, noX_kx⟩
      have x35 := x34.trans x5
      have eD5 := x35.kep D _ eD nD rfl
      have nF5 := x35.fno D _ eD nD rfl nF
      have nD5 : D ∉ ads5 := fun q => (x35.new D q).elim nD fun z => by cases z _ eD
      refine ⟨accv, eD5, ?_, F5, ads5, S5, acc ++ [d], accv ++ [v], ?_, ?_, nF5, upd_same, (ra.ext x35).append (.cons r5 .nil), by simp; omega, h5⟩
      · rw [← ra.length]; omega
      · rw [er_upd]; exact x2.trans x35.er
      · rw [er_upd]; exact s5.er nD5 nF5 ⟨_, eD5⟩
  · have e0 : ds.drop i = [] := List.drop_eq_nil_of_le (by omega)
    rw [e0] at hc
    obtain ⟨so, hq⟩ := hc
    refine .inl ⟨(it F2 ads2 S2 H2 x2.sub x2.pre s2u so).2 i (by omega), ?_⟩
    have := kv F2 ads2 S2 (DLay.er H2 D) acc accv D (x1.trans x2) s2 ra er_same hq
    rw [upd_er eD] at this
    exact this
def compB (own : List (Str × Nat)) (g : DG) (i : DI) (t : DF) (e : DE) (c : Sc) : Expr → Bool
  | .ListComp elt [⟨tg, iter, ifs, a⟩] scope _ => a == 0 && i.mt c tg iter && noSet iter && blkC c.N c.sc scope own && g.sl.all (fun j => (own.map (·.2)).contains j) && g.mt (blkSc c scope) tg && t.mt (blkSc c scope) ifs && e.mt (blkSc c scope) elt
  | _ => false
theorem folded_no {e : Expr} (h : noSet e = true) (env : PySem.Env) (x : Value) : foldedSetIterable e env x = pure x := by
  cases e <;> first | rfl | (simp [noSet] at h)
/-- what pe_lc and ps_setLc ask -/
structure CompOk (X : Cx) (W : WX) (T : List (Addr × Str)) (own : List (Str × Nat)) (g : DG) (i : DI) (t : DF) (e : DE) (elt tg iter : Expr) (ifs : List Expr) (scope : Scope) : Prop where
  hi : PI X tg iter (tI (kt X T) X.mg W i.wp)
  ok : BlkOk X.N X.env.scope scope own
  hg : ∀ (s : Shared) (H : Hp) (C : Addr) (cl : List (Str × Addr)) (fp : List Addr), PG (X.blk s H scope (compEnvC scope cl C X.env) fp) tg (tG (kt X T) g.sl g.bd)
  ht : ∀ (s : Shared) (H : Hp) (C : Addr) (cl : List (Str × Addr)) (fp : List Addr), PTs (X.blk s H scope (compEnvC scope cl C X.env) fp) ifs (tT (kt X T) X.mg (fun _ _ _ _ => False) t.wp)
  he : ∀ (s : Shared) (H : Hp) (C : Addr) (cl : List (Str × Addr)) (fp : List Addr), PE (X.blk s H scope (compEnvC scope cl C X.env) fp) elt (tE (kt X T) X.mg (fun _ _ _ _ => False) e.wp)
  hs : ∀ x, foldedSetIterable iter X.env x = pure x
  sl : ∀ j ∈ g.sl, j ∈ own.map (·.2)
theorem comp_ok {X : Cx} {W : WX} {T : List (Addr × Str)} {own : List (Str × Nat)} {g : DG} {i : DI} {t : DF} {e : DE} {elt tg iter : Expr} {ifs : List Expr} {scope : Scope} {a : Int} {pos : Pos} (h : compB own g i t e (scOf X) (.ListComp elt [⟨tg, iter, ifs, a⟩] scope pos) = true)
    (gd : Good X W) (q : i.rq (cyOf X T) ∧ t.rq (cyOf X T) ∧ e.rq (cyOf X T)) : a = 0 ∧ CompOk X W T own g i t e elt tg iter ifs scope := by
  unfold compB at h
  simp only [Bool.and_eq_true, beq_iff_eq] at h
  obtain ⟨⟨⟨⟨⟨⟨⟨h0, h1⟩, h2⟩, h3⟩, h4⟩, h5⟩, h6⟩, h7⟩ := h
  refine ⟨h0, i.ok X W T tg iter h1 gd q.1, blkOk_by h3, fun s H C cl fp => ?_, fun s H C cl fp => ?_, fun s H C cl fp => ?_, folded_no h2 X.env, fun j hj => ?_⟩
  · exact g.ok (X.blk s H scope (compEnvC scope cl C X.env) fp) T tg h5 gd.calm gd.nd
  · exact t.ok (X.blk s H scope (compEnvC scope cl C X.env) fp) _ T ifs h6 (good_blk gd s H scope C cl fp) q.2.1
  · exact e.ok (X.blk s H scope (compEnvC scope cl C X.env) fp) _ T elt h7 (good_blk gd s H scope C cl fp) q.2.2
  · have := List.all_eq_true.mp h4 j hj
    simpa using this
def DL.comp (own : List (Str × Nat)) (g : DG) (i : DI) (t : DF) (e : DE) : DL where
  mt c x := compB own g i t e c x
  wp := wComp (own.map (·.2)) g.bd i.wp t.wp e.wp
  rq Z := i.rq Z ∧ t.rq Z ∧ e.rq Z
  ok X W T x h gd q := by
    have h' := h
    unfold compB at h'
    split at h'
    · obtain ⟨rfl, c⟩ := comp_ok h gd q
      exact PE.imp (pe_lc gd.calm gd.nd c.hi c.ok c.hg c.ht c.he c.hs) fun σ H Q z => seqComp c.sl z
    · cases h'
/-! #### DL7 -/
/-! The D layer, part 7: statements. -/
structure DEnds where
  nx : Env → Sto → Prop
  rt : D → Sto → Prop
  xq : Str → Env → Sto → Prop
  bk : Env → Sto → Prop := fun _ _ => False
  ct : Env → Sto → Prop := fun _ _ => False
abbrev WS := DEnds → Env → Sto → Prop
section
variable (K : Fg) (mg : Str → Option Value) (W : WX)
def KN (F : Hp) (ads : List Addr) (H : Hp) (P : Env → Sto → Prop) (Q : L2.St → Hp → Prop) : Prop := ∀ F' ads' S' H' env' σ', Ext F ads H F' ads' H' → Sim K F' ads' S' H' → EnvR K F' ads' env' σ' → P env' S' → Q σ' H'
def KZ (F : Hp) (ads : List Addr) (H : Hp) (P : Str → Env → Sto → Prop) : Prop := ∀ F' ads' S' H' env' σ' x, Ext F ads H F' ads' H' → Sim K F' ads' S' H' → EnvR K F' ads' env' σ' → P x env' S' → W ((mg x).getD .none) none σ' H'
structure KE (F : Hp) (ads : List Addr) (H : Hp) (E : DEnds) (D : Ends) : Prop where
  nx : KN K F ads H E.nx D.nx
  rt : KV K F ads H E.rt D.rt
  bk : KN K F ads H E.bk D.bk
  ct : KN K F ads H E.ct D.ct
  xq : KZ K mg W F ads H E.xq
def tS (w : WS) : TS := fun D σ H => ∃ env S F ads E, EnvR K F ads env σ ∧ Sim K F ads S H ∧ w E env S ∧ KE K mg W F ads H E D
end
section
variable {K : Fg} {mg : Str → Option Value} {W : WX} {F F' : Hp} {ads ads' : List Addr} {H H' : Hp} {σ : L2.St} {E : DEnds} {D : Ends}
theorem KN.ext {P : Env → Sto → Prop} {Q : L2.St → Hp → Prop} (k : KN K F ads H P Q) (x : Ext F ads H F' ads' H') : KN K F' ads' H' P Q := fun _ _ _ _ _ _ y s r h => k _ _ _ _ _ _ (x.trans y) s r h
theorem KZ.ext {P : Str → Env → Sto → Prop} (k : KZ K mg W F ads H P) (x : Ext F ads H F' ads' H') : KZ K mg W F' ads' H' P := fun _ _ _ _ _ _ _ y s r h => k _ _ _ _ _ _ _ (x.trans y) s r h
theorem KE.ext (k : KE K mg W F ads H E D) (x : Ext F ads H F' ads' H') : KE K mg W F' ads' H' E D := ⟨k.nx.ext x, k.rt.ext x, k.bk.ext x, k.ct.ext x, k.xq.ext x⟩
theorem KZ.kx {P : Str → Env → Sto → Prop} {env : Env} (k : KZ K mg W F ads H P) (er : EnvR K F ads env σ) : KX K mg W F ads H σ (fun x S => P x env S) := fun _ _ _ _ _ x s h => k _ _ _ _ _ _ _ x s (er.ext x) h
end
/-- the surroundings of a def's body -/
structure FnK (X : Cx) : Prop where
  kind : X.env.scope.kind = .function
  stk : X.stack = X.env :: X.outer
  frm : X.env.frame = some X.env.locals
  ex : X.ex = []
structure DS where
  mt : Sc → Stmt → Bool
  wp : WS
  rq : Cy → Prop
  ok : ∀ (X : Cx) (W : WX) (T : List (Addr × Str)) (s : Stmt), mt (scOf X) s = true → Good X W → FnK X → rq (cyOf X T) → PS X s (tS (kt X T) X.mg W wp)
structure DB where
  mt : Sc → List Stmt → Bool
  wp : WS
  rq : Cy → Prop
  ok : ∀ (X : Cx) (W : WX) (T : List (Addr × Str)) (s : List Stmt), mt (scOf X) s = true → Good X W → FnK X → rq (cyOf X T) → PSs X s (tS (kt X T) X.mg W wp)
theorem PS.imp {X : Cx} {e : Stmt} {t t' : TS} (h : PS X e t) (q : ∀ D σ H, t' D σ H → t D σ H) : PS X e t' := ⟨fun pins s σ H D I z => h.run pins s σ H D I (q _ _ _ z)⟩
theorem PSs.imp {X : Cx} {e : List Stmt} {t t' : TS} (h : PSs X e t) (q : ∀ D σ H, t' D σ H → t D σ H) : PSs X e t' := ⟨fun pins s σ H D I z => h.run pins s σ H D I (q _ _ _ z)⟩
def wSkip : WS := fun E env S => E.nx env S
def DB.nil : DB where
  mt _ s := s.isEmpty
  wp := wSkip
  rq _ := True
  ok X W T s h g _ _ := by
    have e0 : s = [] := by simpa using h
    subst e0
    exact PSs.imp pss_nil fun D σ H ⟨env, S, F, ads, E, er, sm, hw, k⟩ => k.nx _ _ _ _ _ _ Ext.refl sm er hw
def wSeq (a b : WS) : WS := fun E env S => a { E with nx := b E } env S
def DB.cons (a : DS) (b : DB) : DB where
  mt c s := match s with
    | x :: xs => a.mt c x && b.mt c xs
    | [] => false
  wp := wSeq a.wp b.wp
  rq Z := a.rq Z ∧ b.rq Z
  ok X W T s h g f q := by
    split at h
    · simp only [Bool.and_eq_true] at h
      refine PSs.imp (pss_cons (a.ok X W T _ h.1 g f q.1) (b.ok X W T _ h.2 g f q.2)) fun D σ H ⟨env, S, F, ads, E, er, sm, hw, k⟩ => ?_
      refine ⟨env, S, F, ads, { E with nx := b.wp E }, er, sm, hw, fun F1 ads1 S1 H1 env1 σ1 x1 s1 r1 h1 => ?_, k.rt, k.bk, k.ct, k.xq⟩
      exact ⟨env1, S1, F1, ads1, E, r1, s1, h1, k.ext x1⟩
    · cases h
def noComp : Expr → Bool
  | .ListComp _ _ _ _ => false
  | .SetComp _ _ _ _ => false
  | .DictComp _ _ _ _ _ => false
  | _ => true
theorem noComp_sw {e : Expr} {t : Option Expr} {l : Nat} {env : PySem.Env} (h : noComp e = true) : swapsWith e t l env = pure false := by
  cases e <;> first | rfl | (simp [noComp] at h)
def wExpr (a : WE) : WS := fun E env S => a env S (fun _ S1 => E.nx env S1) (fun x S1 => E.xq x env S1)
def DS.expr (a : DE) : DS where
  mt c s := match s with
    | .Expr e _ => a.mt c e && noComp e
    | _ => false
  wp := wExpr a.wp
  rq := a.rq
  ok X W T s h g f q := by
    split at h
    · simp only [Bool.and_eq_true] at h
      refine PS.imp (ps_expr (a.ok X W T _ h.1 g q) (noComp_sw h.2)) fun D σ H ⟨env, S, F, ads, E, er, sm, hw, k⟩ => ?_
      exact ⟨env, S, F, ads, _, _, er, sm, hw, fun F1 ads1 S1 H1 d v x1 s1 r1 h1 => k.nx _ _ _ _ _ _ x1 s1 (er.ext x1) h1, k.xq.kx er⟩
    · cases h
def wRet (a : WE) : WS := fun E env S => a env S E.rt (fun x S1 => E.xq x env S1)
def DS.ret (a : DE) : DS where
  mt c s := match s with
    | .Return (some e) _ => a.mt c e
    | _ => false
  wp := wRet a.wp
  rq := a.rq
  ok X W T s h g f q := by
    split at h
    · refine PS.imp (ps_ret (a.ok X W T _ h g q)) fun D σ H ⟨env, S, F, ads, E, er, sm, hw, k⟩ => ?_
      exact ⟨env, S, F, ads, _, _, er, sm, hw, k.rt, k.xq.kx er⟩
    · cases h
def DS.pass : DS where
  mt _ s := match s with
    | .Pass _ => true
    | _ => false
  wp := wSkip
  rq _ := True
  ok X W T s h g f q := by
    split at h
    · exact PS.imp ps_pass fun D σ H ⟨env, S, F, ads, E, er, sm, hw, k⟩ => k.nx _ _ _ _ _ _ Ext.refl sm er hw
    · cases h
def wCont : WS := fun E env S => E.ct env S
def DS.cont : DS where
  mt _ s := match s with
    | .Continue _ => true
    | _ => false
  wp := wCont
  rq _ := True
  ok X W T s h g f q := by
    split at h
    · exact PS.imp ps_continue fun D σ H ⟨env, S, F, ads, E, er, sm, hw, k⟩ => k.ct _ _ _ _ _ _ Ext.refl sm er hw
    · cases h
/-! ### assignments -/
def wSet (i : Nat) (a : WE) : WS := fun E env S => a env S (fun d S1 => E.nx (env.set i (some d)) S1) (fun x S1 => E.xq x env S1)
theorem seqSet {K : Fg} {mg : Str → Option Value} {W : WX} {i : Nat} {a : WE} {D : Ends} {σ : L2.St} {H : Hp} (h : tS K mg W (wSet i a) D σ H) : tAsg (tE K mg W a) (gName i) D σ H := by
  obtain ⟨env, S, F, ads, E, er, sm, hw, k⟩ := h
  exact ⟨env, S, F, ads, _, _, er, sm, hw, fun F1 ads1 S1 H1 d v x1 s1 r1 h1 => k.nx _ _ _ _ _ _ x1 s1 ((er.ext x1).set r1) h1, k.xq.kx er⟩
def DS.set (i : Nat) (a : DE) : DS where
  mt c s := match s with
    | .Assign [.Name x _] e _ => locB c i x && a.mt c e && noComp e
    | _ => false
  wp := wSet i a.wp
  rq := a.rq
  ok X W T s h g f q := by
    split at h
    · simp only [Bool.and_eq_true] at h
      obtain ⟨h1, h2, h3⟩ := loc_of h.1.1
      exact PS.imp (ps_set g.nd h1 h2 (a.ok X W T _ h.1.2 g q) (noComp_sw h.2) h3) fun D σ H z => seqSet z
    · cases h
/-- name = [.. for ..], frozen (the name is a plain local, on one line) -/
def setCB (i : Nat) (own : List (Str × Nat)) (g : DG) (it : DI) (t : DF) (e : DE) (c : Sc) : Stmt → Bool
  | .Assign [.Name y py] (.ListComp elt gs scope pos) _ => c.N[i]? == some y && (c.sc.names.lookup y == some .local) && (py.line == pos.line) && !(scope.names.any fun (n, k) => n == y && (k == .local || k == .cell)) && compB own g it t e c (.ListComp elt gs scope pos)
  | _ => false
theorem setC_ok {X : Cx} {W : WX} {T : List (Addr × Str)} {i : Nat} {own : List (Str × Nat)} {g : DG} {it : DI} {t : DF} {e : DE} {s : Stmt} (h : setCB i own g it t e (scOf X) s = true) (gd : Good X W) (f : X.env.scope.kind = .function)
    (q : it.rq (cyOf X T) ∧ t.rq (cyOf X T) ∧ e.rq (cyOf X T)) : PS X s (tAsg (tL (kt X T) X.mg W (wComp (own.map (·.2)) g.bd it.wp t.wp e.wp)) (gName i)) := by
  unfold setCB at h
  split at h
  · rename_i y py elt gs scope pos spos
    simp only [Bool.and_eq_true, beq_iff_eq, Bool.not_eq_true'] at h
    obtain ⟨⟨⟨⟨h1, h2⟩, h3⟩, h4⟩, h5⟩ := h
    have h5' := h5
    unfold compB at h5'
    split at h5'
    · rename_i heq
      cases heq
      obtain ⟨rfl, c⟩ := comp_ok h5 gd q
      have z := ps_setLc (py := py) (pos := pos) (spos := spos) gd.calm gd.nd h1 h2 (sw_true f h2 (by simpa using h3) h4) c.hi c.ok c.hg c.ht c.he c.hs
      exact PS.imp z fun D σ H z => seqComp c.sl z
    · cases h5'
  · cases h
def DS.setC (i : Nat) (own : List (Str × Nat)) (g : DG) (it : DI) (t : DF) (e : DE) : DS where
  mt c s := setCB i own g it t e c s
  wp := wSet i (wLst (wComp (own.map (·.2)) g.bd it.wp t.wp e.wp))
  rq Z := it.rq Z ∧ t.rq Z ∧ e.rq Z
  ok X W T s h gd f q := PS.imp (setC_ok h gd f.kind q) fun D σ H z => seqLst (seqSet z)
/-! a, b = .. -/
def swNm (sc : Scope) (ts : List Expr) : List Str := ts.filterMap fun
  | .Name id pos => if sc.names.lookup id == some .local && pos.line == (ts.head?.map (·.pos.line)).getD 0 then some id else none
  | _ => none
def swCore (sc : Scope) (ts vs : List Expr) : Option (Option (List Str)) :=
  if (!(ts.length == 2 || ts.length == 3) || vs.length != ts.length || ScopeKind.function != ScopeKind.function) = true then some none else
  if (vs.any fun | .Starred .. => true | _ => false) = true then some none else
  if ((swNm sc ts).length != ts.length || (swNm sc ts).eraseDups.length != (swNm sc ts).length) = true then some none else
  if vs.all (foldedForSure 8) = true then some none else
  if vs.all (constantsAlone 8) = true then none else some (some (swNm sc ts))
theorem swCore_of {ts vs : List Expr} {k k2 : Nat} {p p2 : Pos} {env : PySem.Env} {r : Option (List Str)} (hk : env.scope.kind = .function) (h : swCore env.scope ts vs = some r) : swappedStores [.Tuple ts k p] (.Tuple vs k2 p2) env = pure r := by
  have hb : env.blockKind = .function := by unfold Env.blockKind; rw [hk]; rfl
  unfold swappedStores
  dsimp only
  rw [hb]
  unfold swCore at h
  split at h
  · rename_i c; cases h; exact if_pos c
  rename_i c; refine (if_neg c).trans ?_; clear c
  split at h
  · rename_i c; cases h; exact if_pos c
  rename_i c; refine (if_neg c).trans ?_; clear c
  split at h
  · rename_i c; cases h; exact if_pos c
  rename_i c
  refine (if_neg c).trans ?_; clear c
  split at h
  · rename_i c; cases h; exact if_pos c
  rename_i c; refine (if_neg c).trans ?_; clear c
  split at h
  · cases h
  rename_i c; cases h; exact if_neg c
def swNo (sc : Scope) (tg e : Expr) : Bool := match tg, e with
  | .Tuple ts _ _, .Tuple vs _ _ => swCore sc ts vs == some none
  | .List _ _, .Tuple _ _ _ => false
  | _, _ => true
theorem swNo_of {tg e : Expr} {env : PySem.Env} (hk : env.scope.kind = .function) (h : swNo env.scope tg e = true) : swappedStores [tg] e env = pure none := by
  cases tg with
  | Tuple ts a b =>
    cases e with
    | Tuple vs c d => exact swCore_of hk (by simpa [swNo] using h)
    | _ => rfl
  | List ts a =>
    cases e with
    | Tuple vs c d => simp [swNo] at h
    | _ => rfl
  | _ => cases e <;> rfl
/-- a target of names (a tuple of them), no swap -/
def wAsg (bd : D → Env → Sto → Option Env) (a : WE) : WS := fun E env S => a env S (fun d S1 => ∃ env', bd d env S1 = some env' ∧ E.nx env' S1) (fun x S1 => E.xq x env S1)
def DS.asg (t : DG) (a : DE) : DS where
  mt c s := match s with
    | .Assign [tg] e _ => t.mt c tg && a.mt c e && noComp e && swNo c.sc tg e && noStar tg
    | _ => false
  wp := wAsg t.bd a.wp
  rq := a.rq
  ok X W T s h g f q := by
    split at h
    · rename_i tg e pos
      simp only [Bool.and_eq_true] at h
      obtain ⟨⟨⟨⟨h1, h2⟩, h3⟩, h4⟩, h5⟩ := h
      refine PS.imp (ps_asg (a.ok X W T _ h2 g q) (t.ok X T _ h1 g.calm g.nd) (noComp_sw h3) (swNo_of f.kind h4) (by cases tg <;> first | rfl | (simp [noStar] at h5))) fun D σ H ⟨env, S, F, ads, E, er, sm, hw, k⟩ => ?_
      refine ⟨env, S, F, ads, _, _, er, sm, hw, fun F1 ads1 S1 H1 d v x1 s1 r1 h1 => ?_, k.xq.kx er⟩
      obtain ⟨env', hb, hq⟩ := h1
      exact ⟨env, S1, F1, ads1, d, env', er.ext x1, s1, r1, hb, fun σ' er' _ => k.nx _ _ _ _ _ _ x1 s1 er' hq⟩
    · cases h
/-- a, b = x, y: two plain locals -/
def wPar (i j : Nat) (a b : WE) : WS := fun E env S => a env S (fun d S1 => b env S1 (fun d2 S2 => E.nx ((env.set i (some d)).set j (some d2)) S2) (fun x S2 => E.xq x env S2)) (fun x S1 => E.xq x env S1)
def parB (i j : Nat) (a b : DE) (c : Sc) : Stmt → Bool
  | .Assign [.Tuple [.Name x px, .Name y py] kt pt] (.Tuple [u, v] k2 pt2) _ => c.N[i]? == some x && c.N[j]? == some y && i != j && (c.sc.names.lookup x == some .local) && (c.sc.names.lookup y == some .local) &&
      noStar u && noStar v && a.mt c u && b.mt c v && swCore c.sc [.Name x px, .Name y py] [u, v] == some (some [x, y])
  | _ => false
def DS.par (i j : Nat) (a b : DE) : DS where
  mt c s := parB i j a b c s
  wp := wPar i j a.wp b.wp
  rq Z := a.rq Z ∧ b.rq Z
  ok X W T s h g f q := by
    unfold parB at h
    split at h
    · rename_i x px y py kt pt u v k2 pt2 pos
      simp only [Bool.and_eq_true, beq_iff_eq, bne_iff_ne, ne_eq] at h
      obtain ⟨⟨⟨⟨⟨⟨⟨⟨⟨h1, h2⟩, h3⟩, h4⟩, h5⟩, h6⟩, h7⟩, h8⟩, h9⟩, h10⟩ := h
      refine PS.imp (ps_par g.calm g.nd h1 h2 h3 h4 h5 (pa_cons (a.ok X W T _ h8 g q.1) (pa_cons (b.ok X W T _ h9 g q.2) pa_nil (starEach_cons h7)) (starEach_cons h6)) (swCore_of f.kind h10)) fun D σ H ⟨env, S, F, ads, E, er, sm, hw, k⟩ => ?_
      refine ⟨env, S, F, ads, _, _, er, sm, hw, fun F1 ads1 S1 H1 d v x1 s1 r1 h1 => ?_, k.xq.kx er⟩
      refine ⟨env, S1, F1, ads1, _, _, er.ext x1, s1, h1, fun F2 ads2 S2 H2 d2 v2 x2 s2 r2 h2 => ?_, (k.xq.kx er).ext x1⟩
      exact ⟨v, v2, rfl, k.nx _ _ _ _ _ _ (x1.trans x2) s2 (((er.ext (x1.trans x2)).set (r1.ext x2)).set r2) h2⟩
    · cases h
/-! ### o[i] = e, an object of the store -/
def wSub (a o b : WE) : WS := fun E env S => a env S (fun d S1 => o env S1 (fun x S2 => b env S2 (fun y S3 => ∃ h k j ds, x = .han h ∧ y = .int k ∧ S3[h]? = some (.lst ds) ∧ ixN ds.length k = some j ∧ E.nx env (S3.set h (.lst (ds.set j d)))) (fun x S3 => E.xq x env S3)) (fun x S2 => E.xq x env S2)) (fun x S1 => E.xq x env S1)
def tgSub (c : Sc) (o b : DE) : Expr → Bool
  | .Subscript x y _ => o.mt c x && b.mt c y && plainIx y
  | _ => false
theorem assign_sub {o i : Expr} {pos : Pos} {env : PySem.Env} (h : plainIx i = true) (v : Value) : assign (.Subscript o i pos) env v = (do
      let ov ← holding [v] (eval o env)
      let iv ← holding [v, ov] (eval i env)
      standAt pos
      holding [v, ov, iv] (setItem ov iv v)
      release [v, ov, iv] []) := by
  cases i <;> first | rfl | (simp [plainIx] at h)
def DS.sub (o b a : DE) : DS where
  mt c s := match s with
    | .Assign [tg] e _ => tgSub c o b tg && a.mt c e
    | _ => false
  wp := wSub a.wp o.wp b.wp
  rq Z := a.rq Z ∧ o.rq Z ∧ b.rq Z
  ok X W T s h g f q := by
    split at h
    · rename_i tg e pos
      simp only [Bool.and_eq_true] at h
      obtain ⟨h1, h2⟩ := h
      unfold tgSub at h1
      split at h1
      · simp only [Bool.and_eq_true] at h1
        obtain ⟨⟨h3, h4⟩, h5⟩ := h1
        refine PS.imp (ps_asg (a.ok X W T _ h2 g q.1) (pg_sub (o.ok X W T _ h3 g q.2.1) (b.ok X W T _ h4 g q.2.2) set_list (assign_sub h5)) (by cases e <;> rfl) (by cases e <;> rfl) rfl) fun D σ H ⟨env, S, F, ads, E, er, sm, hw, k⟩ => ?_
        refine ⟨env, S, F, ads, _, _, er, sm, hw, fun F1 ads1 S1 H1 d v x1 s1 r1 h1 => ?_, k.xq.kx er⟩
        refine ⟨env, S1, F1, ads1, _, _, er.ext x1, s1, h1, fun F2 ads2 S2 H2 d2 v2 x2 s2 r2 h2 => ?_, (k.xq.kx er).ext x1⟩
        refine ⟨env, S2, F2, ads2, _, _, er.ext (x1.trans x2), s2, h2, fun F3 ads3 S3 H3 d3 v3 x3 s3 r3 h3 => ?_, (k.xq.kx er).ext (x1.trans x2)⟩
        obtain ⟨hd, kk, j, ds, rfl, rfl, hS, hj, hq⟩ := h3
        cases r3
        cases r2.ext x3 with
        | han ha =>
          obtain ⟨a', ha', nF, us, hH, rs⟩ := s3.at hS
          rw [ha] at ha'; cases ha'
          refine ⟨_, us, kk, j, rfl, rfl, hH, by rw [← rs.length]; exact hj, ?_⟩
          have r1' := r1.ext (x2.trans x3)
          obtain ⟨s4, x4⟩ := s3.put ha nF (.lst (us.set j v)) (o := .lst (ds.set j d)) ⟨nF, _, upd_same, rs.set r1' j⟩
          have xx := ((x1.trans x2).trans x3).trans x4
          exact k.nx _ _ _ _ _ _ xx s4 (er.ext xx) hq
      · cases h1
    · cases h
/-! ### if, while, for, raise -/
def wIf (t : WT) (a b : WS) : WS := fun E env S => t env S (fun k S1 => if k = true then a E env S1 else b E env S1) (fun x S1 => E.xq x env S1)
def DS.iff (t : DT) (a b : DB) : DS where
  mt c s := match s with
    | .If x y z _ => t.mt c x && a.mt c y && b.mt c z
    | _ => false
  wp := wIf t.wp a.wp b.wp
  rq Z := t.rq Z ∧ a.rq Z ∧ b.rq Z
  ok X W T s h g f q := by
    split at h
    · simp only [Bool.and_eq_true] at h
      refine PS.imp (ps_if (t.ok X W T _ h.1.1 g q.1) (a.ok X W T _ h.1.2 g f q.2.1) (b.ok X W T _ h.2 g f q.2.2)) fun D σ H ⟨env, S, F, ads, E, er, sm, hw, k⟩ => ?_
      refine ⟨env, S, F, ads, _, _, er, sm, hw, fun F1 ads1 S1 H1 b x1 s1 h1 => ?_, k.xq.kx er⟩
      cases b with
      | true => exact ⟨env, S1, F1, ads1, E, er.ext x1, s1, h1, k.ext x1⟩
      | false => exact ⟨env, S1, F1, ads1, E, er.ext x1, s1, h1, k.ext x1⟩
    · cases h
def whileGo (t : WT) (b : WS) (E : DEnds) : Nat → Env → Sto → Prop
  | 0, _, _ => False
  | n + 1, env, S => t env S (fun k S1 => if k = true then b { E with nx := whileGo t b E n, ct := whileGo t b E n, bk := E.nx } env S1 else E.nx env S1) (fun x S1 => E.xq x env S1)
def wWhile (t : WT) (b : WS) : WS := fun E env S => ∃ n, whileGo t b E n env S
def DS.while (t : DT) (b : DB) : DS where
  mt c s := match s with
    | .While x y [] _ => t.mt c x && b.mt c y
    | _ => false
  wp := wWhile t.wp b.wp
  rq Z := t.rq Z ∧ b.rq Z
  ok X W T s h g f q := by
    split at h
    · simp only [Bool.and_eq_true] at h
      refine PS.imp (ps_while g.own (t.ok X W T _ h.1 g q.1) (b.ok X W T _ h.2 g f q.2)) fun D σ H ⟨env, S, F, ads, E, er, sm, hw, k⟩ => ?_
      obtain ⟨n, hw⟩ := hw
      refine ⟨fun m σ' H' => ∃ env' S' F' ads', Ext F ads H F' ads' H' ∧ EnvR (kt X T) F' ads' env' σ' ∧ Sim (kt X T) F' ads' S' H' ∧ whileGo t.wp b.wp E m env' S', ⟨n, env, S, F, ads, Ext.refl, er, sm, hw⟩, ?_⟩
      rintro m σ1 H1 ⟨env1, S1, F1, ads1, x1, er1, s1, hw1⟩
      cases m with
      | zero => exact hw1.elim
      | succ m =>
        have k1 := k.ext x1
        refine ⟨env1, S1, F1, ads1, _, _, er1, s1, hw1, fun F2 ads2 S2 H2 b2 x2 s2 h2 => ?_, k1.xq.kx er1⟩
        cases b2 with
        | false => exact k1.nx _ _ _ _ _ _ x2 s2 (er1.ext x2) h2
        | true =>
          have k2 := k1.ext x2
          have nxt : KN (kt X T) F2 ads2 H2 (whileGo t.wp b.wp E m) (fun σ' H' => ∃ env' S' F' ads', Ext F ads H F' ads' H' ∧ EnvR (kt X T) F' ads' env' σ' ∧ Sim (kt X T) F' ads' S' H' ∧ whileGo t.wp b.wp E m env' S') :=
            fun F3 ads3 S3 H3 env3 σ3 x3 s3 er3 h3 => ⟨env3, S3, F3, ads3, (x1.trans x2).trans x3, er3, s3, h3⟩
          exact ⟨_, fun σ' H' hN => ⟨m, Nat.lt_succ_self m, hN⟩, env1, S2, F2, ads2, { E with nx := whileGo t.wp b.wp E m, ct := whileGo t.wp b.wp E m, bk := E.nx }, er1.ext x2, s2, h2, nxt, k2.rt, k2.nx, nxt, k2.xq⟩
    · cases h
def forGo (bd : D → Env → Sto → Option Env) (b : WS) (E : DEnds) (src : Src) : List D → Env → Sto → Prop
  | [], env, S => srcOk src S ∧ E.nx env S
  | d :: ds, env, S => srcOk src S ∧ ∃ env', bd d env S = some env' ∧ b { E with nx := forGo bd b E src ds, ct := forGo bd b E src ds, bk := E.nx } env' S
def wFor (bd : D → Env → Sto → Option Env) (i : WI) (b : WS) : WS := fun E env S => i env S (fun ds src S1 => forGo bd b E src ds env S1) (fun x S1 => E.xq x env S1)
def DS.for (t : DG) (i : DI) (b : DB) : DS where
  mt c s := match s with
    | .For tg it y [] _ => t.mt c tg && i.mt c tg it && noSet it && b.mt c y
    | _ => false
  wp := wFor t.bd i.wp b.wp
  rq Z := i.rq Z ∧ b.rq Z
  ok X W T s h g f q := by
    split at h
    · simp only [Bool.and_eq_true] at h
      obtain ⟨⟨⟨h1, h2⟩, h3⟩, h4⟩ := h
      refine PS.imp (ps_for g.own g.calm (i.ok X W T _ _ h2 g q.1) (t.ok X T _ h1 g.calm g.nd) (b.ok X W T _ h4 g f q.2) (folded_no h3 X.env)) fun D σ H ⟨env, S, F, ads, E, er, sm, hw, k⟩ => ?_
      refine ⟨env, S, F, ads, _, _, er, sm, hw, fun F1 ads1 S1 H1 ds src J x1 s1 it h1 => ?_, k.xq.kx er⟩
      refine ⟨fun i m σ' H' => m = ds.length - i ∧ i ≤ ds.length ∧ ∃ env' S' F' ads', Ext F1 ads1 H1 F' ads' H' ∧ EnvR (kt X T) F' ads' env' σ' ∧ Sim (kt X T) F' ads' S' H' ∧ forGo t.bd b.wp E src (ds.drop i) env' S',
        ⟨ds.length, rfl, Nat.zero_le _, env, S1, F1, ads1, Ext.refl, er.ext x1, s1, by rw [List.drop_zero]; exact h1⟩, ?_⟩
      rintro i m σ2 H2 ⟨rfl, hi, env2, S2, F2, ads2, x2, er2, s2, hw2⟩
      have k2 := k.ext (x1.trans x2)
      by_cases hlt : i < ds.length
      · have hdrop : ds.drop i = ds[i] :: ds.drop (i + 1) := List.drop_eq_getElem_cons hlt
        rw [hdrop] at hw2
        obtain ⟨so, env', hb, hw2⟩ := hw2
        obtain ⟨go, yl⟩ := (it F2 ads2 S2 H2 x2.sub x2.pre s2 so).1 i ds[i] (List.getElem?_eq_getElem hlt)
        refine .inr ⟨go, fun σ' H' => ∃ env' S' F' ads', Ext F1 ads1 H1 F' ads' H' ∧ EnvR (kt X T) F' ads' env' σ' ∧ Sim (kt X T) F' ads' S' H' ∧ forGo t.bd b.wp E src (ds.drop (i + 1)) env' S', fun σ' H' hN => ⟨_, by omega, rfl, hlt, hN⟩, fun x H' hy => ?_⟩
        obtain ⟨F3, x3, s3, rx⟩ := yl x H' hy
        have k3 := k2.ext x3
        refine ⟨env2, S2, F3, ads2, _, env', er2.ext x3, s3, rx, hb, fun σ' er' _ => ?_⟩
        have nxt : KN (kt X T) F3 ads2 H' (forGo t.bd b.wp E src (ds.drop (i + 1))) (fun σ' H' => ∃ env' S' F' ads', Ext F1 ads1 H1 F' ads' H' ∧ EnvR (kt X T) F' ads' env' σ' ∧ Sim (kt X T) F' ads' S' H' ∧ forGo t.bd b.wp E src (ds.drop (i + 1)) env' S') :=
          fun F4 ads4 S4 H4 env4 σ4 x4 s4 er4 h4 => ⟨env4, S4, F4, ads4, (x2.trans x3).trans x4, er4, s4, h4⟩
        exact ⟨env', S2, F3, ads2, { E with nx := forGo t.bd b.wp E src (ds.drop (i + 1)), ct := forGo t.bd b.wp E src (ds.drop (i + 1)), bk := E.nx }, er', s3, hw2, nxt, k3.rt, k3.nx, nxt, k3.xq⟩
      · have e0 : ds.drop i = [] := List.drop_eq_nil_of_le (by omega)
        rw [e0] at hw2
        obtain ⟨so, hq⟩ := hw2
        exact .inl ⟨(it F2 ads2 S2 H2 x2.sub x2.pre s2 so).2 i (by omega), k2.nx _ _ _ _ _ _ Ext.refl s2 er2 hq⟩
    · cases h
/-- what is known of an own exception class -/
def ExcOk (Z : Cy) (x : Str) : Prop := ∃ C, Z.mg x = some (.ref C) ∧ PySem.W.excIn Z.K C [.type "ValueError", .type "Exception", .type "BaseException", .type "object"] "ValueError.__new__" = true ∧ PySem.W.keepIn Z.K (.ref C) = true ∧ PySem.W.subIn Z.K (.ref C) (.type "BaseException") = some true ∧ PySem.W.typeIn Z.K (.ref C) = some (.type "type")
def wRaise (x : Str) : WS := fun E env S => E.xq x env S
def DS.raise (x : Str) : DS where
  mt c s := match s with
    | .Raise (some (.Call (.Name y _) [.Constant (.str _) _ _] [] _)) none _ => y == x && glB c x && !(x == ("__debug__" : Str))
    | _ => false
  wp := wRaise x
  rq Z := ExcOk Z x
  ok X W T s h g f q := by
    split at h
    · simp only [Bool.and_eq_true, beq_iff_eq, Bool.not_eq_true'] at h
      obtain ⟨⟨rfl, h1⟩, h2⟩ := h
      obtain ⟨C, gC, xC, kC, bC, tC⟩ := q
      refine PS.imp (ps_raise g.calm g.tk (pmk_own PySem.F.excBase_ValueError xC gC kC (raises_own bC tC) (gl_of h1) h2)) fun D σ H ⟨env, S, F, ads, E, er, sm, hw, k⟩ => ?_
      have := k.xq _ _ _ _ _ _ _ Ext.refl sm er hw
      rw [show X.mg _ = some (.ref C) from gC] at this
      exact this
    · cases h
/-! #### DL8 -/
/-! The D layer, part 8: defs, their promises, the law's end. -/
/-- a def's promise over data -/
abbrev Ct := List D → Sto → QD → XD → Prop
def spOf (K : Fg) (mg : Str → Option Value) (n : Nat) (C : Ct) : Sp := fun vs H Q E => ∃ ds S F ads Qd Xd, ds.length = n ∧ Sim K F ads S H ∧ Rps K F ads ds vs ∧ C ds S Qd Xd ∧ KV K F ads H Qd Q ∧
  (∀ F' ads' S' H' x, Ext F ads H F' ads' H' → Sim K F' ads' S' H' → Xd x S' → E ((mg x).getD .none) none H')
/-- a def of the text keeps a promise, with room for k calls one in another -/
def FnAt (P : Program) (w : World) (K : Fg) (mg : Str → Option Value) (base : Heap) (k : Nat) (f : Str) (n : Nat) (C : Ct) : Prop :=
  ∃ a fd ps, FnOk P w K.K mg base (L2.CX P w) k a fd ps (spOf K mg n C) ∧ mg f = some (.ref a) ∧ PySem.W.keepIn K.K (.ref a) = true ∧ L2.Binds K.K fd ps []
theorem FnAt.mono {P : Program} {w : World} {K : Fg} {mg : Str → Option Value} {base : Heap} {j k n : Nat} {f : Str} {C : Ct} (h : FnAt P w K mg base j f n C) (hk : j ≤ k) : FnAt P w K mg base k f n C :=
  let ⟨a, fd, ps, F, r⟩ := h
  ⟨a, fd, ps, F.mono hk, r⟩
theorem FnAt.imp {P : Program} {w : World} {K : Fg} {mg : Str → Option Value} {base : Heap} {k n : Nat} {f : Str} {C C' : Ct} (h : FnAt P w K mg base k f n C) (q : ∀ ds S Q X, C' ds S Q X → C ds S Q X) : FnAt P w K mg base k f n C' :=
  let ⟨a, fd, ps, F, r⟩ := h
  ⟨a, fd, ps, F.imp fun vs H Q E ⟨ds, S, F, ads, Qd, Xd, hl, sm, rs, hc, kv, kx⟩ => ⟨ds, S, F, ads, Qd, Xd, hl, sm, rs, q _ _ _ _ hc, kv, kx⟩, r⟩
def CallOk (Z : Cy) (f : Str) (n : Nat) (C : Ct) : Prop := ∃ k, FnAt Z.prog Z.w ⟨Z.K, Z.T⟩ Z.mg Z.base k f n C ∧ Room k Z.A
def wCall (C : Ct) (a : WL) : WE := fun env S Q X => a env S (fun ds S1 => C ds S1 Q X) X
def DE.call (f : Str) (C : Ct) (a : DA) : DE where
  mt c e := match e with
    | .Call (.Name y _) (e :: es) [] _ => y == f && glB c f && !(f == ("__debug__" : Str)) && a.mt c (e :: es)
    | _ => false
  wp := wCall C a.wp
  rq Z := CallOk Z f a.n C ∧ a.rq Z
  ok X W T e h g q := by
    split at h
    · simp only [Bool.and_eq_true, beq_iff_eq, Bool.not_eq_true'] at h
      obtain ⟨⟨⟨rfl, h1⟩, h2⟩, h3⟩ := h
      obtain ⟨⟨k, ⟨ad, fd, ps, F, hm, hk, hb⟩, hr⟩, q2⟩ := q
      obtain ⟨pa, hs⟩ := a.ok X W T _ h3 g q2
      simp only [List.all_cons, Bool.and_eq_true] at hs
      refine PE.imp (pe_callS (E := L2.WE W) F hr (gl_of h1) hm hk hb (fun σ => passAt g.tk σ) pa h2 (starEach_cons hs.1) (star_any hs.2)) fun σ H Q ⟨env, S, F, ads, Qd, Xd, er, sm, hw, kv, kx⟩ => ?_
      refine ⟨env, S, F, ads, _, Xd, er, sm, hw, fun F1 ads1 S1 H1 ds vs x1 s1 r1 l1 h1 => ?_, kx⟩
      exact ⟨ds, S1, F1, ads1, Qd, Xd, l1, s1, r1, h1, kv.ext x1, fun F2 ads2 S2 H2 x x2 s2 h2 => kx _ _ _ _ _ (x1.trans x2) s2 h2⟩
    · cases h
/-! ### a def -/
def startD (n : Nat) (ds : List D) : Env := ds.map some ++ List.replicate (n - ds.length) none
theorem start_r {K : Fg} {F : Hp} {ads : List Addr} {N : List Str} {ds : List D} {vs : List V} (r : Rps K F ads ds vs) : EnvR K F ads (startD N.length ds) (L2.start N vs) := by
  unfold startD L2.start
  refine ⟨by simp [r.length], fun i d h => ?_⟩
  by_cases hi : i < ds.length
  · rw [List.getElem?_append_left (by simpa using hi), List.getElem?_map] at h
    cases e : ds[i]? with
    | none => rw [e] at h; cases h
    | some d' =>
      rw [e] at h
      have : d' = d := by simpa using h
      subst this
      obtain ⟨v, hv, rv⟩ := r.get e
      refine ⟨v, ?_, rv⟩
      rw [List.getElem?_append_left (by simp; rw [← r.length]; exact hi), List.getElem?_map, hv]
      rfl
  · rw [List.getElem?_append_right (by simpa using hi)] at h
    exfalso
    rw [List.getElem?_replicate] at h
    split at h <;> cases h
/-- what a body means as a promise -/
def ctOf (n : Nat) (b : DB) : Ct := fun ds S Q X => b.wp { nx := fun _ S' => Q .non S', rt := Q, xq := fun x _ S' => X x S' } (startD n ds) S
/-- the law's own promise -/
def cLaw : Ct := fun ds S Q _ => ∃ ns : List Int, ds = [.scr (ns.map .int)] ∧ ns.length ≤ 63 ∧ S = [] ∧ ∀ S', Q (.bl true) S'
def scrF (H : Hp) (a : Addr) : Hp := fun b => if b = a then (match H a with | some (.lst xs) => some (.lst xs) | some (.frz o u) => some (.frz o u) | _ => none) else none
theorem scrF_some {H : Hp} {a b : Addr} {o : HO} (h : scrF H a b = some o) : b = a ∧ H b = some o ∧ isTb o = false := by
  unfold scrF at h
  split at h
  · rename_i e
    subst e
    split at h
    · rename_i q; cases h; exact ⟨rfl, q, rfl⟩
    · rename_i q; cases h; exact ⟨rfl, q, rfl⟩
    · cases h
  · cases h
theorem scrF_sq {K : PySem.W.Frag} {H : Hp} {a : Addr} {xs : List V} (h : SqL K H a xs) : SqL K (scrF H a) a xs := by
  rcases h with (h | ⟨o, h⟩) | h
  · refine .inl (.inl ?_)
    unfold scrF
    rw [if_pos rfl, h]
  · refine .inl (.inr ⟨o, ?_⟩)
    unfold scrF
    rw [if_pos rfl, h]
  · exact .inr h
theorem law_fin {K : Fg} {mg : Str → Option Value} {H F : Hp} {a : Addr} {ns : List Int} (hl : ns.length ≤ 63) (sF : Sub F H) (t1 : ∀ p ∈ K.T, F p.1 = some (.tbl #[.str p.2 0])) (t2 : ∀ b m, F b = some (.tbl m) → ∃ q, (b, q) ∈ K.T ∧ m = #[.str q 0]) (hF : SqL K.K F a (ns.map V.int)) :
    spOf K mg 1 cLaw [.ref a] H (fun v _ => v = .bl true) fun _ _ _ => False := by
  refine ⟨[.scr (ns.map .int)], [], F, [], fun d _ => d = .bl true, fun _ _ => False, rfl, ⟨sF, t1, t2, rfl, .nil, fun _ _ _ h => by simp at h⟩, .cons (.scr hF (Rps.ofInts ns)) .nil, ⟨ns, rfl, hl, rfl, fun _ => rfl⟩, fun F' ads' S' H' d v _ _ r h => ?_, fun _ _ _ _ _ _ _ h => h⟩
  subst h
  cases r
  rfl
theorem scrF_sub {H : Hp} {a : Addr} : Sub (scrF H a) H := fun b o h => by
  obtain ⟨rfl, e, t⟩ := scrF_some h
  cases o with
  | tbl m => cases t
  | _ => exact e
/-- .. where nothing is tracked but the script -/
theorem law_sp {K : PySem.W.Frag} {mg : Str → Option Value} {H : Hp} {a : Addr} {ns : List Int} (hl : ns.length ≤ 63) (hS : SqL K H a (ns.map V.int)) : spOf ⟨K, []⟩ mg 1 cLaw [.ref a] H (fun v _ => v = .bl true) fun _ _ _ => False :=
  law_fin (K := ⟨K, []⟩) hl scrF_sub (fun _ h => by cases h) (fun b m h => by obtain ⟨_, _, t⟩ := scrF_some h; cases t) (scrF_sq hS)
/-! #### DL9 -/
/-! The D layer, part 9: enumerate of a tuple or a list. -/
open AutoSeq1 (wpAny_loadPart')
theorem meets_enumerate_newT (l : Addr) (items : Array Value) (n : Nat) (dct : Option Addr) (sl : Array (Option Value)) :
    Meets (Builtin.«enumerate.__new__» ⟨[.type "enumerate", .ref l], []⟩) (fun _ R s => s.heap.get? l = some { cls := .type "tuple", dict := dct, data := .seq items n, slots := sl } ∧
      R (.ok (.ret (.ref (s.heap.push { cls := .type "tuple_iterator", data := .fields #[.ref l, .int 0 0] }).objs.size)))
        { s with heap := (s.heap.push { cls := .type "tuple_iterator", data := .fields #[.ref l, .int 0 0] }).push { cls := .type "enumerate", data := .fields #[.none, .bool false, .ref s.heap.objs.size, rawInt 0, .none, .none] } }) :=
  .of_wp fun prog w A R s h => by
    obtain ⟨hp, g, d, tk, os⟩ := s; obtain ⟨hl, h⟩ := h
    have hsub := sub_enumerate
    have hL : Heap.IsTuple (Shared.heap ⟨hp, g, d, tk, os⟩) l items := ⟨_, hl, rfl, n, rfl⟩
    wp_walk using wpAny_loadPart' hl
    refine wpAny_stack_any fun st => wpAny_pure ?_
    split
    · rename_i c _ _ _ _ _
      cases (c == Value.type "enumerate")
      · wp_walk using wpAny_loadPart' hl, wpAny_pyIter_tuple hL
        exact ⟨_, rfl, h⟩
      · wp_walk using wpAny_loadPart' hl, wpAny_pyIter_tuple hL
        exact ⟨_, rfl, h⟩
    · wp_walk using wpAny_loadPart' hl, wpAny_pyIter_tuple hL
      exact ⟨_, rfl, h⟩
theorem call_enumerate_tuple {prog : Program} {w : World} {A : Around} {E : Value → Shared → Prop} {s : Shared} {l : Addr} {items : Array Value} {Q : Value → Shared → Prop} (hL : s.heap.IsTuple l items)
    (h : ∀ h', IsEnum h' (s.heap.objs.size + 1) s.heap.objs.size 0 .none → h'.IsTupleIter s.heap.objs.size l 0 → h'.objs.size = s.heap.objs.size + 2 →
      (∀ b o, s.heap.get? b = some o → h'.get? b = some o) → Q (.ref (s.heap.objs.size + 1)) { s with heap := h' }) :
    wpAny (model prog w) A (call (.type "enumerate") [.ref l]) Q E s := by
  obtain ⟨⟨c, dct, dt, sl⟩, hl, hc, n, hd⟩ := hL
  replace hc : c = .type "tuple" := hc
  replace hd : dt = .seq items n := hd
  subst hc hd
  refine callType_new F.called_enumerate (by decide) (F.typeCall_enumerate_1 _) (F.newCall_enumerate_1 _) (fun obj => F.args_object_init_2 obj _) F.entry_enumerate_new
    (meets_enumerate_newT l items n dct sl) ⟨hl, ?_⟩
  have hz : (s.heap.push { cls := .type "tuple_iterator", data := .fields #[.ref l, .int 0 0] }).objs.size = s.heap.objs.size + 1 := Heap.size_push ..
  show _ ∧ _
  rw [hz]
  have he : IsEnum ((s.heap.push { cls := .type "tuple_iterator", data := .fields #[.ref l, .int 0 0] }).push
      { cls := .type "enumerate", data := .fields #[.none, .bool false, .ref s.heap.objs.size, rawInt 0, .none, .none] }) (s.heap.objs.size + 1) s.heap.objs.size 0 .none := by
    have := Heap.get?_push_size (s.heap.push { cls := .type "tuple_iterator", data := .fields #[.ref l, .int 0 0] })
      (o := { cls := .type "enumerate", data := .fields #[.none, .bool false, .ref s.heap.objs.size, rawInt 0, .none, .none] }) rfl
    rw [hz] at this; exact this
  refine ⟨⟨_, he, rfl⟩, h _ he ⟨_, Heap.get?_push_of_some _ (Heap.get?_push_size _ rfl), rfl, rfl⟩ (by rw [Heap.size_push, hz]) fun b o x => Heap.get?_push_of_some _ (Heap.get?_push_of_some _ x)⟩
theorem pyNext_enumT_end {prog : Program} {w : World} {A : Around} {E : Value → Shared → Prop} {s : Shared} {e it l : Addr} {i : Nat} {items : Array Value} {old : Value} {Q : Option Value → Shared → Prop} (hh : A.handled = none)
    (he : IsEnum s.heap e it i old) (hit : s.heap.IsTupleIter it l i) (hl : s.heap.IsTuple l items) (hx : items[i]? = none)
    (hQ : ∀ h', Heap.ExtBut it s.heap h' → Q none { s with heap := h' }) : wpAny (model prog w) A (pyNext (.ref e)) Q E s := by
  have hT : s.TypeIs (.ref e) "enumerate" := ⟨_, he, rfl⟩
  unfold pyNext
  refine wpAny_bind (wpAny_attempt (wpAny_callSpecial?_slot (name := Str.ofString "__next__") hT F.slot_enumerate_next
    (wpAny_call_entry F.slot_enumerate_next hT F.entry_enumerate_next ?_ (F.args_enumerate_next_1 _))))
  show wpAny _ _ (field (.ref e) 2 >>= _) _ _ _
  refine wpAny_bind (wpAny_field he rfl (x := .ref it) rfl ?_)
  refine wpAny_bind (wpAny_nextOf_tuple_end hh hit hl hx fun h' x he' hx' => ?_)
  obtain ⟨o, ho, hc⟩ := hx'
  refine wpAny_bind (wpAny_isInstance (T := "StopIteration") (b := true) ⟨o, ho, hc⟩ isSubtype_stop ?_)
  exact wpAny_pure (hQ _ he')
/-- the tuple at a, the items in new pairs with their places -/
def IteT (K : PySem.W.Frag) (a : Addr) : It :=
  ⟨fun i H => ∃ (xs : List V) (x : V), SqT K H a xs ∧ xs[i]? = some x, fun i H v H' => ∃ T x, v = .ref T ∧ H T = none ∧ H' = upd H T (.tup [.int (i : Nat), x]) ∧ ∀ xs, SqT K H a xs → xs[i]? = some x, fun i H => ∃ xs, SqT K H a xs ∧ xs.length ≤ i⟩
theorem turn_enumT {P : Program} {w : World} {K : PySem.W.Frag} {elts : List Expr} {kk : Nat} {tpos : Pos} (a e it : Addr) (hei : e ≠ it) (hia : it ≠ a) (hea : e ≠ a) :
    Turn P w K (.Tuple elts kk tpos) (IteT K a) [e, it] e (fun i h => (∃ old, IsEnum h e it ((i : Nat) : Int) old) ∧ h.IsTupleIter it a i ∧ e ≠ it) where
  mem := by simp
  obj := fun i h st b hb => by
    obtain ⟨⟨old, he⟩, ⟨o, ho, hc, hd⟩, _⟩ := st
    have e' : b = e ∨ b = it := by simpa using hb
    rcases e' with z | z
    · rw [z]; exact ⟨_, he, fun v q => nomatch q⟩
    · rw [z]; exact ⟨o, ho, fun v q => by rw [hd] at q; cases q⟩
  keep := fun i h h' st k => let ⟨⟨old, he⟩, hi, hne⟩ := st; ⟨⟨old, k e (by simp) _ he⟩, hi.at fun o q => k it (by simp) o q, hne⟩
  item := by
    intro X hP hw hK hc i pins s σ H E I hf st hg
    subst hP hw hK
    obtain ⟨⟨old, he⟩, hit, hne⟩ := st
    obtain ⟨xs, x, hq, hx⟩ := hg
    obtain ⟨its, rv, p, hz⟩ := I.tuple hq
    obtain ⟨u, hu, ru⟩ := rv.get hx
    have hel : e < s.heap.objs.size := Heap.lt_size he
    have hil : it < s.heap.objs.size := by obtain ⟨_, q, _⟩ := hit; exact Heap.lt_size q
    have DD := Draws.tuple (prog := X.prog) (w := X.w) (A := X.A.in1) (I.ok.hd hc) it a (fun q => hia q.symm) its.toArray
    have hli : i < its.toArray.size := by
      have := (List.getElem?_eq_some_iff.mp hu).1
      simpa using this
    refine wpAny_pyNext_enum_itemC DD he ⟨hit, p⟩ hli hei (by simp [hei, hea]) fun y h' tk hPy ho hit' hT hsz hk => ?_
    have ey : y = u := by
      have : its.toArray[i]? = some u := by simpa using hu
      rw [this] at hPy
      exact (Option.some.inj hPy).symm
    subst ey
    refine ⟨_, rfl, wpAny_letOwnedTupleGo_enum (s := { s with heap := h', toks := tk + 1 }) ho fun h'' he' sb => ?_⟩
    have hT2 : h''.get? s.heap.objs.size = some { cls := .type "tuple", data := .seq #[.int i tk, y] } := (sb.2 _ (Nat.ne_of_gt hel)).trans hT
    have new : ObjOk X.prog X.w (upd H s.heap.objs.size (.tup [.int (i : Nat), x])) h'' s.heap.objs.size (.tup [.int (i : Nat), x]) :=
      ⟨by show 2 ≤ sizeLine; decide, [.int i tk, y], .cons ⟨_, rfl⟩ (.cons ru .nil), ⟨_, hT2, rfl, _, rfl⟩⟩
    have I1 : Inv X pins σ (upd H s.heap.objs.size (.tup [.int (i : Nat), x])) { s with heap := h'', toks := tk + 1 } :=
      I.turnedNew (ch := [e, it]) (fun b ob hb q => (sb.2 b (fun z => hb (by simp [z]))).trans (hk b ob (fun z => hb (by simp [z])) (fun z => hb (by simp [z])) q)) hf (Nat.le_refl _) new
    refine ⟨.ref s.heap.objs.size, _, I1, rfl, ⟨_, x, rfl, I.hok.fresh (Nat.le_refl _), rfl, fun ys hy => by rw [I.tuple_inj hy hq]; exact hx⟩, ⟨⟨y, ?_⟩, hit'.1.at fun o q => (sb.2 it (Ne.symm hne)).trans q, hne⟩, fun b hb => ?_⟩
    · have e1 : ((i + 1 : Nat) : Int) = (i : Int) + 1 := by omega
      rw [e1]; exact he'
    · have hb' : b < s.heap.objs.size := by
        have e' : b = e ∨ b = it := by simpa using hb
        rcases e' with z | z
        · rw [z]; exact hel
        · rw [z]; exact hil
      rw [upd_ne (Nat.ne_of_lt hb')]
      exact (hf b hb).1
  done := by
    intro X hP hw hK hc i pins s σ H E I hf st hg
    subst hP hw hK
    obtain ⟨⟨old, he⟩, hit, hne⟩ := st
    obtain ⟨xs, hq, hx⟩ := hg
    obtain ⟨its, rv, p, hz⟩ := I.tuple hq
    obtain ⟨f0, f1, f2, f3, f4, f5⟩ := hf it (by simp)
    have hl := rv.length
    exact pyNext_enumT_end (I.ok.hd hc) he hit p (by simp; omega) fun h' eb => ⟨rfl, I.turned (t' := s.toks) (fun b o hb q => eb b o hb q) f0 f1 f3 f4 f5⟩
  self := fun A i s Q E st h => let ⟨⟨_, he⟩, _⟩ := st; wpAny_pyIter_enum he h
def iEnumA (K : PySem.W.Frag) (ta : TA) : TI := fun σ H R => ta σ H fun vs H1 => ∃ a xs, vs = [.ref a] ∧ ((SqL K H1 a xs ∧ R (Ite K a) H1) ∨ (SqT K H1 a xs ∧ R (IteT K a) H1))
theorem pi_enumA {X : Cx} {e : Expr} {ta : TA} {p pos tpos : Pos} {elts : List Expr} {kk : Nat} (hg : Gl X "enumerate") (hm : X.mg "enumerate" = none) (ha : PA X [e] ta) (hs : starEach [e] X.env = [(false, eval e X.env)]) :
    PI X (.Tuple elts kk tpos) (.Call (.Name "enumerate" p) [e] [] pos) (iEnumA X.K ta) := by
  refine ⟨fun pins s σ H R I h => ?_⟩
  refine Call_ (ld_blt I hg hm boot_enumerate (PyProof.Rows.callWith_type1 (thn (ha.run pos pins s σ H _ I h) fun us s1 ⟨vs, H1, I1, r1, q1⟩ => ?_) hs rfl))
  obtain ⟨a, xs, ex, q⟩ := q1
  subst ex
  cases r1 with
  | cons r rr =>
    cases rr
    cases r
    have fp : ∀ b, b ∈ [s1.heap.objs.size + 1, s1.heap.objs.size] → FpOk X pins H1 b := fun b hb => by
      have e' : b = s1.heap.objs.size + 1 ∨ b = s1.heap.objs.size := by simpa using hb
      have hle : s1.heap.objs.size ≤ b := by
        rcases e' with z | z
        · rw [z]; exact Nat.le_add_right _ _
        · rw [z]; exact Nat.le_refl _
      exact I1.fpOk hle (I1.hok.fresh hle)
    rcases q with ⟨hq, q⟩ | ⟨hq, q⟩
    · obtain ⟨its, rv, p', hz⟩ := I1.list hq
      refine call_enumerate_list p'.isList fun h' he hit hsz hk => wpAny_pyIter_enum he ?_
      have I2 : Inv X pins σ H1 { s1 with heap := h' } := I1.kept (t' := s1.toks) hk
      exact ⟨s1.heap.objs.size + 1, [s1.heap.objs.size + 1, s1.heap.objs.size], _, _, H1, rfl, I2, turn_enum a (s1.heap.objs.size + 1) s1.heap.objs.size, ⟨⟨.none, he⟩, hit, Nat.succ_ne_self _⟩, fp, q⟩
    · obtain ⟨its, rv, p', hz⟩ := I1.tuple hq
      have hal : a < s1.heap.objs.size := by obtain ⟨o, ho, _⟩ := p'; exact Heap.lt_size ho
      refine call_enumerate_tuple p' fun h' he hit hsz hk => wpAny_pyIter_enum he ?_
      have I2 : Inv X pins σ H1 { s1 with heap := h' } := I1.kept (t' := s1.toks) hk
      exact ⟨s1.heap.objs.size + 1, [s1.heap.objs.size + 1, s1.heap.objs.size], _, _, H1, rfl, I2, turn_enumT a (s1.heap.objs.size + 1) s1.heap.objs.size (Nat.succ_ne_self _) (Nat.ne_of_gt hal) (Nat.ne_of_gt (Nat.lt_succ_of_lt hal)), ⟨⟨.none, he⟩, hit, Nat.succ_ne_self _⟩, fp, q⟩
def enumD (xs : List D) : List D := xs.zipIdx.map fun p => .tup [.int (p.2 : Nat), p.1]
theorem enum_get {xs : List D} {i : Nat} {d : D} (h : (enumD xs)[i]? = some d) : ∃ x, xs[i]? = some x ∧ d = .tup [.int (i : Nat), x] := by
  unfold enumD at h
  rw [List.getElem?_map, List.getElem?_zipIdx] at h
  cases e : xs[i]? with
  | none => rw [e] at h; cases h
  | some x =>
    rw [e] at h
    refine ⟨x, rfl, ?_⟩
    have := (Option.some.inj h).symm
    simpa using this
theorem enum_len {xs : List D} : (enumD xs).length = xs.length := by unfold enumD; simp
def wEnum (a : WE) : WI := fun env S Q X => a env S (fun d S1 => ∃ xs, seqOf S1 d = some xs ∧ Q (enumD xs) (srcOf d xs) S1) X
def DI.enum (a : DE) : DI where
  mt c tg e := isTup tg && match e with
    | .Call (.Name x _) [y] [] _ => x == "enumerate" && glB c "enumerate" && noStar y && a.mt c y
    | _ => false
  wp := wEnum a.wp
  rq Z := Z.mg "enumerate" = none ∧ a.rq Z
  ok X W T tg e h g q := by
    simp only [Bool.and_eq_true] at h
    obtain ⟨ht, h⟩ := h
    cases tg with
    | Tuple elts kk tpos =>
      split at h
      · simp only [Bool.and_eq_true, beq_iff_eq] at h
        obtain ⟨⟨⟨rfl, h1⟩, h2⟩, h3⟩ := h
        refine PI.imp (pi_enumA (gl_of h1) q.1 (pa_cons (a.ok X W T _ h3 g q.2) pa_nil (starEach_cons h2)) (starEach_cons h2)) fun σ H R ⟨env, S, F, ads, Qd, Xd, er, sm, hw, kv, kx⟩ => ?_
        refine ⟨env, S, F, ads, _, Xd, er, sm, hw, fun F1 ads1 S1 H1 d v x1 s1 r1 h1 => ?_, kx⟩
        obtain ⟨xs, hs, hq⟩ := h1
        unfold seqOf at hs
        split at hs
        · rename_i ht
          cases hs
          rw [tupOf_eq ht] at r1 hq
          cases r1 with
          | tup f1 g1 =>
            refine ⟨_, _, rfl, .inr ⟨Sub.tup s1.sub f1, kv _ _ _ _ _ _ _ x1 s1 ?_ hq⟩⟩
            intro F3 ads3 S3 H3 f3 p3 s3 so
            have q1 := Sub.tup s3.sub (Same.tup f3 f1)
            have g1 := g1.mono f3 p3
            refine ⟨fun i d hd => ?_, fun i hi => ⟨_, q1, by rw [← g1.length, ← enum_len (xs := xs)]; exact hi⟩⟩
            obtain ⟨x, ex, rfl⟩ := enum_get hd
            obtain ⟨u, hu, ru⟩ := g1.get ex
            refine ⟨⟨_, u, q1, hu⟩, fun z H4 hy => ?_⟩
            obtain ⟨T, u', rfl, hT, rfl, k1⟩ := hy
            have := k1 _ q1; rw [hu] at this; cases this
            exact new_pair s3 hT (.int _) ru
        · obtain ⟨a1, rfl, l1⟩ := lst_later r1 hs
          obtain ⟨us, hu, gu⟩ := l1 _ _ _ _ (Same.refl _) (fun _ _ h => h) s1 (src_now hs)
          refine ⟨a1, us, rfl, .inl ⟨hu, kv _ _ _ _ _ _ _ x1 s1 ?_ hq⟩⟩
          intro F3 ads3 S3 H3 f3 p3 s3 so
          obtain ⟨us, q1, g1⟩ := l1 _ _ _ _ f3 p3 s3 so
          refine ⟨fun i d hd => ?_, fun i hi => ⟨_, q1, by rw [← g1.length, ← enum_len (xs := xs)]; exact hi⟩⟩
          obtain ⟨x, ex, rfl⟩ := enum_get hd
          obtain ⟨u, hu, ru⟩ := g1.get ex
          refine ⟨⟨_, u, q1, hu⟩, fun z H4 hy => ?_⟩
          obtain ⟨T, u', rfl, hT, rfl, k1⟩ := hy
          have := k1 _ q1; rw [hu] at this; cases this
          exact new_pair s3 hT (.int _) ru
      · cases h
    | _ => cases ht
/-! #### DL10 -/
/-! The D layer, part 10: sorted(rows, key=lambda row: abs(row[place])). -/
def isLamParams : Arguments → Bool
  | ⟨[], [⟨x, none, _⟩], none, [], [], none, []⟩ => x == "row"
  | _ => false
def isLamBody : Expr → Bool
  | .Call (.Name f _) [.Subscript (.Name x _) (.Name y _) _] [] _ => f == "abs" && x == "row" && y == "place"
  | _ => false
def isLamScope (sc : Scope) : Bool := decide (sc.kind = .function) && !sc.isCoroutine && !sc.isGenerator && (sc.names.all fun y => !decide (y.2 = .cell)) &&
  decide (sc.names.lookup ("row" : Str) = some .local) && decide (sc.names.lookup ("place" : Str) = some .free) && decide (sc.names.lookup ("abs" : Str) = some .globalImplicit) && (sc.names.all fun y => !decide (y.2 = .free) || decide (y.1 = ("place" : Str)))
theorem clo_at {cells : List (Str × Addr)} {names : List (Str × NameKind)} {x : Str} {c : Addr} (h : names.lookup x = some .free) (hc : cells.lookup x = some c) : (cloFrom cells names []).lookup x = some c := by
  obtain ⟨c', e⟩ := mem_lookup (cloFrom_has (cells := cells) (acc := []) (PySem.mem_of_lookup h))
  rcases cloFrom_mem (PySem.mem_of_lookup e) with hm | ⟨_, h2⟩
  · cases hm
  · rw [e, h2, hc]; rfl
/-- the lambda's own run -/
theorem lam_run {prog : Program} {w : World} {A : Around} {s : Shared} {mg mb : Str → Option Value} {q : Str} {params : Arguments} {body : Expr} {scope : Scope} {cells : List (Str × Addr)} {pm ctv : Value} {f c' cp t : Addr} {its : Array Value} {pl key : Int} {tp tk : Tok} {j : Nat}
    (hp : isLamParams params = true) (hb : isLamBody body = true) (hs : isLamScope scope = true) (hf : s.heap.get? f = some (PySem.W.kla_obj "<lambda>" q params body scope (cloFrom cells scope.names []) pm c' ctv)) (hcd : s.heap.CodeRec (.ref c') q) (hroom : A.depth < recursionLimit)
    (hg : s.heap.Ns mainGlobals mg) (hgm : mg "abs" = none) (hbn : s.heap.Ns builtinsNs mb) (hbm : mb "abs" = some (.builtin "abs")) (hlim : s.heap.NoLimit)
    (hcp : cells.lookup ("place" : Str) = some cp) (hcell : s.heap.IsCell cp (some (.int pl tp))) (ht : IsTup s.heap t its) (hj : seqIndex? pl its.size = some j) (h1 : -(2 ^ 63) ≤ pl) (h2 : pl < 2 ^ 63) (hx : its[j]? = some (.int key tk)) :
    wpAny (model prog w) A (call (.ref f) [.ref t]) (PySem.W.KeyPure (.int (key.natAbs : Int)) s) (fun _ _ => False) s := by
  unfold isLamScope at hs
  simp only [Bool.and_eq_true, Bool.not_eq_true', decide_eq_true_eq, List.all_eq_true, decide_eq_false_iff_not] at hs
  obtain ⟨⟨⟨⟨⟨⟨⟨k1, k2⟩, k3⟩, k4⟩, k5⟩, k6⟩, k7⟩, _⟩ := hs
  unfold isLamBody at hb
  split at hb
  rotate_left
  · cases hb
  rename_i fn p1 x p2 y p3 p4 p5
  simp only [Bool.and_eq_true, beq_iff_eq] at hb
  obtain ⟨⟨rfl, rfl⟩, rfl⟩ := hb
  unfold isLamParams at hp
  split at hp
  rotate_left
  · cases hp
  rename_i xn pp
  simp only [beq_iff_eq] at hp
  subst hp
  refine wpAny_call (PySem.W.kla_callFunE hroom hf rfl k2 k3 rfl hcd ?_)
  have hbind : bindArgs (PySem.W.kla_fn "<lambda>" q ⟨[], [⟨"row", none, pp⟩], none, [], [], none, []⟩ (.Call (.Name "abs" p1) [.Subscript (.Name "row" p2) (.Name "place" p3) p4] [] p5) scope (cloFrom cells scope.names []) pm (.ref c') ctv) ⟨[Value.ref t], []⟩ = pure [(("row" : Str), Value.ref t)] := rfl
  show wpAny _ _ (bindArgs _ ⟨[Value.ref t], []⟩) _ _ _
  rw [hbind]
  refine wpAny_pure (wpAny_newFunctionEnv (fun x hx => k4 x hx) (fun x hx => by simp at hx; subst hx; exact k5) (fun h₁ hns hsb => ⟨hlim.fresh _ hsb, ?_⟩) k1)
  have kp : ∀ b o, s.heap.get? b = some o → h₁.get? b = some o := fun b o e => hsb.extBut b o (Nat.ne_of_lt (Heap.lt_size e)) (Heap.get?_push_of_some _ e)
  generalize henv : newEnv scope s.heap.objs.size mainGlobals (cloFrom cells scope.names []) (q ++ ".<locals>.") (some f) (.ref c') none builtinsNs = env
  have es : env.scope = scope := by rw [← henv]; rfl
  have eg : env.globals = mainGlobals := by rw [← henv]; rfl
  have eb : env.builtins = builtinsNs := by rw [← henv]; rfl
  have ec : env.cells = cloFrom cells scope.names [] := by rw [← henv]; rfl
  have el : env.locals = s.heap.objs.size := by rw [← henv]; rfl
  have ek : env.scope.kind = .function := by rw [es]; exact k1
  refine PySem.W.kla_codeExpr ?_
  refine wpAny_mono (Q := fun v s' => PySem.W.KeyPure (.int (key.natAbs : Int)) s v s') (E := fun _ _ => False) ?_ (fun v s' hk => hk) fun _ _ z => z.elim
  have r1 : env.kindOf "row" = some .local := by unfold Env.kindOf; rw [es]; exact k5
  have r2 : env.kindOf "place" = some .free := by unfold Env.kindOf; rw [es]; exact k6
  have r3 : env.kindOf "abs" = some .globalImplicit := by unfold Env.kindOf; rw [es]; exact k7
  refine wpAny_Call_Name_kw (Calls.Name_function_global ek r3 (Calls.loadGlobal_builtin (by rw [eg]; exact hg.keeps kp) hgm (by rw [eb]; exact hbn.keeps kp) hbm ?_) (by decide))
  refine PyProof.Rows.callWith_builtin1 ?_ rfl rfl
  refine Calls.spliced_cons (Subscript_ (wpAny_Name (wpAny_loadName_local ek r1 (by rw [el]; exact hns) (v := .ref t) (by simp) ?_) (by decide)))
  refine wpAny_Name (wpAny_loadName_free ek r2 (by rw [ec]; exact clo_at k6 hcp) (hcell.keeps kp) ?_ (by decide)) (by decide)
  have ht' : IsTup h₁ t its := by
    obtain ⟨o, ho, hc, n, hd⟩ := ht
    exact ⟨o, kp _ _ ho, hc, n, hd⟩
  refine subscriptTail_builtinR (x := .int key tk) ht'.typeIs slot_tuple_getitem.lookup (getItem_tuple (j := j) ht' h1 h2 hj hx ⟨rfl, ?_⟩) (by with_unfolding_all rfl)
  refine Calls.spliced_nil ?_
  refine call_abs_int fun u tk' => ⟨h₁, _, rfl, kp, ?_⟩
  have e : (if key < 0 then -key else key) = ((key.natAbs : Nat) : Int) := by split <;> omega
  rw [e]
  exact .int _ _
def keyD (pl : Int) : D → Int
  | .tup row => match atI row pl with
    | some (.int k) => (k.natAbs : Int)
    | _ => 0
  | _ => 0
/-- the rows by the size of one entry, equal ones as they stood -/
def sortD (pl : Int) (ds : List D) : List D := ds.mergeSort fun x y => decide (keyD pl x ≤ keyD pl y)
def wSrt (i : Nat) (a : WE) : WL := fun env S Q X => a env S (fun d S1 => ∃ ds pl, lstOf S1 d = some ds ∧ env[i]? = some (some (.int pl)) ∧ (∀ e ∈ ds, ∃ row k, e = .tup row ∧ atI row pl = some (.int k)) ∧ Q (sortD pl ds) S1) X
def srtB (i : Nat) (a : DE) (c : Sc) : Expr → Bool
  | .Call (.Name f _) [x] [⟨some k, .Lambda ps b sc _, _⟩] _ => f == "sorted" && glB c "sorted" && noStar x && a.mt c x && k == "key" && isLamParams ps && isLamBody b && isLamScope sc && c.N[i]? == some ("place" : Str) && (c.sc.names.lookup ("place" : Str) == some .cell)
  | _ => false
theorem each_of {K : Fg} {F : Hp} {ads : List Addr} : ∀ {ds : List D} {vs : List V} {us : List Value}, Rps K F ads ds vs → Vals vs us → PySem.W.EachIs (fun u (p : D × V) => RelV p.2 u ∧ Rp K F ads p.1 p.2) us (ds.zip vs)
  | _, _, _, .nil, .nil => .nil
  | _, _, _, .cons r t, .cons q u => .cons ⟨q, r⟩ (each_of t u)
theorem of_each {K : Fg} {F : Hp} {ads : List Addr} : ∀ {us : List Value} {bs : List (D × V)}, PySem.W.EachIs (fun u (p : D × V) => RelV p.2 u ∧ Rp K F ads p.1 p.2) us bs → Vals (bs.map (·.2)) us ∧ Rps K F ads (bs.map (·.1)) (bs.map (·.2))
  | _, _, .nil => ⟨.nil, .nil⟩
  | _, _, .cons h t => ⟨.cons h.1 (of_each t).1, .cons h.2 (of_each t).2⟩
def DL.srt (i : Nat) (a : DE) : DL where
  mt c e := srtB i a c e
  wp := wSrt i a.wp
  rq Z := Z.mg "sorted" = none ∧ Z.mg "abs" = none ∧ (∃ c P, Z.code = .ref c ∧ LamX.TabB Z.base Z.mg c P ∧ Z.T = [(P, Z.qual ++ "<lambda>")]) ∧ a.rq Z
  ok X W T e h g q := by
    unfold srtB at h
    split at h
    rotate_left
    · cases h
    rename_i f p1 x k ps b sc lp kp pos
    simp only [Bool.and_eq_true, beq_iff_eq] at h
    obtain ⟨⟨⟨⟨⟨⟨⟨⟨⟨rfl, h1⟩, h2⟩, h3⟩, rfl⟩, h4⟩, h5⟩, h6⟩, h7⟩, h8⟩ := h
    obtain ⟨q1, q2, ⟨cc, PP, qc, TB, qT⟩, q3⟩ := q
    have qT : T = [(PP, X.env.qual ++ "<lambda>")] := qT
    refine ⟨fun pins s σ H Q I h => ?_⟩
    obtain ⟨env, S, F, ads, Qd, Xd, er, sm, hw, kv, kx⟩ := h
    have pa : PA X [x] (tCons (tE (kt X T) X.mg W a.wp) tNil) := pa_cons (a.ok X W T x h3 g q3) pa_nil (starEach_cons h2)
    have hst : starEach [x] X.env = [(false, eval x X.env)] := starEach_cons h2
    refine wpAny_Call_Name_kw (ld_blt (u := .builtin "sorted") I (gl_of h1) q1 (by decide +kernel) ?_ (by decide) (by decide))
    refine PyProof.Rows.callWith_kw (thn (pa.run pos pins s σ H (fun vs H1 => ∃ F1 ads1 S1 d v, vs = [v] ∧ Ext F ads H F1 ads1 H1 ∧ Sim (kt X T) F1 ads1 S1 H1 ∧ Rp (kt X T) F1 ads1 d v ∧ ∃ ds pl, lstOf S1 d = some ds ∧ env[i]? = some (some (.int pl)) ∧ (∀ e ∈ ds, ∃ row k, e = .tup row ∧ atI row pl = some (.int k)) ∧ Qd (sortD pl ds) S1) I
      ⟨env, S, F, ads, _, Xd, er, sm, hw, fun F1 ads1 S1 H1 d v x1 s1 r1 h1 => ⟨F1, ads1, S1, d, v, rfl, x1, s1, r1, h1⟩, kx⟩) fun us s1 ⟨vs, H1, I1, r1, F1, ads1, S1, d, v, ev, x1, sm1, rd, ds, pl, hds, hpl, hall, hq⟩ => ?_) (by rw [hst]; rfl) (by rw [hst]; rfl) rfl rfl
    subst ev
    obtain ⟨u, rfl, ru⟩ : ∃ u, us = [u] ∧ RelV v u := vals1 r1
    obtain ⟨l, vs, rfl, hsq, rvs⟩ := lst_sq sm1 rd hds
    have ru : u = .ref l := ru
    subst ru
    have er1 := er.ext x1
    -- the place
    obtain ⟨vp, hvp, rp⟩ := er1.get i _ hpl
    cases rp
    have vis : Vis X.env.scope "place" := .inr (.inl (by simpa using h8))
    show wpAny _ _ (evalAll [(do let v ← eval (.Lambda ps b sc lp) X.env; standAt pos; pure v)]) _ _ s1
    have h6' := h6
    unfold isLamScope at h6'
    simp only [Bool.and_eq_true, Bool.or_eq_true, Bool.not_eq_true', decide_eq_true_eq, List.all_eq_true, decide_eq_false_iff_not] at h6'
    obtain ⟨⟨⟨⟨⟨⟨⟨j1, j2⟩, j3⟩, j4⟩, j5⟩, j6⟩, j7⟩, j8⟩ := h6'
    have tabs : LamX.Tabs T H1 := fun p hp => by
      obtain ⟨q', t', e1, e2⟩ := sm1.sub _ _ (sm1.tab p hp)
      have e1' : (#[Value.str p.2 0] : Array Value) = #[Value.str q' t'] := e1
      have : p.2 = q' := by
        have := congrArg (fun z : Array Value => z[0]?) e1'
        simpa using (by simpa using this : p.2 = q' ∧ _).1
      rw [this]; exact e2
    have hdef : defaultsOf ps X.env = ([], []) := by
      unfold isLamParams at h4
      split at h4
      · rfl
      · cases h4
    refine wpAny_evalAll_cons (wpAny_bind (LamX.lam_make2 (T := T) I1 TB qc (by rw [qT]; simp) (fun p hp e => by rw [qT] at hp; simp at hp; rw [hp]) tabs hdef (fun y hy e => ?_) fun f c' pm ctv H2 s2 I2 hE hT2 hf hfn hfr hc => wpAny_bind (wpAny_standAt (wpAny_pure (wpAny_evalAll_nil ?_)))))
    · rcases j8 y hy with z | z
      · exact absurd e z
      · rw [z]; exact I1.ok.has _ (.inl h8)
    show wpAny _ _ (call (.builtin "sorted") [.ref l] [(Str.ofString "key", .ref f)]) _ _ s2
    -- the state behind the making
    have keep : ∀ b o, H1 b = some o → isTb o = false → H2 b = some o := fun b o e t => hE b o e fun ps z => by rw [z] at t; cases t
    have sm2 : Sim (kt X T) F1 ads1 S1 H2 := by
      refine ⟨fun b o e => ?_, sm1.tab, sm1.tb2, sm1.len, sm1.nd, fun i a o ha ho => ?_⟩
      · have z := sm1.sub b o e
        cases o with
        | tbl m => obtain ⟨q', hm, rfl⟩ := sm1.tb2 b m e; exact ⟨q', 0, rfl, hT2 (b, q') hm⟩
        | _ => exact keep b _ z rfl
      · have z := sm1.ob i a o ha ho
        obtain ⟨u, hu⟩ := z.there
        refine z.keep (Same.refl _) (fun _ _ h => h) ?_ id
        rw [hu]
        refine keep a u hu ?_
        cases u with
        | tbl m => exact absurd hu (z.noCode.2 m)
        | _ => rfl
    have x2 : Ext F1 ads1 H1 F1 ads1 H2 := ⟨Same.refl _, fun _ _ h => h, fun _ h => .inl h, fun b o e _ t => keep b o e t, fun _ _ _ _ _ z => z⟩
    obtain ⟨l', vs', e', hsq2, rvs2⟩ := lst_sq sm2 rd hds
    cases e'
    obtain ⟨its, rv, pl2, hz⟩ := I2.list hsq2
    obtain ⟨m, hn, hloc⟩ := I2.loc
    obtain ⟨up, rup, lk⟩ := hloc i "place" _ h7 hvp vis
    obtain ⟨tp, rfl⟩ : ∃ t, up = Value.int pl t := rup
    obtain ⟨cp, hcp, hcell⟩ : ∃ c, X.env.cells.lookup ("place" : Str) = some c ∧ s2.heap.IsCell c (some (.int pl tp)) := by
      rcases lk with ⟨k', _⟩ | ⟨_, c, e1, e2⟩
      · have k' : X.env.scope.names.lookup ("place" : Str) = some .local := k'
        rw [show X.env.scope.names.lookup ("place" : Str) = some .cell by simpa using h8] at k'
        cases k'
      · exact ⟨c, e1, e2⟩
    have hcd : s2.heap.CodeRec (.ref c') (X.env.qual ++ "<lambda>") := by
      obtain ⟨⟨oc, ws, t, e1, e2, e3⟩, _⟩ := I2.hok c' _ hc
      exact ⟨c', oc, ws, t, rfl, e1, e2, e3⟩
    obtain ⟨mb, hb1, hb2⟩ := I2.mod.blt
    have each := each_of rvs2 rv
    have zl : (ds.zip vs').length = vs'.length := by rw [List.length_zip, rvs2.length, Nat.min_self]
    refine PySem.W.sorted_key_data (b := false) (fun p : D × V => .int (keyD pl p.1)) pl2.isList each (PySem.W.AllAlike.of fun _ _ => by simp [PySem.W.alike]) (.inr fun d hd => ?_) (by rw [zl]; exact hz) (fun p _ => ?_) (ksk_s1 _ _) (fun _ => ksk_l1 _ _) (fun _ => ksk_t1 _ _) (fun w p hp hm h tk kp => ?_) fun out c h' tk kp _ hD hlen eo => ?_
    · obtain ⟨p, _, rfl⟩ := List.mem_map.mp hd
      exact ⟨by simp, fun xs z => by cases z⟩
    · have := g.un
      simp only [PyData.depth]
      omega
    · -- the key of one row
      obtain ⟨hw1, hw2⟩ := hp
      obtain ⟨row, kk, e1, e2⟩ := hall p.1 (List.of_mem_zip hm).1
      rw [e1] at hw2
      cases hp2 : p.2 with
      | ref t =>
        rw [hp2] at hw1 hw2
        have hw1 : w = .ref t := hw1
        subst hw1
        cases hw2 with
        | tup ht rr =>
          obtain ⟨its2, rv2, pt, hz2⟩ := I2.tuple (Sub.tup sm2.sub ht)
          obtain ⟨z, hz3, rz⟩ := atI_rp rr e2
          cases rz
          obtain ⟨j, g1, g2, g3, g4, g5⟩ := atI_get hz3
          obtain ⟨wz, hwz, rwz⟩ := rv2.get g2
          obtain ⟨tk2, rfl⟩ : ∃ t, wz = Value.int kk t := rwz
          have l63 := line63
          have ek : keyD pl p.1 = (kk.natAbs : Int) := by rw [e1]; unfold keyD; simp only [e2]
          rw [ek]
          have hrm : (X.A.in1.in1).depth < recursionLimit := by have := g.dp; show X.A.depth < recursionLimit; omega
          exact lam_run (s := { s2 with heap := h, toks := tk }) (mg := X.mg) (mb := mb) h4 h5 h6 (kp _ _ hf) (by obtain ⟨a1, a2, a3, a4, b1, b2, b3, b4⟩ := hcd; exact ⟨a1, a2, a3, a4, b1, kp _ _ b2, b3, b4⟩) hrm
            ((I2.mod.glob.keeps I2.bk).keeps kp) q2 ((hb1.keeps I2.bk).keeps kp) ((hb2 _ (by decide)).trans (by decide +kernel)) (I2.nolimit.keeps kp) hcp (hcell.keeps kp) (by obtain ⟨o, o1, o2, n, o3⟩ := pt; exact ⟨o, kp _ _ o1, o2, n, o3⟩)
            (by rw [List.size_toArray, ← rv2.length]; exact g1) (by omega) (by omega) (by simpa using hwz)
      | _ => rw [hp2] at hw2; cases hw2
    · -- the new list
      rw [PySem.W.dataLe_int (β := D × V) (fun p => keyD pl p.1)] at eo
      obtain ⟨o1, o2⟩ := of_each eo
      have esrt : ((ds.zip vs').mergeSort fun a b => decide (keyD pl a.1 ≤ keyD pl b.1)).map (·.1) = sortD pl ds := by
        unfold sortD
        rw [List.map_mergeSort (s := fun x y => decide (keyD pl x ≤ keyD pl y)) (fun a _ b _ => rfl), List.map_fst_zip (by rw [rvs2.length]; exact Nat.le_refl _)]
      rw [esrt] at o2
      have nD : H2 (s2.heap.objs.size + 1) = none := I2.hok.fresh (Nat.le_succ _)
      refine ⟨.ref (s2.heap.objs.size + 1), _, I2.laid (t' := tk) (o := .lst _) (fun b u e => kp b u e) (Nat.le_succ _) ⟨?_, out, c, o1, hD⟩, rfl, kv _ _ _ _ _ _ _ (x1.trans x2) sm2 o2 nD hq⟩
      rw [o1.length, hlen, zl]; exact hz
/-! #### DL11 -/
/-! The D layer, part 11: what the words mean, for simp. -/
theorem z0 (i : Nat) : (DE.var i).wp = wVar i := rfl
theorem z1 (i : Nat) : (DE.frz i).wp = wFrz i := rfl
theorem z2 (d : D) : (DE.con d).wp = wC d := rfl
theorem z3 (x : Str) (i : Int) : (DE.glo x i).wp = wC (.int i) := rfl
theorem z4 : DA.nil.wp = wNil := rfl
theorem z5 (a : DE) (r : DA) : (DA.cons a r).wp = wCons a.wp r.wp := rfl
theorem z6 (o : Operator) (a b : DE) : (DE.op o a b).wp = w2 (opD o) a.wp b.wp := rfl
theorem z7 (a : DE) : (DE.neg a).wp = w1 oNeg a.wp := rfl
theorem z8 (o : CmpOp) (a b : DE) : (DE.cmp o a b).wp = w2 (cmD o) a.wp b.wp := rfl
theorem z9 (o : CmpOp) (a b : DE) : (DT.cmp o a b).wp = wB (w2 (cmD o) a.wp b.wp) := rfl
theorem z10 (o o' : CmpOp) (a b c : DE) : (DE.chn o o' a b c).wp = w3 (cmD o) (cmD o') a.wp b.wp c.wp := rfl
theorem z11 (o o' : CmpOp) (a b c : DE) : (DT.chn o o' a b c).wp = wB (w3 (cmD o) (cmD o') a.wp b.wp c.wp) := rfl
theorem z12 (a : DE) : (DT.val a).wp = wB a.wp := rfl
theorem z13 (a : DT) : (DT.not a).wp = wNotT a.wp := rfl
theorem z14 (o : BoolOp) (a : DT) : (DW.one o a).wp = a.wp := rfl
theorem z15 (o : BoolOp) (a : DT) : (DW.one o a).op = o := rfl
theorem z16 (a : DT) (r : DW) : (DW.cons a r).wp = boolW r.op a.wp r.wp := rfl
theorem z17 (a : DT) (r : DW) : (DW.cons a r).op = r.op := rfl
theorem z18 (r : DW) : (DT.bool r).wp = r.wp := rfl
theorem z19 (a : DE) : (DE.not a).wp = wNotV a.wp := rfl
theorem z20 (o : BoolOp) (a : DE) : (DV.one o a).wp = a.wp := rfl
theorem z21 (o : BoolOp) (a : DE) : (DV.one o a).op = o := rfl
theorem z22 (a : DE) (r : DV) : (DV.cons a r).wp = boolV r.op a.wp r.wp := rfl
theorem z23 (a : DE) (r : DV) : (DV.cons a r).op = r.op := rfl
theorem z24 (r : DV) : (DE.bool r).wp = r.wp := rfl
theorem z25 (t : DT) (a b : DE) : (DE.ite t a b).wp = wIte t.wp a.wp b.wp := rfl
theorem z26 (a b : DE) : (DE.ix a b).wp = w2 oIx a.wp b.wp := rfl
theorem z27 : DO.no.wp = wNo := rfl
theorem z28 (a : DE) : (DO.so a).wp = wSo a.wp := rfl
theorem z29 (a : DE) (lo hi : DO) : (DE.sl a lo hi).wp = wSl a.wp lo.wp hi.wp := rfl
theorem z30 (a : DA) : (DE.tup a).wp = wTup a.wp := rfl
theorem z31 (a : DA) : (DL.dis a).wp = a.wp := rfl
theorem z32 (l : DL) : (DE.lst l).wp = wLst l.wp := rfl
theorem z33 (l : DL) : (DE.thw l).wp = wThw l.wp := rfl
theorem z34 (a : DA) : (DE.len a).wp = wAp oLen a.wp := rfl
theorem z35 (a : DA) : (DE.abs a).wp = wAp oAbs a.wp := rfl
theorem z36 (a : DA) : (DE.sum a).wp = wAp oSum a.wp := rfl
theorem z37 (a : DA) : (DE.all a).wp = wAp oAll a.wp := rfl
theorem z38 (a : DA) : (DE.any a).wp = wAp oAny a.wp := rfl
theorem z39 (a : DA) : (DE.tuple a).wp = wAp oTuple a.wp := rfl
theorem z40 (a : DA) : (DE.int a).wp = wAp oInt a.wp := rfl
theorem z41 (a : DA) : (DE.str a).wp = wAp oStr a.wp := rfl
theorem z42 (a : DA) : (DL.lof a).wp = wLof a.wp := rfl
theorem z43 (a b : DE) : (DL.cat a b).wp = wCat a.wp b.wp := rfl
theorem z44 (a b : DE) : (DL.rep a b).wp = wRep a.wp b.wp := rfl
theorem z45 (a : DE) : (DE.isTuple a).wp = wIsi "tuple" a.wp := rfl
theorem z46 (a : DE) : (DE.isInt a).wp = wIsi "int" a.wp := rfl
theorem z47 (a : DE) : (DE.isBool a).wp = wIsi "bool" a.wp := rfl
theorem z49 (o a : DE) : (DE.append o a).wp = wM1 "list" oAppend o.wp a.wp := rfl
theorem z52 (a : DE) : (DI.seq a).wp = wIseq a.wp := rfl
theorem z53 (a : DE) : (DI.range1 a).wp = wR1 a.wp := rfl
theorem z54 (a b : DE) : (DI.range2 a b).wp = wR2 a.wp b.wp := rfl
theorem z56 (a b : DE) : (DI.zip a b).wp = wZip a.wp b.wp := rfl
theorem z57 (a : DE) : (DI.enum a).wp = wEnum a.wp := rfl
theorem z58 (i : Nat) : (DG.nm i).bd = (fun d env _ => some (env.set i (some d))) := rfl
theorem z59 (r : DGs) : (DG.tp r).bd = (fun d env S => match seqOf S d with | some ds => if ds.length = r.n then r.bd ds env else none | none => none) := rfl
theorem z60 : DGs.nil.n = 0 := rfl
theorem z61 (i : Nat) (r : DGs) : (DGs.cons i r).n = r.n + 1 := rfl
theorem z62 : DF.no.wp = wYes := rfl
theorem z63 (t : DT) : (DF.one t).wp = t.wp := rfl
theorem z64 (own : List (Str × Nat)) (g : DG) (i : DI) (t : DF) (e : DE) : (DL.comp own g i t e).wp = wComp (own.map (·.2)) g.bd i.wp t.wp e.wp := rfl
theorem z65 (i : Nat) (a : DE) : (DL.srt i a).wp = wSrt i a.wp := rfl
theorem z66 : DB.nil.wp = wSkip := rfl
theorem z67 (a : DS) (b : DB) : (DB.cons a b).wp = wSeq a.wp b.wp := rfl
theorem z68 (a : DE) : (DS.expr a).wp = wExpr a.wp := rfl
theorem z69 (a : DE) : (DS.ret a).wp = wRet a.wp := rfl
theorem z70 : DS.pass.wp = wSkip := rfl
theorem z71 : DS.cont.wp = wCont := rfl
theorem z72 (i : Nat) (a : DE) : (DS.set i a).wp = wSet i a.wp := rfl
theorem z73 (i : Nat) (own : List (Str × Nat)) (g : DG) (it : DI) (t : DF) (e : DE) : (DS.setC i own g it t e).wp = wSet i (wLst (wComp (own.map (·.2)) g.bd it.wp t.wp e.wp)) := rfl
theorem z75 (t : DG) (a : DE) : (DS.asg t a).wp = wAsg t.bd a.wp := rfl
theorem z76 (i j : Nat) (a b : DE) : (DS.par i j a b).wp = wPar i j a.wp b.wp := rfl
theorem z77 (o b a : DE) : (DS.sub o b a).wp = wSub a.wp o.wp b.wp := rfl
theorem z78 (t : DT) (a b : DB) : (DS.iff t a b).wp = wIf t.wp a.wp b.wp := rfl
theorem z79 (t : DT) (b : DB) : (DS.while t b).wp = wWhile t.wp b.wp := rfl
theorem z80 (t : DG) (i : DI) (b : DB) : (DS.for t i b).wp = wFor t.bd i.wp b.wp := rfl
theorem z81 (x : Str) : (DS.raise x).wp = wRaise x := rfl
theorem z82 (f : Str) (C : Ct) (a : DA) : (DE.call f C a).wp = wCall C a.wp := rfl
theorem zg0 (env : Env) : DGs.nil.bd [] env = some env := rfl
theorem zg1 (i : Nat) (r : DGs) (d : D) (ds : List D) (env : Env) : (DGs.cons i r).bd (d :: ds) env = r.bd ds (env.set i (some d)) := rfl
theorem atI_0 {α : Type} (a : α) (l : List α) : atI (a :: l) 0 = some a := by simp [atI, ixN]
theorem atI_1 {α : Type} (a b : α) (l : List α) : atI (a :: b :: l) 1 = some b := by
  have : (1 : Int) < (l.length : Int) + 1 + 1 := by omega
  simp [atI, ixN, this]
theorem atI_2 {α : Type} (a b c : α) (l : List α) : atI (a :: b :: c :: l) 2 = some c := by
  have : (2 : Int) < (l.length : Int) + 1 + 1 + 1 := by omega
  simp [atI, ixN, this]
theorem ex_eq {α : Type} {a : α} {p : α → Prop} : (∃ x, some (some a) = some (some x) ∧ p x) ↔ p a := by simp
theorem seqOf_tup (S : Sto) (ds : List D) : seqOf S (.tup ds) = some ds := rfl
theorem seqOf_lst (S : Sto) (ds : List D) : seqOf S (.lst ds) = some ds := rfl
theorem seqOf_scr (S : Sto) (ds : List D) : seqOf S (.scr ds) = some ds := rfl
theorem lstOf_lst (S : Sto) (ds : List D) : lstOf S (.lst ds) = some ds := rfl
theorem lstOf_scr (S : Sto) (ds : List D) : lstOf S (.scr ds) = some ds := rfl
theorem lstX_lst (S : Sto) (ds : List D) : lstX S (.lst ds) = some ds := rfl
theorem tupOf_tup (ds : List D) : tupOf (.tup ds) = some ds := rfl
theorem srcOf_tup (ds es : List D) : srcOf (.tup ds) es = [] := rfl
theorem srcOf_lst (ds es : List D) : srcOf (.lst ds) es = [] := rfl
theorem srcOf_scr (ds es : List D) : srcOf (.scr ds) es = [] := rfl
theorem srcOf_han (i : Nat) (es : List D) : srcOf (.han i) es = [(i, es)] := rfl
theorem srcOk_nil (S : Sto) : srcOk [] S = True := rfl
theorem srcOk_cons (S : Sto) (h : Nat) (ds : List D) (r : Src) : srcOk ((h, ds) :: r) S = (S[h]? = some (.lst ds) ∧ srcOk r S) := rfl
theorem oAdd_ii (i j : Int) (S : Sto) (Q : QD) : oAdd (.int i) (.int j) S Q = Q (.int (i + j)) S := rfl
theorem oAdd_ss (i j : Str) (S : Sto) (Q : QD) : oAdd (.str i) (.str j) S Q = (i.length + j.length ≤ sizeLine ∧ Q (.str (i ++ j)) S) := rfl
theorem oAdd_tt (i j : List D) (S : Sto) (Q : QD) : oAdd (.tup i) (.tup j) S Q = (i.length + j.length ≤ sizeLine ∧ Q (.tup (i ++ j)) S) := rfl
theorem oAdd_ll (i j : List D) (S : Sto) (Q : QD) : oAdd (.lst i) (.lst j) S Q = (i.length + j.length ≤ sizeLine ∧ Q (.lst (i ++ j)) S) := by simp [oAdd, lstX]
theorem oSub_ii (i j : Int) (S : Sto) (Q : QD) : oSub (.int i) (.int j) S Q = Q (.int (i - j)) S := rfl
theorem oMul_ii (i j : Int) (S : Sto) (Q : QD) : oMul (.int i) (.int j) S Q = (IntMulOk i j ∧ Q (.int (i * j)) S) := rfl
theorem oMul_ti (a : List D) (k : Int) (S : Sto) (Q : QD) : oMul (.tup a) (.int k) S Q = (a ≠ [] ∧ -1000 ≤ k ∧ k ≤ 1000 ∧ a.length ≤ 1000 ∧ Q (.tup (List.replicate k.toNat a).flatten) S) := rfl
theorem oMul_si (a : Str) (k : Int) (S : Sto) (Q : QD) : oMul (.str a) (.int k) S Q = ((-1000 ≤ k ∧ k ≤ 1000 ∧ a.length ≤ 1000) ∧ Q (.str (repS a k)) S) := rfl
theorem oDiv_ii (i j : Int) (S : Sto) (Q : QD) : oDiv (.int i) (.int j) S Q = (IntDivOk j ∧ Q (.int (i.fdiv j)) S) := rfl
theorem oMod_ii (i j : Int) (S : Sto) (Q : QD) : oMod (.int i) (.int j) S Q = (j ≠ 0 ∧ Q (.int (i.fmod j)) S) := rfl
theorem oPow_ii (i j : Int) (S : Sto) (Q : QD) : oPow (.int i) (.int j) S Q = ((0 ≤ j ∧ j ≤ 1000000 ∧ i.natAbs < 2 ^ 64) ∧ Q (.int (i ^ j.toNat)) S) := rfl
theorem oNeg_i (i : Int) (S : Sto) (Q : QD) : oNeg (.int i) S Q = Q (.int (-i)) S := rfl
theorem oEq_ii (i j : Int) (S : Sto) (Q : QD) : oEq (.int i) (.int j) S Q = Q (.bl (decide (i = j))) S := rfl
theorem oNe_ii (i j : Int) (S : Sto) (Q : QD) : oNe (.int i) (.int j) S Q = Q (.bl (!decide (i = j))) S := rfl
theorem oEq_ss (i j : Str) (S : Sto) (Q : QD) : oEq (.str i) (.str j) S Q = Q (.bl (decide (i = j))) S := rfl
theorem oNe_ss (i j : Str) (S : Sto) (Q : QD) : oNe (.str i) (.str j) S Q = Q (.bl (!decide (i = j))) S := rfl
theorem oI_ii (f : Int → Int → Bool) (i j : Int) (S : Sto) (Q : QD) : oI f (.int i) (.int j) S Q = Q (.bl (f i j)) S := rfl
theorem oIs_n (x : D) (S : Sto) (Q : QD) : oIs x .non S Q = ∃ b, isNon x = some b ∧ Q (.bl b) S := by cases x <;> rfl
theorem oIsNot_n (x : D) (S : Sto) (Q : QD) : oIsNot x .non S Q = ∃ b, isNon x = some b ∧ Q (.bl (!b)) S := by cases x <;> rfl
theorem oIs_b (a b : Bool) (S : Sto) (Q : QD) : oIs (.bl a) (.bl b) S Q = Q (.bl (decide (a = b))) S := rfl
theorem oIsNot_b (a b : Bool) (S : Sto) (Q : QD) : oIsNot (.bl a) (.bl b) S Q = Q (.bl (!decide (a = b))) S := rfl
theorem isNon_n  : isNon .non = some true := rfl
theorem isNon_b (b : Bool) : isNon (.bl b) = some false := rfl
theorem isNon_i (i : Int) : isNon (.int i) = some false := rfl
theorem isNon_s (i : Str) : isNon (.str i) = some false := rfl
theorem isNon_t (i : List D) : isNon (.tup i) = some false := rfl
theorem isNon_l (i : List D) : isNon (.lst i) = some false := rfl
theorem isNon_h (i : Nat) : isNon (.han i) = some false := rfl
theorem oIx_t (ds : List D) (i : Int) (S : Sto) (Q : QD) : oIx (.tup ds) (.int i) S Q = ∃ d, atI ds i = some d ∧ Q d S := by simp [oIx, seqOf_tup]
theorem oIx_l (ds : List D) (i : Int) (S : Sto) (Q : QD) : oIx (.lst ds) (.int i) S Q = ∃ d, atI ds i = some d ∧ Q d S := by simp [oIx, seqOf_lst]
theorem oIx_s (ds : List D) (i : Int) (S : Sto) (Q : QD) : oIx (.scr ds) (.int i) S Q = ∃ d, atI ds i = some d ∧ Q d S := by simp [oIx, seqOf_scr]
theorem oLen_t (ds : List D) (S : Sto) (Q : QD) : oLen [.tup ds] S Q = Q (.int ds.length) S := by simp [oLen, seqOf_tup]
theorem oLen_l (ds : List D) (S : Sto) (Q : QD) : oLen [.lst ds] S Q = Q (.int ds.length) S := by simp [oLen, seqOf_lst]
theorem oLen_s (ds : List D) (S : Sto) (Q : QD) : oLen [.scr ds] S Q = Q (.int ds.length) S := by simp [oLen, seqOf_scr]
theorem oLen_str (z : Str) (S : Sto) (Q : QD) : oLen [.str z] S Q = (z.length ≤ sizeLine ∧ Q (.int z.length) S) := rfl
theorem oAbs_i (i : Int) (S : Sto) (Q : QD) : oAbs [.int i] S Q = Q (.int i.natAbs) S := rfl
theorem oTuple_l (ds : List D) (S : Sto) (Q : QD) : oTuple [.lst ds] S Q = Q (.tup ds) S := by simp [oTuple, seqOf_lst]
theorem oTuple_t (ds : List D) (S : Sto) (Q : QD) : oTuple [.tup ds] S Q = Q (.tup ds) S := by simp [oTuple, seqOf_tup]
theorem oSl_t (lo hi : Option Int) (ds : List D) (S : Sto) (Q : QD) : oSl lo hi (.tup ds) S Q = Q (.tup (cutD ds lo hi)) S := rfl
theorem oSl_l (lo hi : Option Int) (ds : List D) (S : Sto) (Q : QD) : oSl lo hi (.lst ds) S Q = Q (.lst (cutD ds lo hi)) S := by simp [oSl, lstOf_lst]
theorem oInt_i (i : Int) (S : Sto) (Q : QD) : oInt [.int i] S Q = Q (.int i) S := rfl
theorem oInt_b (b : Bool) (S : Sto) (Q : QD) : oInt [.bl b] S Q = Q (.int (if b then 1 else 0)) S := rfl
theorem compGo_nil (bd : D → Env → Sto → Option Env) (t : WT) (e : WE) (env : Env) (src : Src) (S : Sto) (acc : List D) (Q : QL) : compGo bd t e env src [] S acc Q = (srcOk src S ∧ Q acc S) := rfl
theorem compGo_cons (bd : D → Env → Sto → Option Env) (t : WT) (e : WE) (env : Env) (src : Src) (d : D) (ds : List D) (S : Sto) (acc : List D) (Q : QL) : compGo bd t e env src (d :: ds) S acc Q = (srcOk src S ∧ ∃ env', bd d env S = some env' ∧ t env' S (fun b S1 => if b = true then e env' S1 (fun x S2 => compGo bd t e env src ds S2 (acc ++ [x]) Q) noX else compGo bd t e env src ds S1 acc Q) noX) := rfl
theorem forGo_nil (bd : D → Env → Sto → Option Env) (b : WS) (E : DEnds) (src : Src) (env : Env) (S : Sto) : forGo bd b E src [] env S = (srcOk src S ∧ E.nx env S) := rfl
theorem forGo_cons (bd : D → Env → Sto → Option Env) (b : WS) (E : DEnds) (src : Src) (d : D) (ds : List D) (env : Env) (S : Sto) : forGo bd b E src (d :: ds) env S = (srcOk src S ∧ ∃ env', bd d env S = some env' ∧ b { E with nx := forGo bd b E src ds, ct := forGo bd b E src ds, bk := E.nx } env' S) := rfl
theorem wipeD_nil (env : Env) : wipeD env [] = env := rfl
theorem wipeD_cons (env : Env) (v : Nat) (vs : List Nat) : wipeD env (v :: vs) = (wipeD env vs).set v none := rfl
theorem range_3  : rangeD 0 (3 : Nat) = [.int 0, .int 1, .int 2] := rfl
theorem range_2  : rangeD 0 (2 : Nat) = [.int 0, .int 1] := rfl
theorem range_1  : rangeD 0 (1 : Nat) = [.int 0] := rfl
theorem enumD_nil  : enumD [] = [] := rfl
theorem enumD_1 (a : D) : enumD [a] = [.tup [.int 0, a]] := rfl
theorem enumD_2 (a b : D) : enumD [a, b] = [.tup [.int 0, a], .tup [.int 1, b]] := rfl
theorem enumD_3 (a b c : D) : enumD [a, b, c] = [.tup [.int 0, a], .tup [.int 1, b], .tup [.int 2, c]] := rfl
theorem zipD_nil  : zipD [] [] = [] := rfl
theorem zipD_cons (a b : D) (r s : List D) : zipD (a :: r) (b :: s) = .tup [a, b] :: zipD r s := rfl
theorem ex_and {α : Type} {a : Prop} {p : α → Prop} : (∃ x, a ∧ p x) ↔ a ∧ ∃ x, p x := exists_and_left
/-! #### DL12 -/
/-! The D layer, part 12: loops by invariants, whole numbers in rows. -/
theorem compGo_map {α : Type} {bd : D → Env → Sto → Option Env} {t : WT} {e : WE} {env : Env} {src : Src} {S : Sto} {Q : QL} (enc : α → D) (P : α → Bool) (g : α → D) (hs : srcOk src S) : ∀ (L : List α) (acc : List D),
    (∀ a ∈ L, ∃ env', bd (enc a) env S = some env' ∧ (∀ Qb : QB, Qb (P a) S → t env' S Qb noX) ∧ (P a = true → ∀ Qd : QD, Qd (g a) S → e env' S Qd noX)) →
    Q (acc ++ (L.filter P).map g) S → compGo bd t e env src (L.map enc) S acc Q
  | [], acc, _, hq => ⟨hs, by simpa using hq⟩
  | a :: L, acc, h, hq => by
    obtain ⟨env', hb, ht, he⟩ := h a List.mem_cons_self
    refine ⟨hs, env', hb, ht _ ?_⟩
    cases hp : P a with
    | false =>
      rw [if_neg (by simp)]
      refine compGo_map enc P g hs L acc (fun x hx => h x (List.mem_cons_of_mem _ hx)) ?_
      rw [List.filter_cons, hp] at hq
      simpa using hq
    | true =>
      rw [if_pos rfl]
      refine he hp _ ?_
      refine compGo_map enc P g hs L (acc ++ [g a]) (fun x hx => h x (List.mem_cons_of_mem _ hx)) ?_
      rw [List.filter_cons, hp] at hq
      simpa using hq
/-- .. no test -/
theorem compGo_all {α : Type} {bd : D → Env → Sto → Option Env} {e : WE} {env : Env} {src : Src} {S : Sto} {Q : QL} (enc : α → D) (g : α → D) (hs : srcOk src S) (L : List α)
    (h : ∀ a ∈ L, ∃ env', bd (enc a) env S = some env' ∧ (∀ Qd : QD, Qd (g a) S → e env' S Qd noX))
    (hq : Q (L.map g) S) : compGo bd (fun _ S Q _ => Q true S) e env src (L.map enc) S [] Q :=
  compGo_map enc (fun _ => true) g hs L [] (fun a ha => let ⟨env', hb, he⟩ := h a ha; ⟨env', hb, fun _ q => q, fun _ => he⟩) (by rw [List.filter_eq_self.mpr (fun _ _ => rfl)]; exact hq)
theorem compGo_all0 {α : Type} {bd : D → Env → Sto → Option Env} {e : WE} {env : Env} {S : Sto} {Q : QL} (enc : α → D) (g : α → D) (L : List α)
    (h : ∀ a ∈ L, ∃ env', bd (enc a) env S = some env' ∧ (∀ Qd : QD, Qd (g a) S → e env' S Qd noX))
    (hq : Q (L.map g) S) : compGo bd wYes e env [] (L.map enc) S [] Q := compGo_all (src := []) enc g True.intro L h hq
theorem compGo_map0 {α : Type} {bd : D → Env → Sto → Option Env} {t : WT} {e : WE} {env : Env} {S : Sto} {Q : QL} (enc : α → D) (P : α → Bool) (g : α → D) (L : List α)
    (h : ∀ a ∈ L, ∃ env', bd (enc a) env S = some env' ∧ (∀ Qb : QB, Qb (P a) S → t env' S Qb noX) ∧ (P a = true → ∀ Qd : QD, Qd (g a) S → e env' S Qd noX))
    (hq : Q ((L.filter P).map g) S) : compGo bd t e env [] (L.map enc) S [] Q := compGo_map (src := []) enc P g True.intro L [] h hq
theorem compGo_inv {bd : D → Env → Sto → Option Env} {t : WT} {e : WE} {env : Env} {src : Src} {Q : QL} (I : List D → List D → Sto → Prop)
    (h : ∀ d ds acc S, I (d :: ds) acc S → srcOk src S ∧ ∃ env', bd d env S = some env' ∧ ∀ (Qt Qf : D → Sto → Prop), (∀ x S2, I ds (acc ++ [x]) S2 → Qt x S2) → (∀ S2, I ds acc S2 → Qf .non S2) → t env' S (fun b S1 => if b = true then e env' S1 Qt noX else Qf .non S1) noX)
    (hq : ∀ acc S, I [] acc S → srcOk src S ∧ Q acc S) : ∀ (L : List D) (acc : List D) (S : Sto), I L acc S → compGo bd t e env src L S acc Q
  | [], acc, S, hi => hq acc S hi
  | d :: ds, acc, S, hi => by
    obtain ⟨hs, env', hb, ht⟩ := h d ds acc S hi
    exact ⟨hs, env', hb, ht (fun x S2 => compGo bd t e env src ds S2 (acc ++ [x]) Q) (fun _ S2 => compGo bd t e env src ds S2 acc Q) (fun x S2 hx => compGo_inv I h hq ds _ S2 hx) (fun S2 hx => compGo_inv I h hq ds _ S2 hx)⟩
theorem forGo_inv {bd : D → Env → Sto → Option Env} {b : WS} {E : DEnds} {src : Src} (I : List D → Env → Sto → Prop)
    (h : ∀ d ds env S, I (d :: ds) env S → srcOk src S ∧ ∃ env', bd d env S = some env' ∧ ∀ nx : Env → Sto → Prop, (∀ env S, I ds env S → nx env S) → b { E with nx := nx, ct := nx, bk := E.nx } env' S)
    (hq : ∀ env S, I [] env S → srcOk src S ∧ E.nx env S) : ∀ (L : List D) (env : Env) (S : Sto), I L env S → forGo bd b E src L env S
  | [], env, S, hi => hq env S hi
  | d :: ds, env, S, hi => by
    obtain ⟨hs, env', hb, ht⟩ := h d ds env S hi
    exact ⟨hs, env', hb, ht _ fun env S hx => forGo_inv I h hq ds env S hx⟩
theorem while_inv {t : WT} {b : WS} {E : DEnds} (I : Nat → Env → Sto → Prop)
    (h : ∀ m env S, I m env S → ∀ nx : Env → Sto → Prop, (∀ m', m' < m → ∀ env S, I m' env S → nx env S) → t env S (fun k S1 => if k = true then b { E with nx := nx, ct := nx, bk := E.nx } env S1 else E.nx env S1) (fun x S1 => E.xq x env S1)) {m : Nat} {env : Env} {S : Sto} (hi : I m env S) : wWhile t b E env S := by
  refine ⟨m + 1, ?_⟩
  have key : ∀ n m env S, m < n → I m env S → whileGo t b E n env S := by
    intro n
    induction n with
    | zero => intro m _ _ h0; omega
    | succ n ih =>
      intro m env S hm hi
      exact h m env S hi _ fun m' hm' env S hi' => ih m' env S (by omega) hi'
  exact key _ m env S (by omega) hi
/-! ### rows of whole numbers -/
def VE (v : List Int) : D := .tup (v.map .int)
theorem VE_eq (v : List Int) : VE v = .tup (v.map .int) := rfl
theorem atI_nat {α : Type} (l : List α) (i : Nat) : atI l (i : Int) = l[i]? := by
  unfold atI ixN
  rw [if_pos (by omega)]
  by_cases h : (i : Int) < l.length
  · rw [if_pos h]; simp
  · rw [if_neg h, List.getElem?_eq_none (by omega)]; rfl
theorem atI_some {α : Type} {l : List α} {i : Nat} (h : i < l.length) : atI l (i : Int) = some l[i] := by rw [atI_nat, List.getElem?_eq_getElem h]
theorem atI_map {α β : Type} (f : α → β) (l : List α) (i : Int) : atI (l.map f) i = (atI l i).map f := by
  unfold atI
  rw [List.length_map]
  cases ixN l.length i with
  | none => rfl
  | some j => simp
theorem zipD_map {α β : Type} (f : α → D) (g : β → D) : ∀ (u : List α) (v : List β), zipD (u.map f) (v.map g) = (u.zip v).map fun p => .tup [f p.1, g p.2]
  | [], _ => rfl
  | _ :: _, [] => rfl
  | a :: u, b :: v => by
    show D.tup [f a, g b] :: zipD (u.map f) (v.map g) = _
    rw [zipD_map f g u v]; rfl
def zipP (d d2 : D) (S : Sto) (Q : QI) : Prop := ∃ xs ys, ((tupOf d = some xs ∧ tupOf d2 = some ys) ∨ (lstOf S d = some xs ∧ lstOf S d2 = some ys)) ∧ Q (zipD xs ys) (srcOf d xs ++ srcOf d2 ys) S
theorem wZip_eq (a b : WE) (env : Env) (S : Sto) (Q : QI) (X : XD) : wZip a b env S Q X = a env S (fun d S1 => b env S1 (fun d2 S2 => zipP d d2 S2 Q) X) X := rfl
theorem zip_tt (xs ys : List D) (S : Sto) (Q : QI) : zipP (.tup xs) (.tup ys) S Q = Q (zipD xs ys) [] S := by
  apply propext
  constructor
  · rintro ⟨a, b, (⟨ha, hb⟩ | ⟨ha, hb⟩), h⟩
    · cases ha; cases hb; exact h
    · cases ha
  · exact fun h => ⟨xs, ys, .inl ⟨rfl, rfl⟩, h⟩
theorem zip_ll (xs ys : List D) (S : Sto) (Q : QI) : zipP (.lst xs) (.lst ys) S Q = Q (zipD xs ys) [] S := by
  apply propext
  constructor
  · rintro ⟨a, b, (⟨ha, hb⟩ | ⟨ha, hb⟩), h⟩
    · cases ha
    · cases ha; cases hb; exact h
  · exact fun h => ⟨xs, ys, .inr ⟨rfl, rfl⟩, h⟩
theorem ty_n (S : Sto) : tyD S .non = some "NoneType" := rfl
theorem ty_b (S : Sto) (b : Bool) : tyD S (.bl b) = some "bool" := rfl
theorem ty_i (S : Sto) (b : Int) : tyD S (.int b) = some "int" := rfl
theorem ty_s (S : Sto) (b : Str) : tyD S (.str b) = some "str" := rfl
theorem ty_t (S : Sto) (b : List D) : tyD S (.tup b) = some "tuple" := rfl
theorem ty_l (S : Sto) (b : List D) : tyD S (.lst b) = some "list" := rfl
theorem ty_f (S : Sto) (b : _) : tyD S (.flt b) = some "float" := rfl
theorem kit_ii : kitB "int" "int" = some true := rfl
theorem kit_ib : kitB "int" "bool" = some false := rfl
theorem kit_bb : kitB "bool" "bool" = some true := rfl
theorem kit_bi : kitB "bool" "int" = some true := rfl
theorem kit_it : kitB "int" "tuple" = some false := rfl
theorem kit_tt : kitB "tuple" "tuple" = some true := rfl
theorem kit_ti : kitB "tuple" "int" = some false := rfl
theorem kit_tb : kitB "tuple" "bool" = some false := rfl
theorem kit_lt : kitB "list" "tuple" = some false := rfl
theorem kit_li : kitB "list" "int" = some false := rfl
theorem kit_st : kitB "str" "tuple" = some false := rfl
theorem kit_si : kitB "str" "int" = some false := rfl
theorem kit_ss : kitB "str" "str" = some true := rfl
theorem kit_nt : kitB "NoneType" "tuple" = some false := rfl
theorem kit_ni : kitB "NoneType" "int" = some false := rfl
theorem kit_fi : kitB "float" "int" = some false := rfl
theorem kit_ft : kitB "float" "tuple" = some false := rfl
theorem kit_is : kitB "int" "str" = some false := rfl
theorem kit_ns : kitB "NoneType" "str" = some false := rfl
theorem kit_bt : kitB "bool" "tuple" = some false := rfl
theorem oLen_V (v : List Int) (S : Sto) (Q : QD) : oLen [VE v] S Q = Q (.int v.length) S := by rw [VE_eq, oLen_t, List.length_map]
theorem oSum_l (ns : List Int) (S : Sto) (Q : QD) (h : Q (.int ns.sum) S) : oSum [.lst (ns.map .int)] S Q := ⟨ns, rfl, h⟩
theorem oAll_l (bs : List Bool) (S : Sto) (Q : QD) (h : Q (.bl (bs.all id)) S) : oAll [.lst (bs.map .bl)] S Q := ⟨bs, rfl, h⟩
theorem oAny_l (bs : List Bool) (S : Sto) (Q : QD) (h : Q (.bl (bs.any id)) S) : oAny [.lst (bs.map .bl)] S Q := ⟨bs, rfl, h⟩
/-! ### what is compared -/
structure Enc (α : Type) [DecidableEq α] where
  e : α → D
  p : α → PyData
  n : Nat
  hp : ∀ a, pyD (e a) = some (p a)
  lay : ∀ a, (p a).canLay0 = true
  dp : ∀ a, (p a).depth ≤ n
  eq : ∀ a b, PyData.eqv (p a) (p b) = decide (a = b)
theorem Enc.hps {α : Type} [DecidableEq α] (E : Enc α) : ∀ l : List α, pyDs (l.map E.e) = some (l.map E.p)
  | [] => rfl
  | a :: l => by
    show (match pyD (E.e a), pyDs (l.map E.e) with | some p, some ps => some (p :: ps) | _, _ => none) = _
    rw [E.hp, E.hps l]; rfl
theorem Enc.lays {α : Type} [DecidableEq α] (E : Enc α) : ∀ l : List α, PyData.canLayAll0 (l.map E.p) = true
  | [] => rfl
  | a :: l => by
    show (PyData.canLay0 (E.p a) && PyData.canLayAll0 (l.map E.p)) = true
    rw [E.lay, E.lays l]; rfl
theorem Enc.dps {α : Type} [DecidableEq α] (E : Enc α) : ∀ l : List α, PyData.depthAll (l.map E.p) ≤ E.n
  | [] => Nat.zero_le _
  | a :: l => by
    show max (PyData.depth (E.p a)) (PyData.depthAll (l.map E.p)) ≤ _
    have := E.dp a; have := E.dps l; omega
theorem Enc.eqs {α : Type} [DecidableEq α] (E : Enc α) : ∀ l m : List α, PyData.eqvAll (l.map E.p) (m.map E.p) = decide (l = m)
  | [], [] => by simp [PyData.eqvAll]
  | [], b :: m => by simp [PyData.eqvAll]
  | a :: l, [] => by simp [PyData.eqvAll]
  | a :: l, b :: m => by
    have := E.eqs l m
    simp only [List.map_cons, PyData.eqvAll, E.eq, this, List.cons.injEq, Bool.decide_and]
def eI : Enc Int := ⟨.int, .int, 0, fun _ => rfl, fun _ => rfl, fun _ => Nat.le_refl _, fun a b => by simp [PyData.eqv]; rfl⟩
def eT {α : Type} [DecidableEq α] (E : Enc α) : Enc (List α) := ⟨fun l => .tup (l.map E.e), fun l => .tuple (l.map E.p), E.n + 1, fun l => by simp [pyD, E.hps], fun l => by simpa [PyData.canLay0] using E.lays l, fun l => by have := E.dps l; simp only [PyData.depth]; omega, fun a b => by simp only [PyData.eqv, E.eqs]⟩
def eL {α : Type} [DecidableEq α] (E : Enc α) : Enc (List α) := ⟨fun l => .lst (l.map E.e), fun l => .list (l.map E.p), E.n + 1, fun l => by simp [pyD, E.hps], fun l => by simpa [PyData.canLay0] using E.lays l, fun l => by have := E.dps l; simp only [PyData.depth]; omega, fun a b => by simp only [PyData.eqv, E.eqs]⟩
theorem oNe_T {α : Type} [DecidableEq α] (E : Enc α) (hn : E.n ≤ 60) (a b : List α) (S : Sto) (Q : QD) (h : Q (.bl (!decide (a = b))) S) : oNe (.tup (a.map E.e)) (.tup (b.map E.e)) S Q := by
  refine ⟨(eT E).p a, (eT E).p b, (eT E).hp a, (eT E).hp b, ?_, ?_, ?_⟩
  · unfold SeqAt.shaped; rw [(eT E).lay]; have := (eT E).dp a; have e : (eT E).n = E.n + 1 := rfl; simp; omega
  · unfold SeqAt.shaped; rw [(eT E).lay]; have := (eT E).dp b; have e : (eT E).n = E.n + 1 := rfl; simp; omega
  · rw [(eT E).eq]; exact h
theorem oEq_L {α : Type} [DecidableEq α] (E : Enc α) (hn : E.n ≤ 60) (a b : List α) (S : Sto) (Q : QD) (h : Q (.bl (decide (a = b))) S) : oEq (.lst (a.map E.e)) (.lst (b.map E.e)) S Q := by
  refine ⟨(eL E).p a, (eL E).p b, (eL E).hp a, (eL E).hp b, ?_, ?_, ?_⟩
  · unfold SeqAt.shaped; rw [(eL E).lay]; have := (eL E).dp a; have e : (eL E).n = E.n + 1 := rfl; simp; omega
  · unfold SeqAt.shaped; rw [(eL E).lay]; have := (eL E).dp b; have e : (eL E).n = E.n + 1 := rfl; simp; omega
  · rw [(eL E).eq]; exact h
theorem oNe_L {α : Type} [DecidableEq α] (E : Enc α) (hn : E.n ≤ 60) (a b : List α) (S : Sto) (Q : QD) (h : Q (.bl (!decide (a = b))) S) : oNe (.lst (a.map E.e)) (.lst (b.map E.e)) S Q := by
  refine ⟨(eL E).p a, (eL E).p b, (eL E).hp a, (eL E).hp b, ?_, ?_, ?_⟩
  · unfold SeqAt.shaped; rw [(eL E).lay]; have := (eL E).dp a; have e : (eL E).n = E.n + 1 := rfl; simp; omega
  · unfold SeqAt.shaped; rw [(eL E).lay]; have := (eL E).dp b; have e : (eL E).n = E.n + 1 := rfl; simp; omega
  · rw [(eL E).eq]; exact h
def eV : Enc (List Int) := eT eI
theorem oNe_V (a b : List Int) (S : Sto) (Q : QD) (h : Q (.bl (!decide (a = b))) S) : oNe (VE a) (VE b) S Q := oNe_T eI (by decide) a b S Q h
theorem oEq_Ml (a b : List (List Int)) (S : Sto) (Q : QD) (h : Q (.bl (decide (a = b))) S) : oEq (.lst (a.map VE)) (.lst (b.map VE)) S Q := oEq_L eV (by decide) a b S Q h
theorem oNe_Ml (a b : List (List Int)) (S : Sto) (Q : QD) (h : Q (.bl (!decide (a = b))) S) : oNe (.lst (a.map VE)) (.lst (b.map VE)) S Q := oNe_L eV (by decide) a b S Q h
/-! ### sizes -/
def Sm (k : Nat) (a : Int) : Prop := a.natAbs < 2 ^ k
theorem Sm.mono {j k : Nat} {a : Int} (h : Sm j a) (hk : j ≤ k) : Sm k a := Nat.lt_of_lt_of_le h (Nat.pow_le_pow_right (by omega) hk)
theorem Sm.mul {j k : Nat} {a b : Int} (h : Sm j a) (g : Sm k b) : Sm (j + k) (a * b) := by
  unfold Sm at *
  rw [Int.natAbs_mul, Nat.pow_add]
  exact Nat.mul_lt_mul'' h g
theorem Sm.add {j k : Nat} {a b : Int} (h : Sm j a) (g : Sm k b) : Sm (max j k + 1) (a + b) := by
  have h1 := h.mono (Nat.le_max_left j k)
  have h2 := g.mono (Nat.le_max_right j k)
  unfold Sm at *
  rw [Nat.pow_succ]
  omega
theorem Sm.neg {j : Nat} {a : Int} (h : Sm j a) : Sm j (-a) := by unfold Sm at *; rw [Int.natAbs_neg]; exact h
theorem Sm.sub {j k : Nat} {a b : Int} (h : Sm j a) (g : Sm k b) : Sm (max j k + 1) (a - b) := by
  rw [Int.sub_eq_add_neg]; exact h.add g.neg
theorem Sm.ok {j k : Nat} {a b : Int} (h : Sm j a) (g : Sm k b) (hk : j + k ≤ 999990) : IntMulOk a b :=
  (wide_mul (h.mono (Nat.le_succ j)) (g.mono (Nat.le_succ k)) (by omega) (by omega) (by omega)).ok
theorem Sm.div {j : Nat} {a : Int} (h : Sm j a) (h0 : a ≠ 0) (hj : j ≤ 8990) : IntDivOk a := by
  refine ⟨h0, ?_⟩
  have : a.natAbs.log2 < 9000 := (Nat.log2_lt (by omega)).mpr (Nat.lt_of_lt_of_le h (Nat.pow_le_pow_right (by omega) (by omega)))
  exact this
theorem Sm.of {a : Int} {B : Nat} (k : Nat) (h : a.natAbs ≤ B) (hk : B < 2 ^ k) : Sm k a := Nat.lt_of_le_of_lt h hk
theorem szLe {n : Nat} (h : n ≤ 16777216) : n ≤ sizeLine := by rw [sizeLine_eq]; omega
theorem cut_to {xs : List D} (k : Nat) : cutD xs none (some (k : Int)) = xs.take k := by
  unfold cutD
  rw [HT.sIx_nat, HT.sIx_none]
  simp only [List.drop_zero, Nat.sub_zero]
  rw [List.take_eq_take_iff]; omega
theorem cut_from {xs : List D} (k : Nat) : cutD xs (some (k : Int)) none = xs.drop k := by
  unfold cutD
  rw [HT.sIx_nat, HT.sIx_none]
  by_cases h : k ≤ xs.length
  · rw [Nat.min_eq_left h, List.take_of_length_le]; simp
  · rw [Nat.min_eq_right (by omega), List.drop_eq_nil_of_le (by omega), List.drop_eq_nil_of_le (by omega)]; simp
theorem cut_t0 (xs : List D) : cutD xs none (some 0) = [] := cut_to (xs := xs) 0
theorem cut_t1 (xs : List D) : cutD xs none (some 1) = xs.take 1 := cut_to 1
theorem cut_t2 (xs : List D) : cutD xs none (some 2) = xs.take 2 := cut_to 2
theorem cut_f1 (xs : List D) : cutD xs (some 1) none = xs.drop 1 := cut_from 1
theorem cut_f2 (xs : List D) : cutD xs (some 2) none = xs.drop 2 := cut_from 2
theorem cut_f3 (xs : List D) : cutD xs (some 3) none = xs.drop 3 := cut_from 3
theorem m2_0 : Int.fmod 0 2 = 0 := rfl
theorem m2_1 : Int.fmod 1 2 = 1 := rfl
theorem m2_2 : Int.fmod 2 2 = 0 := rfl
theorem sm_lit (a : Int) (h : a.natAbs < 64) : Sm 6 a := h
theorem oNe_bb (a b : Bool) (S : Sto) (Q : QD) (h : Q (.bl (!decide (a = b))) S) : oNe (.bl a) (.bl b) S Q :=
  ⟨.bool a, .bool b, rfl, rfl, rfl, rfl, by rw [show PyData.eqv (.bool a) (.bool b) = decide (a = b) by cases a <;> cases b <;> rfl]; exact h⟩
/-! #### DL13 -/
/-! The D layer, part 13: what the words ask; defs with a known code object. -/
theorem q0 (i : Nat) (Z : Cy) : (DE.var i).rq Z = (True) := rfl
theorem q1 (i : Nat) (Z : Cy) : (DE.frz i).rq Z = (True) := rfl
theorem q2 (d : D) (Z : Cy) : (DE.con d).rq Z = (True) := rfl
theorem q3 (x : Str) (i : Int) (Z : Cy) : (DE.glo x i).rq Z = (∃ t, Z.mg x = some (.int i t)) := rfl
theorem q4  (Z : Cy) : DA.nil.rq Z = (True) := rfl
theorem q5 (a : DE) (r : DA) (Z : Cy) : (DA.cons a r).rq Z = (a.rq Z ∧ r.rq Z) := rfl
theorem q6 (o : Operator) (a b : DE) (Z : Cy) : (DE.op o a b).rq Z = (a.rq Z ∧ b.rq Z) := rfl
theorem q7 (a : DE) (Z : Cy) : (DE.neg a).rq Z = (a.rq Z) := rfl
theorem q8 (o : CmpOp) (a b : DE) (Z : Cy) : (DE.cmp o a b).rq Z = (a.rq Z ∧ b.rq Z) := rfl
theorem q9 (o : CmpOp) (a b : DE) (Z : Cy) : (DT.cmp o a b).rq Z = (a.rq Z ∧ b.rq Z) := rfl
theorem q10 (o o' : CmpOp) (a b c : DE) (Z : Cy) : (DE.chn o o' a b c).rq Z = (a.rq Z ∧ b.rq Z ∧ c.rq Z) := rfl
theorem q11 (o o' : CmpOp) (a b c : DE) (Z : Cy) : (DT.chn o o' a b c).rq Z = (a.rq Z ∧ b.rq Z ∧ c.rq Z) := rfl
theorem q12 (a : DE) (Z : Cy) : (DT.val a).rq Z = (a.rq Z) := rfl
theorem q13 (a : DT) (Z : Cy) : (DT.not a).rq Z = (a.rq Z) := rfl
theorem q14 (o : BoolOp) (a : DT) (Z : Cy) : (DW.one o a).rq Z = (a.rq Z) := rfl
theorem q15 (a : DT) (r : DW) (Z : Cy) : (DW.cons a r).rq Z = (a.rq Z ∧ r.rq Z) := rfl
theorem q16 (r : DW) (Z : Cy) : (DT.bool r).rq Z = (r.rq Z) := rfl
theorem q17 (a : DE) (Z : Cy) : (DE.not a).rq Z = (a.rq Z) := rfl
theorem q18 (o : BoolOp) (a : DE) (Z : Cy) : (DV.one o a).rq Z = (a.rq Z) := rfl
theorem q19 (a : DE) (r : DV) (Z : Cy) : (DV.cons a r).rq Z = (a.rq Z ∧ r.rq Z) := rfl
theorem q20 (r : DV) (Z : Cy) : (DE.bool r).rq Z = (r.rq Z) := rfl
theorem q21 (t : DT) (a b : DE) (Z : Cy) : (DE.ite t a b).rq Z = (t.rq Z ∧ a.rq Z ∧ b.rq Z) := rfl
theorem q22 (a b : DE) (Z : Cy) : (DE.ix a b).rq Z = (a.rq Z ∧ b.rq Z) := rfl
theorem q23  (Z : Cy) : DO.no.rq Z = (True) := rfl
theorem q24 (a : DE) (Z : Cy) : (DO.so a).rq Z = (a.rq Z) := rfl
theorem q25 (a : DE) (lo hi : DO) (Z : Cy) : (DE.sl a lo hi).rq Z = (a.rq Z ∧ lo.rq Z ∧ hi.rq Z) := rfl
theorem q26 (a : DA) (Z : Cy) : (DE.tup a).rq Z = (a.rq Z) := rfl
theorem q27 (a : DA) (Z : Cy) : (DL.dis a).rq Z = (a.rq Z) := rfl
theorem q28 (l : DL) (Z : Cy) : (DE.lst l).rq Z = (l.rq Z) := rfl
theorem q29 (l : DL) (Z : Cy) : (DE.thw l).rq Z = (l.rq Z) := rfl
theorem q30 (a : DA) (Z : Cy) : (DL.lof a).rq Z = (Z.mg "list" = none ∧ a.rq Z) := rfl
theorem q31 (a b : DE) (Z : Cy) : (DL.cat a b).rq Z = (a.rq Z ∧ b.rq Z) := rfl
theorem q32 (a b : DE) (Z : Cy) : (DL.rep a b).rq Z = (a.rq Z ∧ b.rq Z) := rfl
theorem q33 (a : DE) (Z : Cy) : (DI.seq a).rq Z = (a.rq Z) := rfl
theorem q34 (a : DE) (Z : Cy) : (DI.range1 a).rq Z = (Z.mg "range" = none ∧ a.rq Z) := rfl
theorem q35 (a b : DE) (Z : Cy) : (DI.range2 a b).rq Z = (Z.mg "range" = none ∧ a.rq Z ∧ b.rq Z) := rfl
theorem q37 (a b : DE) (Z : Cy) : (DI.zip a b).rq Z = (Z.mg "zip" = none ∧ a.rq Z ∧ b.rq Z) := rfl
theorem q38  (Z : Cy) : DF.no.rq Z = (True) := rfl
theorem q39 (t : DT) (Z : Cy) : (DF.one t).rq Z = (t.rq Z) := rfl
theorem q40 (own : List (Str × Nat)) (g : DG) (i : DI) (t : DF) (e : DE) (Z : Cy) : (DL.comp own g i t e).rq Z = (i.rq Z ∧ t.rq Z ∧ e.rq Z) := rfl
theorem q41  (Z : Cy) : DB.nil.rq Z = (True) := rfl
theorem q42 (a : DS) (b : DB) (Z : Cy) : (DB.cons a b).rq Z = (a.rq Z ∧ b.rq Z) := rfl
theorem q43 (a : DE) (Z : Cy) : (DS.expr a).rq Z = (a.rq Z) := rfl
theorem q44 (a : DE) (Z : Cy) : (DS.ret a).rq Z = (a.rq Z) := rfl
theorem q45  (Z : Cy) : DS.pass.rq Z = (True) := rfl
theorem q46  (Z : Cy) : DS.cont.rq Z = (True) := rfl
theorem q47 (i : Nat) (a : DE) (Z : Cy) : (DS.set i a).rq Z = (a.rq Z) := rfl
theorem q48 (i : Nat) (own : List (Str × Nat)) (g : DG) (it : DI) (t : DF) (e : DE) (Z : Cy) : (DS.setC i own g it t e).rq Z = (it.rq Z ∧ t.rq Z ∧ e.rq Z) := rfl
theorem q50 (t : DG) (a : DE) (Z : Cy) : (DS.asg t a).rq Z = (a.rq Z) := rfl
theorem q51 (i j : Nat) (a b : DE) (Z : Cy) : (DS.par i j a b).rq Z = (a.rq Z ∧ b.rq Z) := rfl
theorem q52 (o b a : DE) (Z : Cy) : (DS.sub o b a).rq Z = (a.rq Z ∧ o.rq Z ∧ b.rq Z) := rfl
theorem q53 (t : DT) (a b : DB) (Z : Cy) : (DS.iff t a b).rq Z = (t.rq Z ∧ a.rq Z ∧ b.rq Z) := rfl
theorem q54 (t : DT) (b : DB) (Z : Cy) : (DS.while t b).rq Z = (t.rq Z ∧ b.rq Z) := rfl
theorem q55 (t : DG) (i : DI) (b : DB) (Z : Cy) : (DS.for t i b).rq Z = (i.rq Z ∧ b.rq Z) := rfl
theorem q56 (x : Str) (Z : Cy) : (DS.raise x).rq Z = (ExcOk Z x) := rfl
theorem q57 (f : Str) (C : Ct) (a : DA) (Z : Cy) : (DE.call f C a).rq Z = (CallOk Z f a.n C ∧ a.rq Z) := rfl
theorem q59 (a : DE) (Z : Cy) : (DI.enum a).rq Z = (Z.mg "enumerate" = none ∧ a.rq Z) := rfl
theorem q60 (i : Nat) (a : DE) (Z : Cy) : (DL.srt i a).rq Z = (Z.mg "sorted" = none ∧ Z.mg "abs" = none ∧ (∃ c P, Z.code = .ref c ∧ LamX.TabB Z.base Z.mg c P ∧ Z.T = [(P, Z.qual ++ "<lambda>")]) ∧ a.rq Z) := rfl
theorem q61 (a : DA) (Z : Cy) : (DE.len a).rq Z = (Z.mg "len" = none ∧ a.rq Z) := rfl
theorem q62 (a : DA) (Z : Cy) : (DE.abs a).rq Z = (Z.mg "abs" = none ∧ a.rq Z) := rfl
theorem q63 (a : DA) (Z : Cy) : (DE.sum a).rq Z = (Z.mg "sum" = none ∧ a.rq Z) := rfl
theorem q64 (a : DA) (Z : Cy) : (DE.all a).rq Z = (Z.mg "all" = none ∧ a.rq Z) := rfl
theorem q65 (a : DA) (Z : Cy) : (DE.any a).rq Z = (Z.mg "any" = none ∧ a.rq Z) := rfl
theorem q66 (a : DA) (Z : Cy) : (DE.tuple a).rq Z = (Z.mg "tuple" = none ∧ a.rq Z) := rfl
theorem q67 (a : DA) (Z : Cy) : (DE.int a).rq Z = (Z.mg "int" = none ∧ a.rq Z) := rfl
theorem q68 (a : DA) (Z : Cy) : (DE.str a).rq Z = (Z.mg "str" = none ∧ a.rq Z) := rfl
theorem q69 (a : DE) (Z : Cy) : (DE.isTuple a).rq Z = (Z.mg "isinstance" = none ∧ Z.mg "tuple" = none ∧ a.rq Z) := rfl
theorem q70 (a : DE) (Z : Cy) : (DE.isInt a).rq Z = (Z.mg "isinstance" = none ∧ Z.mg "int" = none ∧ a.rq Z) := rfl
theorem q71 (a : DE) (Z : Cy) : (DE.isBool a).rq Z = (Z.mg "isinstance" = none ∧ Z.mg "bool" = none ∧ a.rq Z) := rfl
theorem q73 (o a : DE) (Z : Cy) : (DE.append o a).rq Z = (o.rq Z ∧ a.rq Z) := rfl
theorem qn0 : DA.nil.n = 0 := rfl
theorem qn1 (a : DE) (r : DA) : (DA.cons a r).n = r.n + 1 := rfl
/-- a def's promise, as the library says it -/
theorem fn_ok {P : Program} {w : World} {K : Fg} {mg : Str → Option Value} {base : Heap} {x : Str} {st : Stmt} {f : Addr} {oc : Value} {od an : Option Addr} {osl : Array (Option Value)} {kV doc pm cdv ct : Value} {N ps : List Str} {k n : Nat} {b : DB}
    (l : K.K.lookup f = some ⟨oc, od, .func (PySem.W.fnOf x x (defArgs st) (defBody st) (defScope st) .none kV doc pm an cdv ct), osl⟩) (hcd : PySem.W.codeIn K.K cdv x = true) (S : FnScope N ps (defScope st)) (hn : ps.length = n)
    (hm : b.mt ⟨N, defScope st, fun _ => true⟩ (defBody st) = true) (hq : ∀ A, Room k A → b.rq ⟨P, w, K.K, mg, base, A, cdv, x ++ ".<locals>.", K.T⟩) :
    FnOk P w K.K mg base (L2.CX P w) (k + 1) f (PySem.W.fnOf x x (defArgs st) (defBody st) (defScope st) .none kV doc pm an cdv ct) ps (spOf K mg n (ctOf N.length b)) := by
  refine fn_of l hcd S (fun vs H Q E ⟨ds, S, F, ads, Qd, Xd, hl, sm, rs, _⟩ => by rw [← rs.length, hl, hn]) fun A outer s H vs Q E hr hsp => ?_
  obtain ⟨ds, S0, F0, ads, Qd, Xd, hl, sm, rs, hc, kv, kx⟩ := hsp
  have gd : Good (cxOf (L2.CX P w) P w K.K mg base N x (defScope st) f cdv A outer s H E) (fun cls d _ H => E cls d H) :=
    ⟨rfl, S.nd, takes_of rfl rfl rfl rfl, passes_of rfl, by have := hr.un; show (A.deeper _).units + 200 < cLine; omega, by have := hr.dp; show (A.deeper _).depth + 5 < recursionLimit; omega⟩
  refine ⟨_, b.ok _ _ K.T _ hm gd ⟨S.kind, rfl, rfl, rfl⟩ (hq _ hr), ?_⟩
  refine ⟨startD N.length ds, S0, F0, ads, _, start_r rs, sm, hc, fun F1 ads1 S1 H1 env1 σ1 x1 s1 _ h1 => kv _ _ _ _ _ _ x1 s1 .non h1, kv, fun _ _ _ _ _ _ _ _ _ h => h.elim, fun _ _ _ _ _ _ _ _ _ h => h.elim, fun F1 ads1 S1 H1 env1 σ1 x x1 s1 _ h1 => kx _ _ _ _ _ x1 s1 h1⟩
theorem sp_imp {P : Program} {w : World} {K : Fg} {mg : Str → Option Value} {base : Heap} {k n : Nat} {f : Addr} {fd : FuncData} {ps : List Str} {C C' : Ct} (h : FnOk P w K.K mg base (L2.CX P w) k f fd ps (spOf K mg n C)) (q : ∀ ds S Q X, C' ds S Q X → C ds S Q X) : FnOk P w K.K mg base (L2.CX P w) k f fd ps (spOf K mg n C') :=
  h.imp fun vs H Q E ⟨ds, S, F, ads, Qd, Xd, hl, sm, rs, hc, kv, kx⟩ => ⟨ds, S, F, ads, Qd, Xd, hl, sm, rs, q _ _ _ _ hc, kv, kx⟩
/-- .. and by its name -/
theorem fn_atK {P : Program} {w : World} {K : Fg} {mg : Str → Option Value} {base h : Heap} {x : Str} {st : Stmt} {f : Addr} {oc : Value} {od an : Option Addr} {osl : Array (Option Value)} {kV doc pm cdv ct : Value} {N ps : List Str} {k n : Nat} {b : DB} {C : Ct}
    (X : K.K.In h) (G : h.Ns mainGlobals mg) (a : PySem.W.nsIn K.K mainGlobals x = some (some (.ref f)))
    (l : K.K.lookup f = some ⟨oc, od, .func (PySem.W.fnOf x x (defArgs st) (defBody st) (defScope st) .none kV doc pm an cdv ct), osl⟩) (hcd : PySem.W.codeIn K.K cdv x = true) (kp : PySem.W.keepIn K.K (.ref f) = true) (S : FnScope N ps (defScope st)) (hn : ps.length = n)
    (hb : ∀ (kV doc pm : Value) (an : Option Addr) (cdv ct : Value) (us : List Value), us.length = ps.length → bindArgs (PySem.W.fnOf x x (defArgs st) (defBody st) (defScope st) .none kV doc pm an cdv ct) ⟨us, []⟩ = pure (ps.zip us))
    (hm : b.mt ⟨N, defScope st, fun _ => true⟩ (defBody st) = true) (hw : ∀ {ds S Q X}, C ds S Q X → ctOf N.length b ds S Q X) (hq : ∀ A, Room k A → b.rq ⟨P, w, K.K, mg, base, A, cdv, x ++ ".<locals>.", K.T⟩) : FnAt P w K mg base (k + 1) x n C :=
  ⟨f, _, ps, sp_imp (fn_ok l hcd S hn hm hq) fun _ _ _ _ => hw, PySem.W.mg_of X G a, kp, (fun_mk l hcd kp).binds hb⟩
/-- a promise that nobody asks for -/
theorem fn_none {P : Program} {w : World} {K : Fg} {mg : Str → Option Value} {base h : Heap} {x : Str} {st : Stmt} {f : Addr} {oc : Value} {od an : Option Addr} {osl : Array (Option Value)} {kV doc pm cdv ct : Value} {N ps : List Str} {k n : Nat}
    (X : K.K.In h) (G : h.Ns mainGlobals mg) (a : PySem.W.nsIn K.K mainGlobals x = some (some (.ref f)))
    (l : K.K.lookup f = some ⟨oc, od, .func (PySem.W.fnOf x x (defArgs st) (defBody st) (defScope st) .none kV doc pm an cdv ct), osl⟩) (hcd : PySem.W.codeIn K.K cdv x = true) (kp : PySem.W.keepIn K.K (.ref f) = true) (S : FnScope N ps (defScope st)) (hn : ps.length = n)
    (hb : ∀ (kV doc pm : Value) (an : Option Addr) (cdv ct : Value) (us : List Value), us.length = ps.length → bindArgs (PySem.W.fnOf x x (defArgs st) (defBody st) (defScope st) .none kV doc pm an cdv ct) ⟨us, []⟩ = pure (ps.zip us)) : FnAt P w K mg base k x n (fun _ _ _ _ => False) :=
  ⟨f, _, ps, ⟨fun vs H Q E ⟨_, _, _, _, _, _, _, _, _, h, _⟩ => h.elim, fun A outer s H args us vs Q E hr e0 hb r ⟨_, _, _, _, _, _, _, _, _, h, _⟩ => h.elim⟩, PySem.W.mg_of X G a, kp, (fun_mk l hcd kp).binds hb⟩
theorem cx_never {P : Program} {w : World} {H : Hp} {s : Shared} {e : Value} {s' : Shared} (h : L2.CX P w [] H s (fun _ _ _ => False) e s') : False := by
  obtain ⟨_, _, _, _, _, _, _, _, _, _, _, _, h⟩ := h
  exact h
/-! #### DL14 -/
/-! The D layer, part 14: more words. -/
def oMin : List D → Sto → QD → Prop
  | [.int i, .int j], S, Q => Q (.int (if j < i then j else i)) S
  | [x], S, Q => ∃ ns : List Int, lstOf S x = some (ns.map .int) ∧ 0 < ns.length ∧ ∀ m, m ∈ ns → (∀ y, y ∈ ns → m ≤ y) → Q (.int m) S
  | _, _, _ => False
theorem ok_min {K : Fg} : OkA K oMin (fun xs H Q => (∃ i j, xs = [.int i, .int j] ∧ Q (.int (if j < i then j else i)) H) ∨ rMin K.K xs H Q) := by
  intro F ads S H xs vs Qd Q sm rx h kv
  unfold oMin at h
  split at h
  · cases rx with
    | cons r t =>
      cases t with
      | cons r2 t2 =>
        cases t2; cases r; cases r2
        exact .inl ⟨_, _, rfl, kv _ _ _ _ _ _ Ext.refl sm (.int _) h⟩
  · cases rx with
    | cons r t =>
      cases t
      obtain ⟨ns, hs, hn, hq⟩ := h
      obtain ⟨a, ys, e, hy, rs⟩ := lst_sq sm r hs
      subst e
      have := rs.ints
      subst this
      exact .inr ⟨a, ns, rfl, hy, hn, fun m h1 h2 => kv _ _ _ _ _ _ Ext.refl sm (.int _) (hq m h1 h2)⟩
  · exact h.elim
def DE.min : DA → DE := mkB "min" "min" (by decide +kernel) (by decide) (by decide) oMin fun X W T g => ⟨_, (call_min2 g.calm).or (cr_min g.calm), ok_min⟩
theorem y0 (a : DA) : (DE.min a).wp = wAp oMin a.wp := rfl
theorem oMin_ii (i j : Int) (S : Sto) (Q : QD) : oMin [.int i, .int j] S Q = Q (.int (if j < i then j else i)) S := rfl
theorem r0 (a : DA) (Z : Cy) : (DE.min a).rq Z = (Z.mg "min" = none ∧ a.rq Z) := rfl
/-! #### DL15 -/
/-! The D layer, part 15: try .. except X as e: c = e, the exception kept; isinstance of it. -/
/-- a thing that stands in the heap is tracked from now on -/
theorem inv_track {X : Cx} {pins : List (Addr × Obj)} {σ : L2.St} {H : Hp} {s : Shared} {a : Addr} {o : HO} (I : Inv X pins σ H s) (n0 : X.s_0.heap.get? a = none) (nH : H a = none) (nL : a ≠ X.env.locals) (nC : ∀ x c, X.env.cells.lookup x = some c → c ≠ a)
    (nP : ∀ p ∈ X.pn ++ pins, p.1 ≠ a) (hT : ∀ xs, o ≠ .tup xs) (new : ObjOk X.prog X.w (upd H a o) s.heap a o) : Inv X pins σ (upd H a o) s := by
  have sm : ∀ b u, H b = some u → upd H a o b = some u := fun b u e => by rw [upd_ne (ne_of_none e nH)]; exact e
  have un : Un X.fs X.ex X.H_0 (upd H a o) X.s_0.heap s.heap := by
    refine ⟨I.base.keep, I.base.slot, fun b ob e n hx => ?_, I.base.there, fun b xs e => sm _ _ (I.base.tups b xs e), fun b ob u e => sm _ _ (I.base.frzs b ob u e), fun b ps e => ?_⟩
    · have ne : b ≠ a := fun z => by rw [z, n0] at e; cases e
      rw [upd_ne ne]; exact I.base.free b ob e n hx
    · obtain ⟨more, q⟩ := I.base.tbls b ps e
      exact ⟨more, sm _ _ q⟩
  refine ⟨I.ok, I.os, I.bare, un, I.loc, I.cell, by rw [upd_ne (Ne.symm nL)]; exact I.free, fun x c e => by rw [upd_ne (nC x c e)]; exact I.freeC x c e, fun p hp => ?_, fun b u e => ?_, I.len⟩
  · obtain ⟨h1, h2, h3⟩ := I.pin p hp
    exact ⟨h1, by rw [upd_ne (nP p hp)]; exact h2, h3⟩
  · by_cases hb : b = a
    · subst hb
      rw [upd_same] at e
      cases e
      exact new
    · rw [upd_ne hb] at e
      exact (I.hok b u e).stay (fun _ _ _ q => q) (fun c q => sm _ _ q) (fun c xs q => sm _ _ q)
/-- what 'except x as n: (one statement)' wishes, the exception kept behind it -/
def wKept (K : PySem.W.Frag) (c : Value) (i : Nat) (ts : Addr → TS) (D : Ends) : WX := fun cls d σ H =>
  ∃ C, cls = .ref C ∧ d = none ∧ PySem.W.exmOne K cls c = some true ∧ ∀ a, H a = none →
    ts a { nx := fun σ' H' => H' a = none ∧ D.nx (σ'.set i none) (upd H' a (ExcO a C)), rt := fun _ _ => False, bk := fun _ _ => False, ct := fun _ _ => False } (σ.set i (some (.ref a))) H
section
variable {X : Cx} {x n : Str} {c : Value} {i : Nat} {body : List Stmt} {b0 : Stmt} {np p1 p2 : Pos} {tb : WX → TS} {ts : Addr → TS}
theorem excO_ok {P : Program} {w : World} {H : Hp} {h : Heap} {a C : Addr} {oe : Obj} (e : h.get? a = some oe) (z : Zc (.ref C) none oe) (f : ∃ vs, oe.data = .fields vs) : ObjOk P w H h a (ExcO a C) := by
  obtain ⟨vs, hv⟩ := f
  refine ⟨⟨oe, vs, e, z, hv⟩, ⟨oe, e⟩, fun h1 h2 ⟨oe', vs', e', z', v'⟩ k => ⟨oe', vs', k _ e', z', v'⟩⟩
theorem ps_try_kept (fk : FnK X) (hN : X.N.Nodup) (hi : X.N[i]? = some n) (hln : X.env.kindOf n = some .local) (hc : Names X x c)
    (hb : ∀ (W : WX) (pn : List (Addr × Obj)) (xe : Value → Shared → Prop), Takes (X.tr pn xe) W → PassesOwn (model X.prog X.w) X.A X.env xe → PSs (X.tr pn xe) body (tb W))
    (hsu : ∀ (a : Addr) (oe : Obj) (pn : List (Addr × Obj)), PSs (X.suite a ((a, oe) :: pn)) [b0] (ts a)) :
    PS X (.Try body [.ExceptHandler (some (.Name x np)) (some n) [b0] p1] [] [] p2) (fun D σ H => tb (wKept X.K c i ts D) D σ H) := by
  refine ⟨fun pins s σ H D I h => ?_⟩
  have ok := I.ok
  have hfr : X.A.frames = some (X.env :: X.outer) := by rw [ok.frames, fk.stk]
  have run := (hb (wKept X.K c i ts D) (X.pn ++ pins) (fun e s1 => wpAny (model X.prog X.w) X.A (noteFrame e X.env) (fun _ s2 => wpAny (model X.prog X.w) X.A (setFlight e none)
    (fun _ s3 => wpAny (model X.prog X.w) X.A (handleBy e X.env [.ExceptHandler (some (.Name x np)) (some n) [b0] p1]) (SP X pins D) X.xe s3) X.xe s2) X.xe s1) (fun u s' air => ?_) PassesOwn.looking).run [] s σ H D (I.toTry _) h
  · refine wpAny_Try_except (wpAny_mono run (fun f s1 q => ?_) (fun _ _ q => q))
    cases f with
    | next => obtain ⟨σ1, H1, J1, q1⟩ := q; exact wpAny_execs_nil ⟨σ1, H1, J1.ofTry ok, q1⟩
    | brk => obtain ⟨σ1, H1, J1, q1⟩ := q; exact ⟨σ1, H1, J1.ofTry ok, q1⟩
    | cont => obtain ⟨σ1, H1, J1, q1⟩ := q; exact ⟨σ1, H1, J1.ofTry ok, q1⟩
    | ret u => obtain ⟨v1, σ1, H1, J1, r1, q1⟩ := q; exact ⟨v1, σ1, H1, J1.ofTry ok, r1, q1⟩
  obtain ⟨a, B, sI, ps, σ', H', cls, d, rfl, J0, nb, up, sky, na, os, ag, C, rfl, rfl, hb1, hyes⟩ := air
  have J : Inv X pins σ' H' sI := J0.ofTry ok
  have sk : Sky B (X.env :: X.outer) a (Zc (.ref C) none) X.env.locals s'.heap := by rw [← fk.stk]; exact sky
  show wpAny (model X.prog X.w) X.A (noteFrame (.ref a) X.env) _ _ _
  have bN : B.get? a = none := by
    rcases sk with q | q | q
    · exact q.2.1
    · exact q.2.1
    · exact q.2.1
  refine Sky.land Zc.steady hfr fk.frm sk fun h3 f3 up3 => ?_
  have L3 : Inv X pins σ' H' { s' with heap := h3 } := J.landed nb f3.1 (up.trans up3) os ag
  obtain ⟨o3, v3, g3, z3, d3⟩ := f3.there
  have out : a ∉ frs (X.env :: X.outer) := fun hm => by
    obtain ⟨_, o', e', no⟩ := f3.2.2.1.mem hm
    rw [g3] at e'; cases e'
    exact no _ d3
  have nL : a ≠ X.env.locals := fun z => out (List.mem_filterMap.mpr ⟨X.env, List.mem_cons_self, by rw [fk.frm, z]⟩)
  have nF : a ∉ X.fs := fun hm => by
    obtain ⟨e, he, q⟩ := List.mem_filterMap.mp hm
    exact out (List.mem_filterMap.mpr ⟨e, List.mem_cons_of_mem _ he, q⟩)
  have nI : sI.heap.get? a = none := by
    cases e : sI.heap.get? a with
    | none => rfl
    | some o =>
      have := nb a o e (by rw [fk.stk]; exact out)
      rw [bN] at this; cases this
  have n0 : X.s_0.heap.get? a = none := by
    cases e : X.s_0.heap.get? a with
    | none => rfl
    | some o =>
      obtain ⟨o', q⟩ := J.base.there a o e (by rw [fk.ex]; simp)
      rw [nI] at q; cases q
  have S3 := L3.suite g3 d3 na nL nF
  refine wpAny_handleBy_cons (codeAny_handlers_test ?_) (by intro q; cases q)
  have ty : PySem.W.Looks (model X.prog X.w) h3 (typeOf (.ref a)) (.ref C) := fun A Q E s k q => wpAny_typeOf_ref (k _ _ g3) (by rw [z3.1]; exact q)
  have mt := PySem.W.exm_one (M := model X.prog X.w) L3.kIn ty hb1
  have look : ∀ {Q : Value → Shared → Prop} {E : Value → Shared → Prop}, Q c { s' with heap := h3 } →
      wpAny (model X.prog X.w) (X.A.mark (some (.ref a))) (eval (.Name x np) X.env) Q E { s' with heap := h3 } := fun {Q E} q => by
    rcases hc with ⟨hg, hdbg, hm | ⟨hm, hv, hnn⟩⟩
    · exact ld_glob (X := X.suite a ((a, o3) :: (X.pn ++ pins))) S3 hg hm q hdbg
    · exact ld_blt (X := X.suite a ((a, o3) :: (X.pn ++ pins))) S3 hg hm hv q hnn hdbg
  refine look (mt.here (codeAny_handlers_suite_as (HandSPX.lands_againZ f3 fun h4 f4 up4 => ?_)))
  have L4 : Inv X pins σ' H' { s' with heap := h4 } := J.landed nb f4.1 ((up.trans up3).trans up4) os ag
  obtain ⟨o4, v4, g4, z4, d4⟩ := f4.there
  refine store_ok (X := X.suite a ((a, o4) :: (X.pn ++ pins))) (v := .ref a) (L4.suite g4 d4 na nL nF) hN hi (.inl hln) rfl (fun s5 S5 => ?_) (.inr hln)
  refine wpAny_mono ((hsu a o4 (X.pn ++ pins)).run [] s5 _ H' _ S5 (hyes a na)) (fun f s6 q => ?_) (fun _ _ z => False.elim z)
  cases f with
  | next =>
    obtain ⟨σ6, H6, S6, n6, q6⟩ := q
    obtain ⟨g6, _⟩ := S6.pin (a, o4) (List.mem_append.mpr (.inl List.mem_cons_self))
    have K6 : Inv X pins σ6 H6 s6 := S6.unsuite ok
    have K7 : Inv X pins σ6 (upd H6 a (ExcO a C)) s6 := inv_track K6 n0 n6 nL (fun y cc e z => by
      obtain ⟨v, hcell⟩ := K6.cell y cc e
      obtain ⟨oc, ec, dc⟩ := hcell
      rw [z, g6] at ec; cases ec
      rw [d4] at dc; cases dc) (fun p hp z => by
        obtain ⟨q1, q2, q3⟩ := I.pin p hp
        obtain ⟨r1, _⟩ := J.pin p hp
        rw [z, nI] at r1; cases r1) (fun xs z => by cases z) (excO_ok g6 z4 ⟨_, d4⟩)
    exact gone_ok K7 hN hi hln fun s7 J7 => ⟨_, _, J7, q6⟩
  | brk => obtain ⟨_, _, _, z⟩ := q; exact z.elim
  | cont => obtain ⟨_, _, _, z⟩ := q; exact z.elim
  | ret u => obtain ⟨_, _, _, _, _, z⟩ := q; exact z.elim
end
/-! ### the program's exceptions -/
structure ExcTab (K : PySem.W.Frag) (mg : Str → Option Value) : Prop where
  ns : ∀ x ∈ exNs, ∃ C, PySem.W.nsIn K mainGlobals x = some (some (.ref C)) ∧ mg x = some (.ref C) ∧ ExcC K C
  isa : ∀ x ∈ exNs, ∀ y ∈ exNs, ∀ C D, PySem.W.nsIn K mainGlobals x = some (some (.ref C)) → PySem.W.nsIn K mainGlobals y = some (some (.ref D)) → PySem.W.kitOne K (.ref C) (.ref D) = some (decide (x = y))
  ve : ∀ x ∈ exNs, ∀ C, PySem.W.nsIn K mainGlobals x = some (some (.ref C)) → PySem.W.kitOne K (.ref C) (.type "ValueError") = some true
  gr : ∃ G, mg "GridError" = some (.ref G) ∧ ∀ x ∈ exNs, ∀ C, PySem.W.nsIn K mainGlobals x = some (some (.ref C)) → PySem.W.exmOne K (.ref C) (.ref G) = some true
/-! ### try -/
def wTry (i j : Nat) (b : WS) : WS := fun E env S => b { E with xq := fun x env' S' => x ∈ exNs ∧ i < env'.length ∧ E.nx ((env'.set j (some (.exc x))).set i none) S' } env S
def tryB (i j : Nat) (b : DB) (c : Sc) : Stmt → Bool
  | .Try body [.ExceptHandler (some (.Name x _)) (some n) [.Assign [.Name y _] (.Name z pz) _] _] [] [] _ =>
    x == "GridError" && glB c x && (c.N[i]? == some n) && (c.sc.names.lookup n == some .local) && locB c j y && nameB c i (.Name z pz) && b.mt c body
  | _ => false
def DS.tryK (i j : Nat) (b : DB) : DS where
  mt c s := tryB i j b c s
  wp := wTry i j b.wp
  rq Z := b.rq Z ∧ ExcTab Z.K Z.mg
  ok X W T s h g f q := by
    unfold tryB at h
    split at h
    rotate_left
    · cases h
    simp only [Bool.and_eq_true, beq_iff_eq] at h
    obtain ⟨⟨⟨⟨⟨⟨rfl, h1⟩, h2⟩, h3⟩, h4⟩, h5⟩, h6⟩ := h
    obtain ⟨G, hG, hgr⟩ := q.2.gr
    obtain ⟨k1, k2, k3⟩ := loc_of h4
    refine PS.imp (ps_try_kept (c := .ref G) (tb := fun W' => tS (kt X T) X.mg W' b.wp) (ts := fun _ => tAsg (tVar i) (gName j)) f g.nd h2 h3 ⟨gl_of h1, by decide, .inl hG⟩ (fun W' pn xe tk ow => ?_) (fun a oe pn => ?_)) fun D σ H ⟨env, S, F, ads, E, er, sm, hw, k⟩ => ?_
    · exact b.ok (X.tr pn xe) W' T _ h6 ⟨g.calm, g.nd, tk, ow, g.un, g.dp⟩ ⟨f.kind, f.stk, f.frm, f.ex⟩ q.1
    · refine pss_cons (u := tNext) (ps_set (X := X.suite a ((a, oe) :: pn)) g.nd k1 k2 (pe_slot (X := X.suite a ((a, oe) :: pn)) h5) (noComp_sw rfl) k3) pss_nil
    · refine ⟨env, S, F, ads, _, er, sm, hw, k.nx, k.rt, k.bk, k.ct, fun F1 ads1 S1 H1 env1 σ1 x x1 s1 r1 hx => ?_⟩
      obtain ⟨hin, hlen, hnx⟩ := hx
      obtain ⟨C, e1, e2, _⟩ := q.2.ns x hin
      have e2 : X.mg x = some (.ref C) := e2
      refine ⟨C, by rw [e2]; rfl, rfl, by rw [e2]; exact hgr x hin C e1, fun a ha => ?_⟩
      have hi : i < σ1.length := by rw [← r1.len]; exact hlen
      refine ⟨.ref a, by rw [List.getElem?_set_self hi], ha, ?_⟩
      obtain ⟨s2, x2⟩ := s1.frz ha (ExcO a C)
      refine k.nx _ _ _ _ _ _ (x1.trans x2) s2 ?_ hnx
      have r2 := r1.ext x2
      have rx : Rp (kt X T) (upd F1 a (ExcO a C)) ads1 (.exc x) (.ref a) := .exc upd_same e1
      have r3 : EnvR (kt X T) (upd F1 a (ExcO a C)) ads1 (env1.set i none) (σ1.set i (some (.ref a))) := by
        refine ⟨by simp [r2.len], fun m c hm => ?_⟩
        by_cases e : m = i
        · subst e
          by_cases hl : m < env1.length
          · rw [List.getElem?_set_self hl] at hm; cases hm
          · rw [List.getElem?_eq_none (by simpa using hl)] at hm; cases hm
        · rw [List.getElem?_set_ne (fun z => e z.symm)] at hm
          obtain ⟨v, h1, h2⟩ := r2.get m c hm
          exact ⟨v, by rw [List.getElem?_set_ne (fun z => e z.symm)]; exact h1, h2⟩
      have r4 := (r3.set (i := j) rx).setN (i := i)
      have ee : ((env1.set i none).set j (some (DLay.D.exc x))).set i none = (env1.set j (some (DLay.D.exc x))).set i none := by
        by_cases z : i = j
        · subst z; simp
        · rw [List.set_comm _ _ z, List.set_set]
      rw [ee] at r4
      exact r4
/-! ### isinstance of a kept exception -/
theorem exc_kit {X : Cx} {pins : List (Addr × Obj)} {σ : L2.St} {H : Hp} {s : Shared} {a C : Addr} (I : Inv X pins σ H s) (h : H a = some (ExcO a C)) (c : ExcC X.K C) :
    ∃ P : Heap → Prop, PySem.W.KitX X.K (.ref a) (.ref C) P ∧ P s.heap := by
  obtain ⟨⟨oe, vs, e, z, d⟩, _⟩ := (show ObjOk X.prog X.w H s.heap a (ExcO a C) from I.hok a _ h)
  have J : PySem.W.InstAt s.heap a oe C none := by
    obtain ⟨oc, od, oda, osl⟩ := oe
    obtain ⟨h1, h2⟩ := z
    dsimp only at h1 h2 d
    subst h1 h2 d
    exact ⟨e, rfl, rfl, trivial⟩
  exact ⟨_, PySem.W.handS_kitx_exc c.hg c.hk c.hs c.hd c.ha c.hn c.ht c.hm, J⟩
def rIsK (K : PySem.W.Frag) : List V → Hp → VK → Prop := fun xs H Q => ∃ (a C : Addr) (c : V) (cv : Value) (b : Bool), xs = [.ref a, c] ∧ H a = some (ExcO a C) ∧ ExcC K C ∧ ClsV c cv ∧ PySem.W.kitOne K (.ref C) cv = some b ∧ Q (.bl b) H
theorem call_isK {X : Cx} : CallR X (.builtin "isinstance") (rIsK X.K) := by
  intro pins s σ H xs us Q I r h
  obtain ⟨a, C, c, cv, b, rfl, ha, hc, hv, e, q⟩ := h
  obtain ⟨u1, u2, rfl, r1, r2⟩ := vals2 r
  have e2 := hv.eq r2
  subst e2
  cases (show u1 = Value.ref a from r1)
  obtain ⟨P, Z, p⟩ := exc_kit I ha hc
  exact PySem.W.kia_one Z I.kIn p e (fun z => nomatch z) fun tk => ⟨.bl b, H, I.tok tk, rfl, q⟩
def wIsX (C : Str) (a : WE) : WE := fun env S Q X => a env S (fun d S1 => ∃ x, d = .exc x ∧ x ∈ exNs ∧ Q (.bl (decide (x = C))) S1) X
def wIsVE (a : WE) : WE := fun env S Q X => a env S (fun d S1 => ∃ x, d = .exc x ∧ x ∈ exNs ∧ Q (.bl true) S1) X
theorem exc_at {K : Fg} {F : Hp} {ads : List Addr} {S : Sto} {H : Hp} {x : Str} {v : V} {mg : Str → Option Value} (t : ExcTab K.K mg) (hx : x ∈ exNs) (sm : Sim K F ads S H) (r : Rp K F ads (.exc x) v) : ∃ a C, v = .ref a ∧ H a = some (ExcO a C) ∧ ExcC K.K C ∧ PySem.W.nsIn K.K mainGlobals x = some (some (.ref C)) := by
  cases r with
  | exc h n =>
    rename_i a C
    obtain ⟨C', e1, _, c⟩ := t.ns x hx
    rw [n] at e1; cases e1
    exact ⟨a, C, rfl, sm.sub a _ h, c, n⟩
def DE.isX (C : Str) (a : DE) : DE where
  mt c e := match e with
    | .Call (.Name f _) [y, .Name z _] [] _ => f == "isinstance" && glB c "isinstance" && noStar y && a.mt c y && z == C && glB c C && exNs.contains C && !(C == ("__debug__" : Str))
    | _ => false
  wp := wIsX C a.wp
  rq Z := Z.mg "isinstance" = none ∧ ExcTab Z.K Z.mg ∧ a.rq Z
  ok X W T e h g q := by
    split at h
    · simp only [Bool.and_eq_true, beq_iff_eq, Bool.not_eq_true'] at h
      obtain ⟨⟨⟨⟨⟨⟨⟨rfl, h1⟩, h2⟩, h3⟩, rfl⟩, h5⟩, h6⟩, h7⟩ := h
      rename_i z _ _
      have hz : z ∈ exNs := by simpa using h6
      obtain ⟨Cz, n1, n2, _⟩ := q.2.1.ns z hz
      refine PE.imp (pe_callB call_isK (gl_of h1) q.1 (by decide +kernel) (pa_cons (a.ok X W T _ h3 g q.2.2) (pa_cons (pe_glob (v := .ref Cz) (gl_of h5) n2 rfl h7) pa_nil) (starEach_cons h2)) (by decide) (by decide) (starEach_cons h2) rfl) fun σ H Q ⟨env, S, F, ads, Qd, Xd, er, sm, hw, kv, kx⟩ => ?_
      refine ⟨env, S, F, ads, _, Xd, er, sm, hw, fun F1 ads1 S1 H1 d v x1 s1 r1 hh => ?_, kx⟩
      obtain ⟨x, rfl, hx, hq⟩ := hh
      obtain ⟨a', C, rfl, hH, hc, hn⟩ := exc_at q.2.1 hx s1 r1
      exact ⟨a', C, .ref Cz, .ref Cz, _, rfl, hH, hc, .own Cz, q.2.1.isa x hx z hz C Cz hn n1, kv _ _ _ _ _ _ x1 s1 (.bl _) hq⟩
    · cases h
def DE.isVE (a : DE) : DE where
  mt c e := match e with
    | .Call (.Name f _) [y, .Name z _] [] _ => f == "isinstance" && glB c "isinstance" && noStar y && a.mt c y && z == "ValueError" && glB c "ValueError"
    | _ => false
  wp := wIsVE a.wp
  rq Z := Z.mg "isinstance" = none ∧ Z.mg "ValueError" = none ∧ ExcTab Z.K Z.mg ∧ a.rq Z
  ok X W T e h g q := by
    split at h
    · simp only [Bool.and_eq_true, beq_iff_eq] at h
      obtain ⟨⟨⟨⟨⟨rfl, h1⟩, h2⟩, h3⟩, rfl⟩, h5⟩ := h
      refine PE.imp (pe_callB call_isK (gl_of h1) q.1 (by decide +kernel) (pa_cons (a.ok X W T _ h3 g q.2.2.2) (pa_cons (pe_bltn (v := .ty "ValueError") (gl_of h5) q.2.1 (by decide +kernel) rfl (by decide) (by decide)) pa_nil) (starEach_cons h2)) (by decide) (by decide) (starEach_cons h2) rfl) fun σ H Q ⟨env, S, F, ads, Qd, Xd, er, sm, hw, kv, kx⟩ => ?_
      refine ⟨env, S, F, ads, _, Xd, er, sm, hw, fun F1 ads1 S1 H1 d v x1 s1 r1 hh => ?_, kx⟩
      obtain ⟨x, rfl, hx, hq⟩ := hh
      obtain ⟨a', C, rfl, hH, hc, hn⟩ := exc_at q.2.2.1 hx s1 r1
      exact ⟨a', C, .ty "ValueError", .type "ValueError", _, rfl, hH, hc, .ty _, q.2.2.1.ve x hx C hn, kv _ _ _ _ _ _ x1 s1 (.bl _) hq⟩
    · cases h
/-! ### list.index, list.count -/
def oIndex : D → List D → Sto → QD → Prop
  | x, [.bl b], S, Q => ∃ (bs : List Bool) (j : Nat), lstOf S x = some (bs.map .bl) ∧ bs[j]? = some b ∧ (∀ m, m < j → bs[m]? ≠ some b) ∧ Q (.int (j : Nat)) S
  | x, [.str b], S, Q => ∃ (bs : List Str) (j : Nat), lstOf S x = some (bs.map .str) ∧ bs[j]? = some b ∧ (∀ m, m < j → bs[m]? ≠ some b) ∧ Q (.int (j : Nat)) S
  | _, _, _, _ => False
theorem ok_index {K : Fg} : OkM K oIndex (rIndex K.K) := by
  intro F ads S H x xs v vs Qd Q sm rx rxs h kv
  unfold oIndex at h
  split at h
  · obtain ⟨bs, j, hs, hj, hno, hq⟩ := h
    cases rxs with
    | cons r t =>
      cases t; cases r
      obtain ⟨a, ys, rfl, hy, rs⟩ := lst_sq sm rx hs
      have := rs.bls
      subst this
      refine ⟨a, _, _, j, _, rfl, rfl, hy, rfl, by simp [List.all_map, flatV], by rw [List.getElem?_map, hj]; rfl, by simp [eqV], fun m z' hm hz => ?_, kv _ _ _ _ _ _ Ext.refl sm (.int _) hq⟩
      rw [List.getElem?_map] at hz
      cases e : bs[m]? with
      | none => rw [e] at hz; cases hz
      | some b' =>
        rw [e] at hz; cases hz
        have := hno m hm
        rw [e] at this
        simp only [eqV, beq_eq_false_iff_ne]
        exact fun z => this (by rw [z])
  · obtain ⟨bs, j, hs, hj, hno, hq⟩ := h
    cases rxs with
    | cons r t =>
      cases t; cases r
      obtain ⟨a, ys, rfl, hy, rs⟩ := lst_sq sm rx hs
      have := rs.strs
      subst this
      refine ⟨a, _, _, j, _, rfl, rfl, hy, rfl, by simp [List.all_map, flatV], by rw [List.getElem?_map, hj]; rfl, by simp [eqV], fun m z' hm hz => ?_, kv _ _ _ _ _ _ Ext.refl sm (.int _) hq⟩
      rw [List.getElem?_map] at hz
      cases e : bs[m]? with
      | none => rw [e] at hz; cases hz
      | some b' =>
        rw [e] at hz; cases hz
        have := hno m hm
        rw [e] at this
        simp only [eqV, beq_eq_false_iff_ne]
        exact fun z => this (by rw [z])
  · exact h.elim
def DE.index : DE → DE → DE := mkM1 "list" "index" "list.index" PySem.F.plainAttrs_list PySem.F.slot_list_index PySem.F.type_list_index oIndex fun X W T g => ⟨_, mt_index, ok_index⟩
def rCntB (K : PySem.W.Frag) : V → List V → Hp → VK → Prop := fun x xs H Q => ∃ (p : Addr) (bs : List Bool) (b : Bool), x = .ref p ∧ xs = [.bl b] ∧ SqL K H p (bs.map V.bl) ∧ Q (.int (bs.count b : Nat)) H
theorem count_bl {b : Bool} : ∀ {bs : List Bool} {us : List Value}, Vals (bs.map V.bl) us → us.countP (eqU (.bl b)) = bs.count b
  | [], _, .nil => rfl
  | c :: bs, _, .cons r t => by
    cases r
    rw [List.countP_cons, count_bl t, List.count_cons]
    rfl
theorem mt_countB {X : Cx} : MtR X "list.count" (rCntB X.K) := by
  intro pins s σ H x xs v us Q I rx rxs h
  obtain ⟨p, bs, b, rfl, rfl, hs, q⟩ := h
  cases rx
  obtain ⟨u, rfl, ru⟩ := rxs.one
  obtain ⟨its, rv, ⟨⟨cls, dd, data, sl⟩, n, ho, hc, hdn, hd⟩, hlen⟩ := I.list hs
  simp only at hc hd
  subst hc hd
  have fl : (bs.map V.bl).all flatV = true := by simp [List.all_map, flatV]
  refine call_meets PySem.F.slot_list_count ⟨_, ho, rfl⟩ PySem.F.entry_list_count (PySem.F.args_list_count_2 (.ref p) u) (SeqAt.list_countAt p its.toArray n dd sl u (eqU (.bl b))) ⟨ho, fun y hy => mem_eqAt ru rfl rv fl y (by simpa using hy), .int (bs.count b : Nat), H, I.tok _, ⟨s.toks, ?_⟩, q⟩
  have e : its.toArray.toList.countP (eqU (.bl b)) = bs.count b := count_bl rv
  rw [e]
def oCount : D → List D → Sto → QD → Prop
  | x, [.bl b], S, Q => ∃ (bs : List Bool), lstOf S x = some (bs.map .bl) ∧ Q (.int (bs.count b : Nat)) S
  | _, _, _, _ => False
theorem ok_count {K : Fg} : OkM K oCount (rCntB K.K) := by
  intro F ads S H x xs v vs Qd Q sm rx rxs h kv
  unfold oCount at h
  split at h
  · obtain ⟨bs, hs, hq⟩ := h
    cases rxs with
    | cons r t =>
      cases t; cases r
      obtain ⟨a, ys, rfl, hy, rs⟩ := lst_sq sm rx hs
      have := rs.bls
      subst this
      exact ⟨a, _, _, rfl, rfl, hy, kv _ _ _ _ _ _ Ext.refl sm (.int _) hq⟩
  · exact h.elim
def DE.count : DE → DE → DE := mkM1 "list" "count" "list.count" PySem.F.plainAttrs_list PySem.F.slot_list_count PySem.F.type_list_count oCount fun X W T g => ⟨_, mt_countB, ok_count⟩
theorem y1 (i j : Nat) (b : DB) : (DS.tryK i j b).wp = wTry i j b.wp := rfl
theorem y2 (C : Str) (a : DE) : (DE.isX C a).wp = wIsX C a.wp := rfl
theorem y3 (a : DE) : (DE.isVE a).wp = wIsVE a.wp := rfl
theorem y4 (o a : DE) : (DE.index o a).wp = wM1 "list" oIndex o.wp a.wp := rfl
theorem y5 (o a : DE) : (DE.count o a).wp = wM1 "list" oCount o.wp a.wp := rfl
theorem r1 (i j : Nat) (b : DB) (Z : Cy) : (DS.tryK i j b).rq Z = (b.rq Z ∧ ExcTab Z.K Z.mg) := rfl
theorem r2 (C : Str) (a : DE) (Z : Cy) : (DE.isX C a).rq Z = (Z.mg "isinstance" = none ∧ ExcTab Z.K Z.mg ∧ a.rq Z) := rfl
theorem r3 (a : DE) (Z : Cy) : (DE.isVE a).rq Z = (Z.mg "isinstance" = none ∧ Z.mg "ValueError" = none ∧ ExcTab Z.K Z.mg ∧ a.rq Z) := rfl
theorem r4 (o a : DE) (Z : Cy) : (DE.index o a).rq Z = (o.rq Z ∧ a.rq Z) := rfl
theorem r5 (o a : DE) (Z : Cy) : (DE.count o a).rq Z = (o.rq Z ∧ a.rq Z) := rfl
/-! #### DL16 -/
/-! The D layer, part 16: texts. -/
def oJoin : D → List D → Sto → QD → Prop
  | .str a, [x], S, Q => ∃ ys : List Str, seqOf S x = some (ys.map .str) ∧ (ys.map (·.length)).sum + ys.length * a.length ≤ 16777216 ∧ Q (.str (Txt.join a ys)) S
  | _, _, _, _ => False
theorem ok_join {K : Fg} : OkM K oJoin (fun x xs H Q => ∃ a p, ∃ ys : List Str, x = .str a ∧ xs = [.ref p] ∧ (SqL K.K H p (ys.map V.str) ∨ SqT K.K H p (ys.map V.str)) ∧ (ys.map (·.length)).sum + ys.length * a.length ≤ 16777216 ∧ Q (.str (Txt.join a ys)) H) := by
  intro F ads S H x xs v vs Qd Q sm rx rxs h kv
  unfold oJoin at h
  split at h
  · obtain ⟨ys, hs, hz, hq⟩ := h
    cases rxs with
    | cons r t =>
      cases t; cases rx
      obtain ⟨p, us, rfl, hy, rs⟩ := seq_sq sm r hs
      have := rs.strs
      subst this
      exact ⟨_, p, ys, rfl, rfl, hy, hz, kv _ _ _ _ _ _ Ext.refl sm (.str _) hq⟩
  · exact h.elim
def DE.join : DE → DE → DE := mkM1 "str" "join" "str.join" PySem.F.plainAttrs_str PySem.F.slot_str_join PySem.F.type_str_join oJoin fun X W T g => ⟨_, mt_join, ok_join⟩
def oSplit : D → List D → Sto → QD → Prop
  | .str a, [.str b], S, Q => (b.length == 0) = false ∧ a.length + 2 ≤ sizeLine ∧ Q (.lst ((Txt.split a b).map .str)) S
  | _, _, _, _ => False
theorem ok_split {K : Fg} : OkM K oSplit (fun x xs H Q => ∃ a b, x = .str a ∧ xs = [.str b] ∧ (b.length == 0) = false ∧ a.length + 2 ≤ sizeLine ∧ rNewStrs (Txt.split a b) H Q) := by
  intro F ads S H x xs v vs Qd Q sm rx rxs h kv
  unfold oSplit at h
  split at h
  · obtain ⟨h1, h2, hq⟩ := h
    cases rxs with
    | cons r t =>
      cases t; cases rx; cases r
      refine ⟨_, _, rfl, rfl, h1, h2, fun p hp => ?_⟩
      obtain ⟨s2, x2⟩ := sm.frz hp (.lst ((Txt.split _ _).map V.str))
      exact kv _ _ _ _ _ _ x2 s2 (.lst upd_same (Rps.ofStrs _)) hq
  · exact h.elim
def DE.split : DE → DE → DE := mkM1 "str" "split" "str.split" PySem.F.plainAttrs_str PySem.F.slot_str_split PySem.F.type_str_split oSplit fun X W T g => ⟨_, mt_split, ok_split⟩
/-- list(text) -/
def chrs (z : Str) : List Str := z.cps.toList.map fun c => ⟨#[c]⟩
theorem call_listS {X : Cx} (hc : X.calm = true) : CallR X (.type "list") (fun xs H Q => ∃ z : Str, xs = [.str z] ∧ z.cps.size ≤ sizeLine ∧ ∀ l, H l = none → Q (.ref l) (upd H l (.lst ((chrs z).map V.str)))) := by
  intro pins s σ H xs us Q I r h
  obtain ⟨z, rfl, hz, q⟩ := h
  obtain ⟨u, rfl, t, rfl⟩ := vals1 r
  refine call_list_str (I.ok.hd hc) z t (fun h' tk acc c' kp e it => ?_) hz
  have hl : acc.toList.length = ((chrs z).map V.str).length := by
    have := it.1
    simp [chrs]
    omega
  have hv : Vals ((chrs z).map V.str) acc.toList := vals_of_idx _ _ hl fun j u hu => by
    obtain ⟨hj, eu⟩ := List.getElem?_eq_some_iff.mp hu
    have hj' : j < acc.size := by simpa using hj
    obtain ⟨c, tk', hc', hv'⟩ := it.2 j u (by simpa using hu)
    refine ⟨.str ⟨#[c]⟩, ?_, tk', hv'⟩
    simp only [chrs, List.map_map, List.getElem?_map]
    have : z.cps.toList[j]? = some c := by simpa using hc'
    rw [this]; rfl
  refine ⟨.ref s.heap.objs.size, _, I.laid (t' := tk) kp (Nat.le_refl _) (show ObjOk X.prog X.w _ h' _ (.lst ((chrs z).map V.str)) from ⟨by simp [chrs]; exact hz, acc.toList, c', hv, by simpa using e⟩), rfl, q _ (I.hok.fresh (Nat.le_refl _))⟩
def wLofS (a : WL) : WL := fun env S Q X => a env S (fun xs S1 => ∃ z, xs = [.str z] ∧ z.cps.size ≤ sizeLine ∧ Q ((chrs z).map .str) S1) X
def DL.lofS (a : DA) : DL where
  mt c e := bltB "list" a c e
  wp := wLofS a.wp
  rq Z := Z.mg "list" = none ∧ a.rq Z
  ok X W T e h g q := by
    unfold bltB at h
    split at h
    · simp only [Bool.and_eq_true, beq_iff_eq] at h
      obtain ⟨⟨rfl, h1⟩, h2⟩ := h
      obtain ⟨pa, ps⟩ := a.ok X W T _ h2 g q.2
      simp only [List.all_cons, Bool.and_eq_true] at ps
      refine PE.imp (pe_callTy (call_listS g.calm) (gl_of h1) q.1 (by decide +kernel) pa (by decide) (by decide) (starEach_cons ps.1) (star_any ps.2)) fun σ H Q ⟨env, S, F, ads, Qd, Xd, er, sm, hw, kv, kx⟩ => ?_
      refine ⟨env, S, F, ads, _, Xd, er, sm, hw, fun F1 ads1 S1 H1 ds vs x1 s1 r1 _ hh => ?_, kx⟩
      obtain ⟨z, rfl, hz, hq⟩ := hh
      cases r1 with
      | cons r t =>
        cases t; cases r
        exact ⟨z, rfl, hz, fun l hl => kv _ _ _ _ _ _ l x1 s1 (Rps.ofStrs _) hl hq⟩
    · cases h
theorem y6 (o a : DE) : (DE.join o a).wp = wM1 "str" oJoin o.wp a.wp := rfl
theorem y7 (o a : DE) : (DE.split o a).wp = wM1 "str" oSplit o.wp a.wp := rfl
theorem y8 (a : DA) : (DL.lofS a).wp = wLofS a.wp := rfl
theorem r6 (o a : DE) (Z : Cy) : (DE.join o a).rq Z = (o.rq Z ∧ a.rq Z) := rfl
theorem r7 (o a : DE) (Z : Cy) : (DE.split o a).rq Z = (o.rq Z ∧ a.rq Z) := rfl
theorem r8 (a : DA) (Z : Cy) : (DL.lofS a).rq Z = (Z.mg "list" = none ∧ a.rq Z) := rfl
/-! #### DL17 -/
/-! The D layer, part 17: instances of own classes: fields, methods, construction. -/
/-! ### fields -/
def putD (f : Str) (v : D) : List (Str × D) → List (Str × D)
  | [] => [(f, v)]
  | (g, x) :: r => if g = f then (g, v) :: r else (g, x) :: putD f v r
def getD' (f : Str) : List (Str × D) → Option D
  | [] => none
  | (g, x) :: r => if f = g then some x else getD' f r
section
variable {K : Fg} {F : Hp} {ads : List Addr}
theorem fs_get {f : Str} {d : D} : ∀ {fs : List (Str × D)} {gs : List (Str × V)}, gs.map (·.1) = fs.map (·.1) → Rps K F ads (fs.map (·.2)) (gs.map (·.2)) → getD' f fs = some d → ∃ v, gs.lookup f = some v ∧ Rp K F ads d v
  | [], _, _, _, h => by cases h
  | (g, x) :: r, [], e, _, _ => by cases e
  | (g, x) :: r, (g', y) :: r', e, q, h => by
    have e1 : g' = g := by have := congrArg List.head? e; simpa using this
    have e2 : r'.map (·.1) = r.map (·.1) := by have := congrArg List.tail e; simpa using this
    subst e1
    cases q with
    | cons qa qb =>
      unfold getD' at h
      by_cases k : f = g'
      · rw [if_pos k] at h
        cases h
        have hb : (f == g') = true := beq_iff_eq.mpr k
        exact ⟨y, by simp only [List.lookup, hb], qa⟩
      · rw [if_neg k] at h
        have hb : (f == g') = false := beq_eq_false_iff_ne.mpr k
        obtain ⟨v, h1, h2⟩ := fs_get e2 qb h
        exact ⟨v, by simp only [List.lookup, hb]; exact h1, h2⟩
theorem fs_none {f : Str} : ∀ {fs : List (Str × D)} {gs : List (Str × V)}, gs.map (·.1) = fs.map (·.1) → getD' f fs = none → gs.lookup f = none
  | [], [], _, _ => rfl
  | [], _ :: _, e, _ => by cases e
  | (g, x) :: r, [], e, _ => by cases e
  | (g, x) :: r, (g', y) :: r', e, h => by
    have e1 : g' = g := by have := congrArg List.head? e; simpa using this
    have e2 : r'.map (·.1) = r.map (·.1) := by have := congrArg List.tail e; simpa using this
    subst e1
    unfold getD' at h
    by_cases k : f = g'
    · rw [if_pos k] at h; cases h
    · rw [if_neg k] at h
      have hb : (f == g') = false := beq_eq_false_iff_ne.mpr k
      simp only [List.lookup, hb]
      exact fs_none e2 h
theorem fs_put {f : Str} {d : D} {v : V} (rd : Rp K F ads d v) : ∀ {fs : List (Str × D)} {gs : List (Str × V)}, gs.map (·.1) = fs.map (·.1) → Rps K F ads (fs.map (·.2)) (gs.map (·.2)) →
    (putF f v gs).map (·.1) = (putD f d fs).map (·.1) ∧ Rps K F ads ((putD f d fs).map (·.2)) ((putF f v gs).map (·.2))
  | [], [], _, _ => ⟨rfl, .cons rd .nil⟩
  | [], _ :: _, e, _ => by cases e
  | (g, x) :: r, [], e, _ => by cases e
  | (g, x) :: r, (g', y) :: r', e, q => by
    have e1 : g' = g := by have := congrArg List.head? e; simpa using this
    have e2 : r'.map (·.1) = r.map (·.1) := by have := congrArg List.tail e; simpa using this
    subst e1
    cases q with
    | cons qa qb =>
      unfold putD putF
      by_cases k : g' = f
      · rw [if_pos k, if_pos k]
        exact ⟨by rw [List.map_cons, List.map_cons, e2], .cons rd qb⟩
      · rw [if_neg k, if_neg k]
        obtain ⟨h1, h2⟩ := fs_put rd e2 qb
        exact ⟨by rw [List.map_cons, List.map_cons, h1], .cons qa h2⟩
end
/-- .. and no class has the name f -/
def FldOk (Z : Cy) (c f : Str) : Prop := ∃ C, PySem.W.nsIn Z.K mainGlobals c = some (some (.ref C)) ∧ Cls Z.K C ∧ NoAttr Z.K C f
def wFld (c f : Str) (a : WE) : WE := fun env S Q X => a env S (fun d S1 => ∃ i fs v, d = .han i ∧ S1[i]? = some (.ins c fs) ∧ getD' f fs = some v ∧ Q v S1) X
def DE.fld (c : Str) (a : DE) (f : Str) : DE where
  mt s e := match e with
    | .Attribute x g _ => g == f && noCall x && a.mt s x
    | _ => false
  wp := wFld c f a.wp
  rq Z := FldOk Z c f ∧ a.rq Z
  ok X W T e h g q := by
    split at h
    · simp only [Bool.and_eq_true, beq_iff_eq] at h
      obtain ⟨⟨rfl, h1⟩, h2⟩ := h
      obtain ⟨⟨C, hC, hc, hn⟩, q2⟩ := q
      refine PE.imp (pe_fld (a.ok X W T _ h2 g q2) (noCall_base h1)) fun σ H Q ⟨env, S, F, ads, Qd, Xd, er, sm, hw, kv, kx⟩ => ?_
      refine ⟨env, S, F, ads, _, Xd, er, sm, hw, fun F1 ads1 S1 H1 d v x1 s1 r1 hh => ?_, kx⟩
      obtain ⟨i, fs, u, rfl, hS, hg, hq⟩ := hh
      cases r1 with
      | han ha =>
        obtain ⟨a', ha', nF, C', dx, gs, hH, hn', ek, rs⟩ := s1.at hS
        rw [ha] at ha'; cases ha'
        have : C' = C := by
          have := hn'.symm.trans hC
          simpa using this
        subst this
        obtain ⟨w, hw, rw'⟩ := fs_get ek rs hg
        exact ⟨_, _, dx, gs, w, rfl, hH, hc, hn, hw, kv _ _ _ _ _ _ x1 s1 rw' hq⟩
    · cases h
def wSetF (c f : Str) (o a : WE) : WS := fun E env S => a env S (fun y S1 => o env S1 (fun d S2 => ∃ i fs, d = .han i ∧ S2[i]? = some (.ins c fs) ∧ fs.length < 1000 ∧ E.nx env (S2.set i (.ins c (putD f y fs)))) (fun x S2 => E.xq x env S2)) (fun x S1 => E.xq x env S1)
def DS.fld (c : Str) (o : DE) (f : Str) (a : DE) : DS where
  mt s st := match st with
    | .Assign [.Attribute x g _] e _ => g == f && o.mt s x && a.mt s e && noComp e
    | _ => false
  wp := wSetF c f o.wp a.wp
  rq Z := FldOk Z c f ∧ o.rq Z ∧ a.rq Z
  ok X W T st h g fk q := by
    split at h
    · simp only [Bool.and_eq_true, beq_iff_eq] at h
      obtain ⟨⟨⟨rfl, h1⟩, h2⟩, h3⟩ := h
      obtain ⟨⟨C, hC, hc, hn⟩, q2, q3⟩ := q
      refine PS.imp (ps_fld (o.ok X W T _ h1 g q2) (a.ok X W T _ h2 g q3) (noComp_sw h3)) fun D σ H ⟨env, S, F, ads, E, er, sm, hw, k⟩ => ?_
      refine ⟨env, S, F, ads, _, _, er, sm, hw, fun F1 ads1 S1 H1 y u x1 s1 r1 hh1 => ?_, k.xq.kx er⟩
      refine ⟨env, S1, F1, ads1, _, _, er.ext x1, s1, hh1, fun F2 ads2 S2 H2 d v x2 s2 r2 hh2 => ?_, (k.xq.kx er).ext x1⟩
      obtain ⟨i, fs, rfl, hS, hl, hq⟩ := hh2
      cases r2 with
      | han ha =>
        obtain ⟨a', ha', nF, C', dx, gs, hH, hn', ek, rs⟩ := s2.at hS
        rw [ha] at ha'; cases ha'
        have : C' = C := by
          have := hn'.symm.trans hC
          simpa using this
        subst this
        have hlen : gs.length = fs.length := by have := congrArg List.length ek; simpa using this
        obtain ⟨p1, p2⟩ := fs_put (f := _) (r1.ext x2) ek rs
        refine ⟨_, _, dx, gs, rfl, hH, hc, hn, by omega, ?_⟩
        obtain ⟨s3, x3⟩ := s2.put ha nF (.ins C' dx (putF _ u gs)) (o := .ins c (putD _ y fs)) ⟨nF, C', dx, _, upd_same, hn', p1, p2⟩
        have xx := (x1.trans x2).trans x3
        exact k.nx _ _ _ _ _ _ xx s3 (er.ext xx) hq
    · cases h
/-! ### methods -/
/-- a method of the text's class c keeps a promise -/
def MethAt (P : Program) (w : World) (K : Fg) (mg : Str → Option Value) (base : Heap) (k : Nat) (c m : Str) (n : Nat) (Ct0 : Ct) : Prop :=
  ∃ C a fd ps, PySem.W.nsIn K.K mainGlobals c = some (some (.ref C)) ∧ Cls K.K C ∧ Meth K.K C m a ∧ FnOk P w K.K mg base (L2.CX P w) k a fd ps (spOf K mg n Ct0) ∧ L2.Binds K.K fd ps []
theorem MethAt.mono {P : Program} {w : World} {K : Fg} {mg : Str → Option Value} {base : Heap} {j k n : Nat} {c m : Str} {Ct0 : Ct} (h : MethAt P w K mg base j c m n Ct0) (hk : j ≤ k) : MethAt P w K mg base k c m n Ct0 :=
  let ⟨C, a, fd, ps, h1, h2, h3, F, r⟩ := h
  ⟨C, a, fd, ps, h1, h2, h3, F.mono hk, r⟩
def MetOk (Z : Cy) (c m : Str) (n : Nat) (Ct0 : Ct) : Prop := ∃ k, MethAt Z.prog Z.w ⟨Z.K, Z.T⟩ Z.mg Z.base k c m n Ct0 ∧ Room k Z.A
def tMethS' (C : Addr) (m : Str) (sp : Sp) (E : L2.St → XK) (ta : TE) (t : TA) : TE := fun σ H Q => ta σ H fun x H1 => ∃ a dx fs, x = .ref a ∧ H1 a = some (.ins C dx fs) ∧ fs.lookup m = none ∧
  t σ H1 fun vs H2 => sp (x :: vs) H2 Q (E σ)
/-- o.m(..): the method is looked up, then called -/
theorem call_own {prog : Program} {w : World} {B : Around} {E : Value → Shared → Prop} {s : Shared} {en : PySem.Env} {ob : Expr} {nm : Str} {ap cp : Pos} {as : List Expr} {Q : Value → Shared → Prop}
    (h1 : attributeBase ob nm en (eval ob en) = eval ob en) (h2 : methodCallForm (as.length + ([] : List Keyword).length) (backTo cp (starEach as en)) (backToKw cp (keywordEach [] en)) = true) (h3 : (ap.endLine == cp.line) = true)
    (h : wpAny (model prog w) B (eval ob en) (fun ov s1 => ∀ pl, wpAny (model prog w) B (getMethod ov nm pl) (fun fx s2 => wpAny (model prog w) B (callWith cp fx.1 fx.2 (backTo cp (starEach as en)) (backToKw cp (keywordEach [] en))) Q E s2) E s1) E s) :
    wpAny (model prog w) B (eval (.Call (.Attribute ob nm ap) as [] cp) en) Q E s := by
  rw [arm_eval_Call, h1]
  have h4 : methodCallPos true ob en ap cp = pure cp := by
    unfold methodCallPos
    simp [h3]
  refine wpAny_bind (wpAny_mono h (fun ov s1 k1 => wpAny_bind (wpAny_standAt ?_)) fun _ _ z => z)
  unfold methodCall
  rw [h2]
  exact wpAny_bind (wpAny_holding (wpAny_mono (k1 _) (fun fx s2 k2 => wpAny_bind (wpAny_of_eq h4 k2)) fun _ _ z => z))
theorem few_ok {es : List Expr} {en : PySem.Env} {cp : Pos} (h : es.all noStar = true) (hl : es.length < 30) : methodCallForm (es.length + ([] : List Keyword).length) (backTo cp (starEach es en)) (backToKw cp (keywordEach [] en)) = true := by
  have h1 : (backTo cp (starEach es en)).all (fun x => !x.1) = true := by
    have := star_any (env := en) (pos := cp) h
    rw [List.all_eq_not_any_not]
    simpa using this
  unfold methodCallForm
  simp only [h1, Bool.true_and]
  simp [keywordEach, backToKw]
  exact hl
section
variable {X : Cx} {CX : CXT} {k : Nat} {f C : Addr} {fd : FuncData} {ps : List Str} {sp : Sp} {E : L2.St → XK} {x m : Str} {p cp ap : Pos} {e ob : Expr} {es : List Expr} {ta : TE} {t : TA}
theorem pe_methT0 (he : PE X ob ta) (cl : Cls X.K C) (mt : Meth X.K C m f) (F : FnOk X.prog X.w X.K X.mg X.base CX k f fd ps sp) (hr : Room k X.A) (hb : L2.Binds X.K fd ps []) (hx : ∀ σ, PassesAt CX X σ (E σ))
    (h1 : attributeBase ob m X.env (eval ob X.env) = eval ob X.env) (h3 : (ap.endLine == cp.line) = true) :
    PE X (.Call (.Attribute ob m ap) [] [] cp) (tMethS' C m sp E ta tNil) := by
  refine ⟨fun pn s0 σ H Q I0 h => ?_⟩
  refine call_own h1 (few_ok (es := []) rfl (by decide)) h3 (thn (he.run pn s0 σ H _ I0 h) fun u s1 ⟨x, H1, J1, rx, a, dx, fs, ex, ea, l, q⟩ => fun pl => ?_)
  subst ex
  cases (show u = Value.ref a from rx)
  exact getmeth_ok J1 ea cl mt l (PySem.W.callWith_K0 (first := [.ref a]) J1.kIn mt.kp (run_fnS (us := [.ref a]) (vs := [V.ref a]) F hr hb (hx σ) J1 (.cons rfl .nil) q))
end
def wMet0 (c m : Str) (C : Ct) (o : WE) : WE := fun env S Q X => o env S (fun d S1 => ∃ i fs, d = .han i ∧ S1[i]? = some (.ins c fs) ∧ getD' m fs = none ∧ C [d] S1 Q X) X
def DE.met0 (c m : Str) (C : Ct) (o : DE) : DE where
  mt s e := match e with
    | .Call (.Attribute x n ap) [] [] cp => n == m && noCall x && o.mt s x && (ap.endLine == cp.line)
    | _ => false
  wp := wMet0 c m C o.wp
  rq Z := MetOk Z c m 1 C ∧ o.rq Z
  ok X W T e h g q := by
    obtain ⟨⟨k, ⟨Ca, ad, fd, ps, hC, hc, hm, F, hb⟩, hr⟩, q2⟩ := q
    split at h
    · simp only [Bool.and_eq_true, beq_iff_eq, decide_eq_true_eq] at h
      obtain ⟨⟨⟨rfl, h1⟩, h2⟩, h3⟩ := h
      refine PE.imp (pe_methT0 (E := L2.WE W) (o.ok X W T _ h2 g q2) hc hm F hr hb (fun σ => passAt g.tk σ) (noCall_base h1) (by simpa using h3)) fun σ H Q ⟨env, S, F, ads, Qd, Xd, er, sm, hw, kv, kx⟩ => ?_
      refine ⟨env, S, F, ads, _, Xd, er, sm, hw, fun F1 ads1 S1 H1 d v x1 s1 r1 hh => ?_, kx⟩
      obtain ⟨i, fs, rfl, hS, hg, hw1⟩ := hh
      have r1' := r1
      cases r1 with
      | han ha =>
        obtain ⟨a', ha', nF, C', dx, gs, hH, hn', ek, rs⟩ := s1.at hS
        rw [ha] at ha'; cases ha'
        have : C' = Ca := by
          have := hn'.symm.trans hC
          simpa using this
        subst this
        refine ⟨_, dx, gs, rfl, hH, fs_none ek hg, ?_⟩
        exact ⟨[_], S1, F1, ads1, Qd, Xd, rfl, s1, .cons r1' .nil, hw1, kv.ext x1, fun F3 ads3 S3 H3 x x3 s3 h3 => kx _ _ _ _ _ (x1.trans x3) s3 h3⟩
    · cases h
/-! ### construction -/
section
variable {X : Cx} {CX : CXT} {k : Nat} {f C : Addr} {fd : FuncData} {ps : List Str} {sp : Sp} {E : L2.St → XK} {x m : Str} {p cp ap : Pos} {e ob : Expr} {es : List Expr} {ta : TE} {t : TA}
end
/-! ### len by an own __len__ -/
/-! ### a method's promise -/
theorem y9 (c : Str) (a : DE) (f : Str) : (DE.fld c a f).wp = wFld c f a.wp := rfl
theorem y10 (c : Str) (o : DE) (f : Str) (a : DE) : (DS.fld c o f a).wp = wSetF c f o.wp a.wp := rfl
theorem y12 (c m : Str) (C : Ct) (o : DE) : (DE.met0 c m C o).wp = wMet0 c m C o.wp := rfl
theorem r9 (c : Str) (a : DE) (f : Str) (Z : Cy) : (DE.fld c a f).rq Z = (FldOk Z c f ∧ a.rq Z) := rfl
theorem r10 (c : Str) (o : DE) (f : Str) (a : DE) (Z : Cy) : (DS.fld c o f a).rq Z = (FldOk Z c f ∧ o.rq Z ∧ a.rq Z) := rfl
theorem r12 (c m : Str) (C : Ct) (o : DE) (Z : Cy) : (DE.met0 c m C o).rq Z = (MetOk Z c m 1 C ∧ o.rq Z) := rfl
/-! ### the fields of a session -/
def sesF (n c e d u : D) : List (Str × D) := [("size", n), ("current", c), ("earlier", e), ("done", d), ("undone", u)]
section
variable (n c e d u x : D)
theorem sg0 : getD' "size" (sesF n c e d u) = some n := by simp [getD', sesF]
theorem sg1 : getD' "current" (sesF n c e d u) = some c := rfl
theorem sg2 : getD' "earlier" (sesF n c e d u) = some e := rfl
theorem sg3 : getD' "done" (sesF n c e d u) = some d := rfl
theorem sg4 : getD' "undone" (sesF n c e d u) = some u := rfl
theorem sn0 : getD' "add" (sesF n c e d u) = none := rfl
theorem sn1 : getD' "remove" (sesF n c e d u) = none := rfl
theorem sn2 : getD' "generators" (sesF n c e d u) = none := rfl
theorem sn3 : getD' "rows" (sesF n c e d u) = none := rfl
theorem sn4 : getD' "contains" (sesF n c e d u) = none := rfl
theorem sn5 : getD' "relation" (sesF n c e d u) = none := rfl
theorem sn6 : getD' "is_relation" (sesF n c e d u) = none := rfl
theorem sn7 : getD' "undo" (sesF n c e d u) = none := rfl
theorem sn8 : getD' "redo" (sesF n c e d u) = none := rfl
theorem sn9 : getD' "perform" (sesF n c e d u) = none := rfl
theorem sp1 : putD "current" x (sesF n c e d u) = sesF n x e d u := rfl
theorem sp4 : putD "undone" x (sesF n c e d u) = sesF n c e d x := rfl
def s1F (n : D) : List (Str × D) := [("size", n)]
def s2F (n c : D) : List (Str × D) := [("size", n), ("current", c)]
def s3F (n c e : D) : List (Str × D) := [("size", n), ("current", c), ("earlier", e)]
def s4F (n c e d : D) : List (Str × D) := [("size", n), ("current", c), ("earlier", e), ("done", d)]
theorem sl1 : (s1F n).length = 1 := rfl
theorem sl2 : (s2F n c).length = 2 := rfl
theorem sl3 : (s3F n c e).length = 3 := rfl
theorem sl4 : (s4F n c e d).length = 4 := rfl
theorem si0 : putD "size" n [] = s1F n := rfl
theorem si1 : putD "current" c (s1F n) = s2F n c := rfl
theorem si2 : putD "earlier" e (s2F n c) = s3F n c e := rfl
theorem si3 : putD "done" d (s3F n c e) = s4F n c e d := rfl
theorem si4 : putD "undone" u (s4F n c e d) = sesF n c e d u := rfl
theorem sl0 : (sesF n c e d u).length = 5 := rfl
end
/-! #### DL18 -/
/-! The D layer, part 18: sorted of data, comprehensions with two fors, a, b, c = x, y, z. -/
/-! ### sorted of data -/
/-! #### DL19 -/
/-! The D layer, part 19: comprehensions with two fors, a, b, c = x, y, z. -/
/-! ### a, b, c = x, y, z -/
/-! #### DL20 -/
/-! The D layer, part 20: a comprehension stored in a name that others see, max. -/
theorem sw_cell {e : Expr} {y : Str} {py : Pos} {l : Nat} {env : PySem.Env} (hy : env.scope.names.lookup y = some .cell) : swapsWith e (some (.Name y py)) l env = pure false := by
  have ky : env.kindOf y = some .cell := hy
  cases e <;> first | rfl | (unfold swapsWith; simp only [ky, show (some NameKind.cell == some NameKind.local) = false from rfl, Bool.and_false, Bool.false_and])
def DS.setK (i : Nat) (a : DE) : DS where
  mt c s := match s with
    | .Assign [.Name x _] e _ => locB c i x && a.mt c e && (c.sc.names.lookup x == some .cell)
    | _ => false
  wp := wSet i a.wp
  rq := a.rq
  ok X W T s h g f q := by
    split at h
    · simp only [Bool.and_eq_true, beq_iff_eq] at h
      obtain ⟨h1, h2, h3⟩ := loc_of h.1.1
      exact PS.imp (ps_set g.nd h1 h2 (a.ok X W T _ h.1.2 g q) (sw_cell h.2) h3) fun D σ H z => seqSet z
    · cases h
def oMax : List D → Sto → QD → Prop
  | [.int i, .int j], S, Q => Q (.int (if j > i then j else i)) S
  | [x], S, Q => ∃ ns : List Int, lstOf S x = some (ns.map .int) ∧ 0 < ns.length ∧ ∀ m, m ∈ ns → (∀ y, y ∈ ns → y ≤ m) → Q (.int m) S
  | _, _, _ => False
theorem ok_max {K : Fg} : OkA K oMax (fun xs H Q => (∃ i j, xs = [.int i, .int j] ∧ Q (.int (if j > i then j else i)) H) ∨ rMax K.K xs H Q) := by
  intro F ads S H xs vs Qd Q sm rx h kv
  unfold oMax at h
  split at h
  · cases rx with
    | cons r t =>
      cases t with
      | cons r2 t2 =>
        cases t2; cases r; cases r2
        exact .inl ⟨_, _, rfl, kv _ _ _ _ _ _ Ext.refl sm (.int _) h⟩
  · cases rx with
    | cons r t =>
      cases t
      obtain ⟨ns, hs, hn, hq⟩ := h
      obtain ⟨a, ys, e, hy, rs⟩ := lst_sq sm r hs
      subst e
      have := rs.ints
      subst this
      exact .inr ⟨a, ns, rfl, hy, hn, fun m h1 h2 => kv _ _ _ _ _ _ Ext.refl sm (.int _) (hq m h1 h2)⟩
  · exact h.elim
def DE.max : DA → DE := mkB "max" "max" (by decide +kernel) (by decide) (by decide) oMax fun X W T g => ⟨_, (call_max2 g.calm).or (cr_max g.calm), ok_max⟩
theorem y19 (i : Nat) (a : DE) : (DS.setK i a).wp = wSet i a.wp := rfl
theorem y20 (a : DA) : (DE.max a).wp = wAp oMax a.wp := rfl
theorem r19 (i : Nat) (a : DE) (Z : Cy) : (DS.setK i a).rq Z = a.rq Z := rfl
theorem r20 (a : DA) (Z : Cy) : (DE.max a).rq Z = (Z.mg "max" = none ∧ a.rq Z) := rfl
/-! #### DL21 -/
/-! The D layer, part 21: t[::-1]. -/
section
variable {prog : Program} {w : World} {A : Around} {E : Value → Shared → Prop} {s : Shared}
end
/-! the word -/
/-! #### DL22 -/
/-! The D layer, part 22: whole numbers and None compared. -/
theorem oNe_iN (i : Int) (S : Sto) (Q : QD) : oNe (.int i) .non S Q = Q (.bl true) S := by
  apply propext
  constructor
  · rintro ⟨p, q, e1, e2, _, _, h⟩
    cases e1; cases e2
    exact h
  · exact fun h => ⟨_, _, rfl, rfl, rfl, rfl, h⟩
theorem oEq_iN (i : Int) (S : Sto) (Q : QD) : oEq (.int i) .non S Q = Q (.bl false) S := by
  apply propext
  constructor
  · rintro ⟨p, q, e1, e2, _, _, h⟩
    cases e1; cases e2
    exact h
  · exact fun h => ⟨_, _, rfl, rfl, rfl, rfl, h⟩
/-! #### DL23 -/
/-! The D layer, part 23: the call of a function chosen from a tuple. -/
def allCall (Z : Cy) (n : Nat) (fs : List (Str × Ct)) : Prop := ∀ p ∈ fs, CallOk Z p.1 n p.2
theorem allC_nil (Z : Cy) (n : Nat) : allCall Z n [] = True := by simp [allCall]
theorem allC_cons (Z : Cy) (n : Nat) (f : Str) (C : Ct) (fs : List (Str × Ct)) : allCall Z n ((f, C) :: fs) = (CallOk Z f n C ∧ allCall Z n fs) := by simp [allCall]
/-! #### DL24 -/
/-! The D layer, part 24: sorted of a list or a tuple. -/
section
open PySem.W PySem.Calls
variable {prog : Program} {w : World} {A : Around} {E : Value → Shared → Prop} {s : Shared} {κ : PyProof.Rows.KeyKind}
end
/-! #### DL25 -/
/-! The D layer, part 25: data in a list or tuple of data; zip of a list and a tuple. -/
/-! ### in -/
/-! ### zip of any two of list and tuple -/
section
variable {prog : Program} {w : World}
section
variable {A : Around} {E : Value → Shared → Prop} {s : Shared} {z TI TO i1 i2 l1 l2 : Addr} {J1 J2 : Heap → Nat → Prop} {g1 g2 : Nat → Option Value}
end
/-! a list first, then a tuple -/
end
/-- zip of a list or tuple, and a tuple -/
def zipJP (d d2 : D) (S : Sto) (Q : QI) : Prop := ∃ xs ys, (tupOf d = some xs ∨ lstOf S d = some xs) ∧ tupOf d2 = some ys ∧ Q (zipD xs ys) (srcOf d xs ++ srcOf d2 ys) S
/-! ### the wp and what is asked, for the walks -/
theorem zipJ_tt (xs ys : List D) (S : Sto) (Q : QI) : zipJP (.tup xs) (.tup ys) S Q = Q (zipD xs ys) [] S := by
  unfold zipJP
  apply propext
  constructor
  · rintro ⟨a, b, h1 | h1, h2, h3⟩
    · cases h1; cases h2; exact h3
    · cases h1
  · intro h; exact ⟨xs, ys, .inl rfl, rfl, h⟩
theorem zipJ_lt (xs ys : List D) (S : Sto) (Q : QI) : zipJP (.lst xs) (.tup ys) S Q = Q (zipD xs ys) [] S := by
  unfold zipJP
  apply propext
  constructor
  · rintro ⟨a, b, h1 | h1, h2, h3⟩
    · cases h1
    · cases h1; cases h2; exact h3
  · intro h; exact ⟨xs, ys, .inr rfl, rfl, h⟩
/-! #### DL26 -/
/-! The D layer, part 26: sorted(set(t)), t a tuple of tuples of ints. -/
section
variable {P : Program} {w : World} {A : Around} {E : Value → Shared → Prop} {s : Shared}
end
section
open PySem.W PySem.Calls
variable {P : Program} {w : World} {A : Around} {E : Value → Shared → Prop} {s : Shared}
end
/-! ### sorted(set(t)) -/
/-! #### DL27 -/
/-! The D layer, part 27: sum of a tuple. -/
/-! #### DL28 -/
/-! The D layer, part 28: what is never reached. -/
def wDead : WS := fun _ _ _ => False
def DB.dead : DB where
  mt _ _ := true
  wp := wDead
  rq _ := True
  ok X W T s h g f q := ⟨fun pins s σ H D I z => by
    obtain ⟨env, S, F, ads, E, er, sm, hw, k⟩ := z
    exact hw.elim⟩
theorem y28a : DB.dead.wp = wDead := rfl
theorem r28a (Z : Cy) : DB.dead.rq Z = True := rfl
/-! ### name = (f, g, ..); return name[i](..) -/
/-! #### DL29 -/
/-! The D layer, part 29: list(range(a, b)). -/
/-! #### DL30 -/
/-! The D layer, part 30: x[i], y[j] = a, b. -/
theorem sw_sub2 {x y x2 y2 u v : Expr} {p p2 pt pt2 : Pos} {k k2 : Nat} {env : PySem.Env} : swappedStores [.Tuple [.Subscript x y p, .Subscript x2 y2 p2] k pt] (.Tuple [u, v] k2 pt2) env = pure none := by
  unfold swappedStores
  simp only [List.filterMap_cons, List.filterMap_nil]
  split
  · rfl
  split
  · rfl
  rfl
/-- o[i] = d, in the store -/
def setO (x y d : D) (S : Sto) (Q : Sto → Prop) : Prop := ∃ h k j ds, x = .han h ∧ y = .int k ∧ S[h]? = some (.lst ds) ∧ ixN ds.length k = some j ∧ Q (S.set h (.lst (ds.set j d)))
def wSub2 (a b o i o2 i2 : WE) : WS := fun E env S => a env S (fun d S1 => b env S1 (fun e S2 => o env S2 (fun x S3 => i env S3 (fun y S4 => setO x y d S4 fun S5 => o2 env S5 (fun x2 S6 => i2 env S6 (fun y2 S7 => setO x2 y2 e S7 (E.nx env)) (fun z S => E.xq z env S)) (fun z S => E.xq z env S)) (fun z S => E.xq z env S)) (fun z S => E.xq z env S)) (fun z S => E.xq z env S)) (fun z S => E.xq z env S)
def DS.sub2 (o i o2 i2 a b : DE) : DS where
  mt c s := match s with
    | .Assign [.Tuple [.Subscript x y _, .Subscript x2 y2 _] _ _] (.Tuple [u, v] _ _) _ => o.mt c x && i.mt c y && plainIx y && o2.mt c x2 && i2.mt c y2 && plainIx y2 && noStar u && noStar v && a.mt c u && b.mt c v
    | _ => false
  wp := wSub2 a.wp b.wp o.wp i.wp o2.wp i2.wp
  rq Z := a.rq Z ∧ b.rq Z ∧ o.rq Z ∧ i.rq Z ∧ o2.rq Z ∧ i2.rq Z
  ok X W T s h g f q := by
    split at h
    · simp only [Bool.and_eq_true] at h
      obtain ⟨⟨⟨⟨⟨⟨⟨⟨⟨h1, h2⟩, h3⟩, h4⟩, h5⟩, h6⟩, h7⟩, h8⟩, h9⟩, h10⟩ := h
      obtain ⟨q1, q2, q3, q4, q5, q6⟩ := q
      rename_i x y p1 x2 y2 p2 k1 p3 u v k2 p4 p5
      have pa := pa_cons (a.ok X W T _ h9 g q1) (pa_cons (b.ok X W T _ h10 g q2) pa_nil (starEach_cons h8)) (starEach_cons h7)
      have t1 := pg_sub (X := X) (pos := p1) (o.ok X W T _ h1 g q3) (i.ok X W T _ h2 g q4) set_list (assign_sub h3)
      have t2 := pg_sub (X := X) (pos := p2) (o2.ok X W T _ h4 g q5) (i2.ok X W T _ h5 g q6) set_list (assign_sub h6)
      refine PS.imp (ps_asg (pe_tup pa) (pg_tup g.calm (pgs_cons t1 (pgs_cons t2 pgs_nil rfl) rfl) rfl rfl) rfl sw_sub2 rfl) fun D σ H ⟨env, S, F, ads, E, er, sm, hw, k⟩ => ?_
      have kx := k.xq.kx er
      refine ⟨env, S, F, ads, _, _, er, sm, hw, fun F1 ads1 S1 H1 d v x1 s1 r1 w1 => ?_, kx⟩
      refine ⟨env, S1, F1, ads1, _, _, er.ext x1, s1, w1, fun F2 ads2 S2 H2 d2 v2 x2 s2 r2 w2 => ?_, kx.ext x1⟩
      refine ⟨by show 2 ≤ sizeLine; decide, fun p hp => ?_⟩
      obtain ⟨s3, x3⟩ := s2.frz hp (.tup [v, v2])
      have y3 := (x1.trans x2).trans x3
      refine ⟨p, [v, v2], rfl, s3.sub.tup (SqT.of upd_same), rfl, v, [v2], rfl, ?_⟩
      refine ⟨env, S2, _, _, _, _, er.ext y3, s3, w2, fun F4 ads4 S4 H4 xo vo x4 s4 r4 w4 => ?_, kx.ext y3⟩
      have y4 := y3.trans x4
      refine ⟨env, S4, _, _, _, _, er.ext y4, s4, w4, fun F5 ads5 S5 H5 xi vi x5 s5 r5 w5 => ?_, kx.ext y4⟩
      have y5 := y4.trans x5
      obtain ⟨hd, kk, j, ds, rfl, rfl, hS, hj, hq⟩ := w5
      cases r5
      cases r4.ext x5 with
      | han ha =>
        obtain ⟨a', ha', nF, us, hH, rs⟩ := s5.at hS
        rw [ha] at ha'; cases ha'
        refine ⟨_, us, kk, j, rfl, rfl, hH, by rw [← rs.length]; exact hj, ?_⟩
        have r1' := r1.ext ((x2.trans x3).trans (x4.trans x5))
        obtain ⟨s6, x6⟩ := s5.put ha nF (.lst (us.set j v)) (o := .lst (ds.set j d)) ⟨nF, _, upd_same, rs.set r1' j⟩
        have y6 := y5.trans x6
        refine ⟨v2, [], rfl, env, _, _, _, _, _, er.ext y6, s6, hq, fun F7 ads7 S7 H7 xo2 vo2 x7 s7 r7 w7 => ?_, kx.ext y6⟩
        have y7 := y6.trans x7
        refine ⟨env, S7, _, _, _, _, er.ext y7, s7, w7, fun F8 ads8 S8 H8 xi2 vi2 x8 s8 r8 w8 => ?_, kx.ext y7⟩
        have y8 := y7.trans x8
        obtain ⟨hd2, kk2, j2, ds2, rfl, rfl, hS2, hj2, hq2⟩ := w8
        cases r8
        cases r7.ext x8 with
        | han ha2 =>
          obtain ⟨a2, ha3, nF2, us2, hH2, rs2⟩ := s8.at hS2
          rw [ha2] at ha3; cases ha3
          refine ⟨_, us2, kk2, j2, rfl, rfl, hH2, by rw [← rs2.length]; exact hj2, rfl, ?_⟩
          have r2' := r2.ext (x3.trans (x4.trans (x5.trans (x6.trans (x7.trans x8)))))
          obtain ⟨s9, x9⟩ := s8.put ha2 nF2 (.lst (us2.set j2 v2)) (o := .lst (ds2.set j2 d2)) ⟨nF2, _, upd_same, rs2.set r2' j2⟩
          have y9 := y8.trans x9
          exact k.nx _ _ _ _ _ _ y9 s9 (er.ext y9) hq2
    · cases h
theorem y30a (o i o2 i2 a b : DE) : (DS.sub2 o i o2 i2 a b).wp = wSub2 a.wp b.wp o.wp i.wp o2.wp i2.wp := rfl
theorem r30a (o i o2 i2 a b : DE) (Z : Cy) : (DS.sub2 o i o2 i2 a b).rq Z = (a.rq Z ∧ b.rq Z ∧ o.rq Z ∧ i.rq Z ∧ o2.rq Z ∧ i2.rq Z) := rfl
/-! #### DL31 -/
/-! The D layer, part 31: isinstance(x, (list, dict)). -/
/-! #### DL32 -/
/-! The D layer, part 32: f-strings, x += .., isinstance of the own class. -/
/-! ### f-strings -/
abbrev WJ := Str → Env → Sto → (Str → Sto → Prop) → XD → Prop
def tJ (K : Fg) (mg : Str → Option Value) (W : WX) (w : WJ) (acc : Str) (σ : L2.St) (H : Hp) (Q : Str → Hp → Prop) : Prop := ∃ env S F ads Qd Xd, EnvR K F ads env σ ∧ Sim K F ads S H ∧ w acc env S Qd Xd ∧ (∀ F' ads' S' H' y, Ext F ads H F' ads' H' → Sim K F' ads' S' H' → Qd y S' → Q y H') ∧ KX K mg W F ads H σ Xd
structure DJ where
  mt : Sc → List Expr → Bool
  wp : WJ
  rq : Cy → Prop
  ok : ∀ (X : Cx) (W : WX) (T : List (Addr × Str)) (es : List Expr), mt (scOf X) es = true → Good X W → rq (cyOf X T) → ∃ ts, PJ X es ts ∧ ∀ acc σ H Q, tJ (kt X T) X.mg W wp acc σ H Q → tJs ts acc σ H Q
def wJn : WJ := fun acc _ S Q _ => Q acc S
def wJc (a : WE) (r : WJ) : WJ := fun acc env S Q X => a env S (fun d S1 => ∃ y, d = .str y ∧ (acc ++ y).length ≤ sizeLine ∧ r (acc ++ y) env S1 Q X) X
def DJ.nil : DJ where
  mt c es := es.isEmpty
  wp := wJn
  rq _ := True
  ok X W T es h g q := by
    cases es with
    | nil =>
      refine ⟨[], .nil, fun acc σ H Q ⟨env, S, F, ads, Qd, Xd, er, sm, hw, kv, kx⟩ => ?_⟩
      exact kv _ _ _ _ _ Ext.refl sm hw
    | cons e es => cases h
def DJ.cons (a : DE) (r : DJ) : DJ where
  mt c es := match es with
    | e :: es => a.mt c e && r.mt c es
    | _ => false
  wp := wJc a.wp r.wp
  rq Z := a.rq Z ∧ r.rq Z
  ok X W T es h g q := by
    split at h
    · simp only [Bool.and_eq_true] at h
      obtain ⟨ts, pj, hj⟩ := r.ok X W T _ h.2 g q.2
      refine ⟨_, .cons (a.ok X W T _ h.1 g q.1) pj, fun acc σ H Q ⟨env, S, F, ads, Qd, Xd, er, sm, hw, kv, kx⟩ => ?_⟩
      refine ⟨env, S, F, ads, _, Xd, er, sm, hw, fun F1 ads1 S1 H1 d v x1 s1 r1 h1 => ?_, kx⟩
      obtain ⟨y, rfl, hy, h2⟩ := h1
      cases r1
      refine ⟨y, rfl, hy, hj _ _ _ _ ⟨env, S1, F1, ads1, Qd, Xd, er.ext x1, s1, h2, fun F2 ads2 S2 H2 z x2 s2 hz => kv _ _ _ _ _ (x1.trans x2) s2 hz, kx.ext x1⟩⟩
    · cases h
/-! ### x += e -/
/-! ### isinstance of the own class -/
/-- is it an instance of the class c? -/
def isCD (c : Str) (S : Sto) : D → Option Bool
  | .han i => match S[i]? with
    | some (.ins c' _) => if c' = c then some true else none
    | _ => none
  | .int _ => some false
  | .str _ => some false
  | .tup _ => some false
  | .non => some false
  | .bl _ => some false
  | _ => none
theorem y32b : DJ.nil.wp = wJn := rfl
theorem y32c (a : DE) (r : DJ) : (DJ.cons a r).wp = wJc a.wp r.wp := rfl
theorem r32b (Z : Cy) : DJ.nil.rq Z = True := rfl
theorem r32c (a : DE) (r : DJ) (Z : Cy) : (DJ.cons a r).rq Z = (a.rq Z ∧ r.rq Z) := rfl
/-! #### DL33 -/
/-! The D layer, part 33: == and != by an own __eq__. -/
section
open PySem.W
variable {M : Model} {prog : Program} {w : World} {A : Around} {E : Value → Shared → Prop} {s : Shared} {K : PySem.W.Frag} {x C f : Addr} {ox : Obj} {od : Option Obj}
end
section
variable {X : Cx} {k : Nat} {f C : Addr} {fd : FuncData} {ps : List Str} {sp : Sp}
end
/-! ### the words -/
/-! #### DL34 -/
/-! The D layer, part 34: x, *ys = a list. -/
section
open PySem.W PySem.Calls
variable {prog : Program} {w : World} {A : Around} {E : Value → Shared → Prop} {s : Shared}
end
/-! #### DL35 -/
/-! The D layer, part 35: sorted(xs, reverse=True, key=f), f a def of the text. -/
/-- what is free for a built-in's own use -/
structure Lone (X : Cx) (pins : List (Addr × Obj)) (b : Addr) : Prop where
  lo : b ≠ X.env.locals
  fs : b ∉ X.fs
  ex : b ∈ X.ex ∨ X.s_0.heap.objs.size ≤ b
  ce : ∀ x c, X.env.cells.lookup x = some c → c ≠ b
  pn : ∀ p ∈ X.pn ++ pins, p.1 ≠ b
theorem Lone.fp {X : Cx} {pins : List (Addr × Obj)} {H : Hp} {b : Addr} (l : Lone X pins b) (h : H b = none) : FpOk X pins H b := ⟨h, l.lo, l.fs, l.ex, l.ce, l.pn⟩
section
variable {X : Cx} {pins : List (Addr × Obj)} {σ : L2.St}
end
section
open PySem.W
variable {X : Cx} {pins : List (Addr × Obj)} {σ : L2.St} {k : Nat} {f : Addr} {fd : FuncData} {ps : List Str} {sp : Sp} {A : Around} {E : Value → Shared → Prop} {P : PySem.Fin → Shared → Prop} {kS a : Addr} {e1 : Nat}
end
/-! ### the word -/
/-! #### DL36 -/
/-! The D layer, part 36: str(x) by an own __str__. -/
theorem isCD_t (c : Str) (S : Sto) (ds : List D) : isCD c S (.tup ds) = some false := rfl
theorem isCD_s (c : Str) (S : Sto) (y : Str) : isCD c S (.str y) = some false := rfl
/-! #### DL37 -/
/-! The D layer, part 37: a list against [], a slice of a list that is changed later. -/
namespace PySem.SeqAt
open PySem PySem.Spec PyProof.Rows
section
variable {prog : Program} {w : World}
theorem dif_eq (l b : Addr) (us vs : Array Value) (n n2 : Nat) (dd dd2 : Option Addr) (sl sl2 : Array (Option Value)) (hd : us.size ≠ vs.size) :
    MeetsIn prog w (Builtin.«list.__eq__» ⟨[.ref l, .ref b], []⟩)
      (fun A R s => s.heap.get? l = some { cls := .type "list", dict := dd, data := .seq us n, slots := sl } ∧ s.heap.get? b = some { cls := .type "list", dict := dd2, data := .seq vs n2, slots := sl2 } ∧ R (.ok (.ret (.bool false))) s) := by
  intro A R s h
  obtain ⟨hp, g, d, tk, os⟩ := s; obtain ⟨hl, hb, h⟩ := h
  have f3 := AutoSeq1.sub_list_list
  have hne : (us.size != vs.size) = true := by simpa using hd
  wp_walk using wpAny_loadPart' hl, wpAny_loadPart' hb
  exact h
theorem dif_ne (l b : Addr) (us vs : Array Value) (n n2 : Nat) (dd dd2 : Option Addr) (sl sl2 : Array (Option Value)) (hd : us.size ≠ vs.size) :
    MeetsIn prog w (Builtin.«list.__ne__» ⟨[.ref l, .ref b], []⟩)
      (fun A R s => s.heap.get? l = some { cls := .type "list", dict := dd, data := .seq us n, slots := sl } ∧ s.heap.get? b = some { cls := .type "list", dict := dd2, data := .seq vs n2, slots := sl2 } ∧ R (.ok (.ret (.bool true))) s) := by
  intro A R s h
  obtain ⟨hp, g, d, tk, os⟩ := s; obtain ⟨hl, hb, h⟩ := h
  have f3 := AutoSeq1.sub_list_list
  have hne : (us.size != vs.size) = true := by simpa using hd
  wp_walk using wpAny_loadPart' hl, wpAny_loadPart' hb
  exact h
end
end PySem.SeqAt
open PySem.SeqAt (dif_eq dif_ne)
/-! #### DL38 -/
/-! The D layer, part 38: a dict whose keys are tuples of ints: {k: True}, k not in d, d[k] = True, sorted(d). -/
section
variable {X : Cx} {pins : List (Addr × Obj)} {σ : L2.St} {H : Hp} {s : Shared} {a : Addr} {xs : List (List Int × Addr × Value)}
abbrev knT (X : Cx) := tupleKind (PySem.intKind X.prog X.w)
theorem dct_at (I : Inv X pins σ H s) (e : H a = some (DctO a xs)) (hk : ∀ x ∈ xs, SqT X.K H x.2.1 (x.1.map V.int)) (nd : (xs.map (·.1)).Nodup) : s.heap.DictOfH (knT X) a xs := by
  obtain ⟨⟨o, es, ep, h1, h2, h3, h4⟩, _, _⟩ := I.hok a _ e
  exact ⟨o, es, ep, h1, h2, h3, h4, fun x hx => I.isT (hk x hx), nd⟩
theorem dct_ok {P : Program} {w : World} {h : Heap} (d : h.DictOfH (tupleKind (PySem.intKind P w)) a xs) : ObjOk P w H h a (DctO a xs) := by
  obtain ⟨o, es, ep, h1, h2, h3, h4, _⟩ := d
  exact ⟨⟨o, es, ep, h1, h2, h3, h4⟩, ⟨o, h1⟩, fun g1 g2 ⟨o, es, ep, k1, k2⟩ st => ⟨o, es, ep, st o k1, k2⟩⟩
theorem at_isSome : ∀ (xs : List (List Int × Addr × Value)) (k : List Int), (atKey xs k).isSome = decide (k ∈ xs.map (·.1))
  | [], k => by simp [atKey]
  | x :: xs, k => by
    have ih := at_isSome xs k
    unfold atKey at ih ⊢
    by_cases e : x.1 = k
    · simp [e]
    · have e' : ¬ k = x.1 := fun z => e z.symm
      have e2 : decide (x.1 = k) = false := decide_eq_false e
      simp only [List.find?_cons, e2]
      rw [ih]
      simp [e']
/-- d[k] = v, k a new key -/
def rPutD (K : PySem.W.Frag) : TSet := fun o i v H Q => ∃ b a xs k u, o = .ref a ∧ i = .ref b ∧ v = .bl u ∧ SqT K H b (k.map V.int) ∧ H a = some (DctO a xs) ∧ (xs.map (·.1)).Nodup ∧ (∀ z ∈ xs, SqT K H z.2.1 (z.1.map V.int)) ∧ k ∉ xs.map (·.1) ∧ xs.length ≤ 100000 ∧ Q (upd H a (DctO a (xs ++ [(k, b, .bool u)])))
theorem set_dct (hu : X.A.units + 64 < cLine) : PSet X (rPutD X.K) := by
  intro pins s σ H o i v ov iv u Q I ro ri rv h
  obtain ⟨b, a, xs, k, bv, rfl, rfl, rfl, hb, ha, nd, hk, hn, hl, q⟩ := h
  cases ro; cases ri; cases rv
  have nk : atKey xs k = none := by
    have e := at_isSome xs k
    rw [decide_eq_false hn] at e
    cases z : atKey xs k with
    | none => rfl
    | some _ => rw [z] at e; cases e
  refine wpAny_setItem_heap (hsz := by rw [sizeLine_eq]; omega) (knd := knT X) (tupleKind_room_in1 (by omega)) (I.isT hb) (dct_at I ha hk nd) fun h' d' sb => ?_
  rw [storedH_new nk] at d'
  have he : ∃ q, h'.get? a = some q := let ⟨q, _, _, hq, _⟩ := d'; ⟨q, hq⟩
  exact ⟨_, d_write I (by rw [ha]; exact True.intro) sb he (dct_ok d'), q⟩
end
/-! ### the words -/
/-- d[k] = True, k a new key -/
def wPutD (a o b : WE) : WS := fun E env S => a env S (fun d S1 => o env S1 (fun x S2 => b env S2 (fun y S3 => ∃ h k u ks, d = .bl u ∧ x = .han h ∧ y = VE k ∧ S3[h]? = some (.dct ks) ∧ k ∉ ks ∧ ks.length ≤ 100000 ∧ E.nx env (S3.set h (.dct (ks ++ [k])))) (fun x S3 => E.xq x env S3)) (fun x S2 => E.xq x env S2)) (fun x S1 => E.xq x env S1)
def DS.putD (o b a : DE) : DS where
  mt c s := match s with
    | .Assign [tg] e _ => tgSub c o b tg && a.mt c e
    | _ => false
  wp := wPutD a.wp o.wp b.wp
  rq Z := a.rq Z ∧ o.rq Z ∧ b.rq Z
  ok X W T s h g f q := by
    split at h
    · rename_i tg e pos
      simp only [Bool.and_eq_true] at h
      obtain ⟨h1, h2⟩ := h
      unfold tgSub at h1
      split at h1
      · simp only [Bool.and_eq_true] at h1
        obtain ⟨⟨h3, h4⟩, h5⟩ := h1
        refine PS.imp (ps_asg (a.ok X W T _ h2 g q.1) (pg_sub (o.ok X W T _ h3 g q.2.1) (b.ok X W T _ h4 g q.2.2) (set_dct (by have := g.un; omega)) (assign_sub h5)) (by cases e <;> rfl) (by cases e <;> rfl) rfl) fun D σ H ⟨env, S, F, ads, E, er, sm, hw, k⟩ => ?_
        refine ⟨env, S, F, ads, _, _, er, sm, hw, fun F1 ads1 S1 H1 d v x1 s1 r1 h1 => ?_, k.xq.kx er⟩
        refine ⟨env, S1, F1, ads1, _, _, er.ext x1, s1, h1, fun F2 ads2 S2 H2 d2 v2 x2 s2 r2 h2 => ?_, (k.xq.kx er).ext x1⟩
        refine ⟨env, S2, F2, ads2, _, _, er.ext (x1.trans x2), s2, h2, fun F3 ads3 S3 H3 d3 v3 x3 s3 r3 h3 => ?_, (k.xq.kx er).ext (x1.trans x2)⟩
        obtain ⟨hd, kk, u, ks, rfl, rfl, rfl, hS, hn, hl, hq⟩ := h3
        cases r1
        cases r3 with
        | @tup b _ vs ht rs =>
          obtain rfl := Rps.ints rs
          cases r2.ext x3 with
          | han ha =>
            obtain ⟨a', ha', nF, xs, hH, hs, e1, nd, hk⟩ := s3.at hS
            rw [ha] at ha'; cases ha'
            subst e1
            refine ⟨b, _, xs, kk, u, rfl, rfl, rfl, Sub.tup s3.sub ht, hH, nd, fun z hz => Sub.tup s3.sub (hk z hz), hn, by rw [List.length_map] at hl; exact hl, ?_⟩
            obtain ⟨s4, x4⟩ := s3.put ha nF (DctO _ (xs ++ [(kk, b, .bool u)])) (o := .dct (xs.map (·.1) ++ [kk])) ⟨nF, xs ++ [(kk, b, .bool u)], upd_same, hs, by simp, List.nodup_append.mpr ⟨nd, by simp, fun y hy z hz => by
              rw [List.mem_singleton] at hz
              subst hz
              intro e
              subst e
              exact hn hy⟩, fun z hz => by
              rcases List.mem_append.mp hz with hz | hz
              · exact hk z hz
              · rw [List.mem_singleton] at hz
                subst hz
                exact ht⟩
            have xx := ((x1.trans x2).trans x3).trans x4
            exact k.nx _ _ _ _ _ _ xx s4 (er.ext xx) hq
      · cases h1
    · cases h
/-! ### sorted(d) -/
section
open PySem.W PySem.Calls
variable {P : Program} {w : World} {A : Around} {E : Value → Shared → Prop} {s : Shared}
end
theorem y38c (o b a : DE) : (DS.putD o b a).wp = wPutD a.wp o.wp b.wp := rfl
theorem r38c (o b a : DE) (Z : Cy) : (DS.putD o b a).rq Z = (a.rq Z ∧ o.rq Z ∧ b.rq Z) := rfl
/-! #### DL39 -/
/-! The D layer, part 39: sorted(set(t)), t a tuple of up to 250 tuples of ints that are all different. -/
/-! ### masks whose ways meet each slot -/
def Gm (m : Nat) : Prop := ∀ (h : Int) (j : Nat), j ≤ m → ∃ n, n ≤ m + 12 ∧ runI m (SetTable.bits h) n = j
theorem gm_of {m : Nat} (h : MaskOk m) : Gm m := fun x _ hj => run_meets h x hj
/-- the orbit, as a list -/
def orb (m : Nat) : Nat → Nat → List Nat
  | 0, _ => []
  | n + 1, i => i :: orb m n ((i * 5 + 1) % (m + 1))
theorem lcgI_next (m i : Nat) : ∀ k, lcgI m ((i * 5 + 1) % (m + 1)) k = lcgI m i (k + 1)
  | 0 => rfl
  | k + 1 => by
    show (lcgI m ((i * 5 + 1) % (m + 1)) k * 5 + 1) % (m + 1) = (lcgI m i (k + 1) * 5 + 1) % (m + 1)
    rw [lcgI_next m i k]
theorem orb_mem {m j : Nat} : ∀ (n i : Nat), j ∈ orb m n i → ∃ k, k < n ∧ lcgI m i k = j
  | 0, _, h => by cases h
  | n + 1, i, h => by
    rcases List.mem_cons.mp h with e | h
    · exact ⟨0, by omega, e.symm⟩
    · obtain ⟨k, hk, e⟩ := orb_mem n _ h
      exact ⟨k + 1, by omega, by rw [← lcgI_next]; exact e⟩
theorem orb511 : (List.range 512).all (fun j => (orb 511 512 0).contains j) = true := by decide +kernel
theorem per511 : lcgI 511 0 512 = 0 := by decide +kernel
theorem lcgI_add (m i : Nat) (a : Nat) : ∀ k, lcgI m (lcgI m i a) k = lcgI m i (a + k)
  | 0 => rfl
  | k + 1 => by
    show (lcgI m (lcgI m i a) k * 5 + 1) % (m + 1) = (lcgI m i (a + k) * 5 + 1) % (m + 1)
    rw [lcgI_add m i a k]
theorem gm_511 : Gm 511 := fun h j hj => by
  have at0 : ∀ j, j ≤ 511 → ∃ k, k < 512 ∧ lcgI 511 0 k = j := fun j hj => by
    have := List.all_eq_true.mp orb511 j (List.mem_range.mpr (by omega))
    exact orb_mem _ _ (List.contains_iff_mem.mp this)
  obtain ⟨a, ha, ea⟩ := at0 _ (runI_le 511 (SetTable.bits h) 12)
  obtain ⟨b, hb, eb⟩ := at0 j hj
  have key : ∃ k, k ≤ 511 ∧ lcgI 511 0 (a + k) = j := by
    by_cases c : a ≤ b
    · exact ⟨b - a, by omega, by rw [show a + (b - a) = b by omega]; exact eb⟩
    · refine ⟨b + 512 - a, by omega, ?_⟩
      rw [show a + (b + 512 - a) = 512 + b by omega, ← lcgI_add, per511]
      exact eb
  obtain ⟨k, hk, ek⟩ := key
  refine ⟨12 + k, by omega, ?_⟩
  rw [runI_tail (bits_lt h), ← ea, lcgI_add]
  exact ek
/-! ### the table -/
def Mk (m : Nat) : Prop := m = 7 ∨ m = 31 ∨ m = 127 ∨ m = 511
theorem Mk.gm {m : Nat} (h : Mk m) : Gm m := by
  rcases h with h | h | h | h
  · exact gm_of (.inl h)
  · exact gm_of (.inr (.inl h))
  · exact gm_of (.inr (.inr h))
  · rw [h]; exact gm_511
theorem Mk.odd {m : Nat} (h : Mk m) : m % 2 = 1 := by
  rcases h with h | h | h | h <;> rw [h]
theorem Mk.le {m : Nat} (h : Mk m) : m ≤ 511 := by
  rcases h with h | h | h | h <;> omega
structure TabW (t : SetTable) (n : Nat) : Prop where
  ris : Ris t.place.toList
  dm : t.dummies = #[]
  sz : t.place.size = n
  mok : Mk t.mask
/-- the first empty slot of a way -/
theorem TabW.first {t : SetTable} {n : Nat} (T : TabW t n) (hl : n ≤ t.mask) (h : Int) : ∃ K, K < 10 * SetTable.turns t.mask ∧ way t.mask h K ∉ t.place.toList ∧ ∀ k, k < K → way t.mask h k ∈ t.place.toList := by
  obtain ⟨j, hj, hn⟩ := st_missing t.place.toList (t.mask + 1) (by rw [Array.length_toList, T.sz]; omega)
  obtain ⟨r, hr, e⟩ := T.mok.gm h j (by omega)
  obtain ⟨c, hc, e2⟩ := run_nth t.mask (SetTable.bits h) r
  have ew : way t.mask h c = j := by
    show (nth t.mask (runAt t.mask (SetTable.bits h % (t.mask + 1)) (SetTable.bits h)) c).j = j
    rw [e2]
    exact e
  obtain ⟨K, h1, h2, h3⟩ := st_least (p := fun k => way t.mask h k ∉ t.place.toList) c (by rw [ew]; exact hn)
  refine ⟨K, ?_, h2, fun k hk => Decidable.byContradiction fun z => h3 k hk z⟩
  unfold SetTable.turns
  omega
theorem TabW.put {t : SetTable} {n j : Nat} (T : TabW t n) (hj : j ∉ t.place.toList) : TabW (t.put j).1 (n + 1) ∧ (t.put j).2 = SetTable.below t.place j ∧ (t.put j).1.mask = t.mask ∧ (t.put j).1.led = t.led ∧ (t.put j).1.plain = t.plain ∧ (t.put j).1.fill = n + 1 := by
  have ne : t.place[SetTable.below t.place j]? ≠ some j := fun e => hj (List.mem_of_getElem? (by rw [Array.getElem?_toList]; exact e))
  have dm := put_dm T.dm j
  have hs : (t.put j).1.place.size = n + 1 := by
    obtain ⟨c1, _, _⟩ := below_cut T.ris j
    rw [← Array.length_toList, put_place, len_ins _ (by rw [Array.length_toList]; exact c1), Array.length_toList, T.sz]
  refine ⟨⟨ris_insert T.ris ne, dm, hs, T.mok⟩, rfl, rfl, rfl, rfl, ?_⟩
  unfold SetTable.fill
  rw [hs, dm]
  rfl
/-! ### laying anew -/
structure OwW (m n : Nat) (ow : Array (Option Nat)) : Prop where
  sz : ow.size = m + 1
  all : ∀ k, k < n → ∃ j, j ≤ m ∧ oAt ow j = some k
  bd : ∃ js : List Nat, js.length = n ∧ ∀ j, j ≤ m → oAt ow j ≠ none → j ∈ js
theorem free_gm {m : Nat} (hm : Gm m) (ow : Array (Option Nat)) (h : Int) {j : Nat} (hj : j ≤ m) (hf : oAt ow j = none) : ∃ q, q ≤ m ∧ SetTable.layClean.free m ow (SetTable.turns m) (SetTable.bits h % (m + 1)) (SetTable.bits h) = some q ∧ oAt ow q = none := by
  obtain ⟨r, hr, e⟩ := hm h j hj
  have ew : way m h (off m (SetTable.bits h % (m + 1)) (SetTable.bits h) r) = j := by
    show (nth m (runAt m (SetTable.bits h % (m + 1)) (SetTable.bits h)) (off m (SetTable.bits h % (m + 1)) (SetTable.bits h) r)).j = j
    rw [nth_off, itL_run]
    exact e
  obtain ⟨K, h1, h2, h3⟩ := st_least (p := fun k => oAt ow (way m h k) = none) _ (by rw [ew]; exact hf)
  have hq : way m h K ≤ m := by
    have b := runEnd_bd (m := m) (i := SetTable.bits h % (m + 1)) (Nat.le_of_lt_succ (Nat.mod_lt (SetTable.bits h) (Nat.succ_pos m)))
    have := nth_in (m := m) K (runAt m (SetTable.bits h % (m + 1)) (SetTable.bits h)) (by unfold runAt; simp only; omega)
    show (nth m (runAt m (SetTable.bits h % (m + 1)) (SetTable.bits h)) K).j ≤ m
    omega
  refine ⟨_, hq, free_spec m ow (SetTable.turns m) r _ _ K (by unfold SetTable.turns; omega) h1 (fun k hk => ?_) ?_, h2⟩
  · have z := h3 k hk
    cases c : oAt ow (nth m (runAt m (SetTable.bits h % (m + 1)) (SetTable.bits h)) k).j with
    | none => exact absurd c z
    | some _ => rfl
  · have z : oAt ow (nth m (runAt m (SetTable.bits h % (m + 1)) (SetTable.bits h)) K).j = none := h2
    rw [z]; rfl
theorem OwW.step {m n : Nat} (hm : Gm m) {ow : Array (Option Nat)} (W : OwW m n ow) (hl : n ≤ m) (h : Int) : ∃ q, SetTable.layClean.free m ow (SetTable.turns m) (SetTable.bits h % (m + 1)) (SetTable.bits h) = some q ∧ OwW m (n + 1) (ow.setIfInBounds q (some n)) := by
  obtain ⟨js, hjs, hin⟩ := W.bd
  obtain ⟨j0, h0, hn0⟩ := st_missing js (m + 1) (by omega)
  have z0 : oAt ow j0 = none := Decidable.byContradiction fun z => hn0 (hin j0 (by omega) z)
  obtain ⟨q, hq, e, z⟩ := free_gm hm ow h (by omega) z0
  have self := oAt_set_self (owner := ow) (some n) (show q < ow.size by rw [W.sz]; omega)
  refine ⟨q, e, by rw [Array.size_setIfInBounds]; exact W.sz, fun k hk => ?_, q :: js, by rw [List.length_cons, hjs], fun j hj hne => ?_⟩
  · by_cases c : k = n
    · exact ⟨q, hq, by rw [self, c]⟩
    · obtain ⟨j, hj, e2⟩ := W.all k (by omega)
      refine ⟨j, hj, ?_⟩
      rw [oAt_set_ne _ (fun c => by rw [c, z] at e2; cases e2)]
      exact e2
  · by_cases c : j = q
    · rw [c]; exact List.mem_cons_self
    · rw [oAt_set_ne _ c] at hne
      exact List.mem_cons_of_mem _ (hin j hj hne)
/-! ### the set -/
section
variable {P : Program} {w : World} {A : Around} {E : Value → Shared → Prop} {s : Shared}
structure SetTW (P : Program) (w : World) (h : Heap) (a : Addr) (L : List (Addr × List Int)) (es : Array (Int × Value)) (ep : Nat) (t : SetTable) : Prop where
  ob : ∃ o, h.get? a = some o ∧ o.ExactSet ∧ o.data = .set es ep t
  rows : es.toList = L2.rowsOf P w L
  tab : TabW t L.length
  nd : (L.map (·.2)).Nodup
  tup : ∀ p ∈ L, IsT P w h p.2 p.1
  plain : t.plain = true
  led : w.params.followText "set-order" = true ∨ t.led = true
  room : L.length * 5 < t.mask * 3
  few : L.length ≤ 250
variable {a : Addr} {L : List (Addr × List Int)} {es : Array (Int × Value)} {ep : Nat} {t : SetTable}
theorem SetTW.gw (R : SetTW P w s.heap a L es ep t) : ¬ t.gaveWay = true := by
  unfold SetTable.gaveWay
  rw [R.tab.mok.odd]
  decide
theorem SetTW.keep {h h' : Heap} (R : SetTW P w h a L es ep t) (ha : ∀ o, h.get? a = some o → h'.get? a = some o) (ht : ∀ p ∈ L, IsT P w h' p.2 p.1) : SetTW P w h' a L es ep t := by
  obtain ⟨o, ho, r⟩ := R.ob
  exact ⟨⟨o, ha o ho, r⟩, R.rows, R.tab, R.nd, ht, R.plain, R.led, R.room, R.few⟩
end
section
open PySem.W PySem.Calls
variable {P : Program} {w : World} {A : Around} {E : Value → Shared → Prop} {s : Shared}
end
/-! #### DL40 -/
/-! The D layer, part 40: sum(lists, []). -/
section
open PySem
/-- the first i lists one after the other -/
def preL (val : Nat → List Value) : Nat → List Value
  | 0 => []
  | i + 1 => preL val i ++ val i
theorem preL_le (val : Nat → List Value) {n : Nat} : ∀ {i : Nat}, i ≤ n → (preL val i).length ≤ (preL val n).length := by
  induction n with
  | zero => intro i h; obtain rfl : i = 0 := by omega
            exact Nat.le_refl _
  | succ n ih =>
    intro i h
    by_cases e : i = n + 1
    · subst e; exact Nat.le_refl _
    · have := ih (i := i) (by omega)
      show _ ≤ (preL val n ++ val n).length
      rw [List.length_append]; omega
variable {prog : Program} {w : World} {A : Around} {R : Result → Shared → Prop} {I : Addr} {fp wr : List Addr} {n : Nat} {P : Nat → Value → Prop} {St : Nat → Heap → Prop}
theorem sum_loopL (W : Walks prog w A.in1 I fp wr n P St) (ad : Nat → Addr) (val : Nat → List Value) (hval : ∀ i v, i < n → P i v → v = .ref (ad i)) (S : Addr) (hfp : ∀ b ∈ fp, b < S) (had : ∀ i, i < n → ad i ∉ wr ∧ ad i < S) (hz : (preL val n).length ≤ sizeLine) :
    ∀ (k i : Nat) (s : Shared) (T : Addr) (c m : Nat), n - i = k → i ≤ n → St i s.heap → s.heap.get? S = some { cls := .type "list", dict := none, data := .seq #[.ref T] c, slots := #[] } → IsL s.heap T (preL val i).toArray m → T ∉ wr → T ≠ S → (∀ j, j < n → ∃ m', IsL s.heap (ad j) (val j).toArray m') →
    (∀ h' tk T' m', (∀ b o, b ∉ wr → b ≠ S → s.heap.get? b = some o → h'.get? b = some o) → IsL h' T' (preL val n).toArray m' → (T' = T ∧ i = n ∨ S < T') → R (.ok (.ret (.ref T'))) { s with heap := h', toks := tk }) →
    codeAny (model prog w) A (.builtin "sum.loop" ⟨[.ref I, .ref S, rawInt 2, rawInt 0], []⟩) R s := by
  have hSf : S ∉ fp := fun h => Nat.lt_irrefl _ (hfp _ h)
  have hSw : S ∉ wr := fun h => hSf (W.sub _ h)
  intro k
  induction k with
  | zero =>
    intro i s T c m hk hi hst hS hT hTw hTS hJ hR
    have hin : i = n := by omega
    subst hin
    refine codeAny_builtin F.entry_sum_loop ?_
    rw [Around.under_plainId F.plain_sum_loop _]
    show wpAny _ A.in1 (seqItems? (.ref S) >>= _) _ _ s
    refine wpAny_bind (wpAny_seqItems hS rfl ?_)
    show wpAny _ A.in1 (tryCatch (pyNext (.ref I)) _ >>= _) _ _ s
    refine wpAny_bind (wpAny_tryCatch (W.done s _ _ hst fun h' tk hk' => ?_))
    exact wpAny_pure (hR h' tk T m (fun b o hbw _ e => hk' b o hbw e) (hk' T _ hTw hT) (.inl ⟨rfl, rfl⟩))
  | succ k ih =>
    intro i s T c m hk hi hst hS hT hTw hTS hJ hR
    have hlt : i < n := by omega
    refine codeAny_builtin F.entry_sum_loop ?_
    rw [Around.under_plainId F.plain_sum_loop _]
    show wpAny _ A.in1 (seqItems? (.ref S) >>= _) _ _ s
    refine wpAny_bind (wpAny_seqItems hS rfl ?_)
    show wpAny _ A.in1 (tryCatch (pyNext (.ref I)) _ >>= _) _ _ s
    refine wpAny_bind (wpAny_tryCatch (W.item i s _ _ hlt hst fun v h' tk hP hst' hk' => ?_))
    obtain rfl := hval i v hlt hP
    have hS' := hk' S _ hSw hS
    have hT' := hk' T _ hTw hT
    obtain ⟨mi, hA⟩ := hJ i hlt
    have hA' := hk' (ad i) _ (had i hlt).1 hA
    have hle := preL_le val (i := i + 1) (n := n) hlt
    have hl1 : (preL val i).length + (val i).length ≤ sizeLine := by
      have : (preL val (i + 1)).length = (preL val i).length + (val i).length := List.length_append
      omega
    show wpAny _ A.in1 ((holding [Value.ref (ad i)] (binaryOp .Add (.ref T) (.ref (ad i)))).attempt >>= _) _ _ _
    refine wpAny_bind (wpAny_attempt (wpAny_holding (PySem.P.add_list hT' hA' ?_ (by rw [List.size_toArray, List.size_toArray]; exact hl1))))
    have hSlt : S < h'.objs.size := Heap.lt_size hS'
    have ea : (preL val i).toArray ++ (val i).toArray = (preL val (i + 1)).toArray := by
      show _ = (preL val i ++ val i).toArray
      simp
    rw [ea]
    have hS1 := Heap.get?_push_of_some { cls := .type "list", data := .seq (preL val (i + 1)).toArray } hS'
    have hN : IsL (h'.push { cls := .type "list", data := .seq (preL val (i + 1)).toArray }) h'.objs.size (preL val (i + 1)).toArray 0 := IsL.new h' _
    show wpAny _ A.in1 (updateSeq S (fun _ => #[.ref h'.objs.size]) >>= _) _ _ _
    refine wpAny_bind ?_
    refine wpAny_updateSeq hS1 rfl ?_
    have hS2 := Heap.get?_update_self (Obj.mapSeq fun _ => #[Value.ref h'.objs.size]) hS1 rfl
    refine wpAny_bind (wpAny_letGo ?_)
    refine wpAny_bind ?_
    have old : ∀ b o, b ≠ S → h'.get? b = some o → (((h'.push { cls := .type "list", data := .seq (preL val (i + 1)).toArray }).update S (Obj.mapSeq fun _ => #[Value.ref h'.objs.size])).update S (Obj.mapSeq fun _ => #[Value.ref h'.objs.size])).get? b = some o := fun b o hb e =>
      (Heap.get?_update_other _ _ (Ne.symm hb)).trans ((Heap.get?_update_other _ _ (Ne.symm hb)).trans (Heap.get?_push_of_some _ e))
    have nS : h'.objs.size ≠ S := Nat.ne_of_gt hSlt
    refine wpAny_updateSeq hS2 rfl (wpAny_pure ⟨plainId_quiet F.plain_sum_loop _, ih (i + 1) _ h'.objs.size _ 0 (by omega) hlt (W.frame _ _ _ hst' fun b hb o e => ?_) (Heap.get?_update_self _ hS2 rfl) ?_ ?_ nS ?_ fun h'' tk'' T'' m'' hk'' hI hc => ?_⟩)
    · exact old b o (fun h => hSf (h ▸ hb)) e
    · exact (Heap.get?_update_other _ _ (Ne.symm nS)).trans ((Heap.get?_update_other _ _ (Ne.symm nS)).trans hN)
    · exact fun h => Nat.lt_asymm hSlt (hfp _ (W.sub _ h))
    · intro j hj
      obtain ⟨mj, hAj⟩ := hJ j hj
      exact ⟨mj, old _ _ (Nat.ne_of_lt (had j hj).2) (hk' _ _ (had j hj).1 hAj)⟩
    · refine hR h'' tk'' T'' m'' (fun b o hbw hbS e => hk'' b o hbw hbS (old b o hbS (hk' b o hbw e))) hI ?_
      rcases hc with ⟨rfl, _⟩ | h
      · exact .inr hSlt
      · exact .inr h
end
section
open PySem
variable {prog : Program} {w : World} {A : Around} {E : Value → Shared → Prop} {s : Shared}
theorem args_sum2 (a b : Value) : argsOk "sum" ⟨[a, b], []⟩ := by unfold argsOk; kernel_rfl
theorem call_sumL {l b : Addr} {its : Array Value} {ad : Nat → Addr} {val : Nat → List Value} {mb : Nat} {Q : Value → Shared → Prop} (hh : A.handled = none) (hl : s.heap.IsList l its) (hb : IsL s.heap b #[] mb) (h1 : ∀ i, i < its.size → its[i]? = some (.ref (ad i))) (h2 : ∀ i, i < its.size → ∃ m, IsL s.heap (ad i) (val i).toArray m) (hn : 0 < its.size) (hz : (preL val its.size).length ≤ sizeLine)
    (hq : ∀ h' tk T m, (∀ b o, s.heap.get? b = some o → h'.get? b = some o) → IsL h' T (preL val its.size).toArray m → s.heap.objs.size ≤ T → Q (.ref T) { s with heap := h', toks := tk }) :
    wpAny (model prog w) A (call (.builtin "sum") [.ref l, .ref b]) Q E s := by
  have ll : @LT.lt Nat _ l s.heap.objs.size := by obtain ⟨o, ho, _⟩ := hl; exact Heap.lt_size ho
  have lb : @LT.lt Nat _ b s.heap.objs.size := Heap.lt_size hb
  refine call_function_tree F.kind_sum F.plain_sum F.entry_sum (args_sum2 _ _) ?_
  unfold Builtin.«sum»
  simp only [List.length_cons, List.length_nil]
  rw [if_neg (by decide)]
  refine wpAny_bind (wpAny_of_eq (show Builtin.Builtins.bindParams "sum" ["start"] 0 ⟨[.ref b], []⟩ = pure [some (.ref b)] from rfl) ?_)
  refine wpAny_bind (wpAny_pyIter_list hl ?_)
  have hb1 := IsL.push hb { cls := .type "list_iterator", data := .fields #[.ref l, .int 0 0] }
  have ti : Shared.TypeIs { s with heap := s.heap.push { cls := .type "list_iterator", data := .fields #[.ref l, .int 0 0] } } (.ref b) "list" := ⟨_, hb1, rfl⟩
  have hsz : (s.heap.push { cls := .type "list_iterator", data := .fields #[.ref l, .int 0 0] }).objs.size = s.heap.objs.size + 1 := Heap.size_push ..
  refine wpAny_bind (wpAny_pure ?_)
  simp only [List.forIn_cons, List.forIn_nil]
  refine wpAny_bind (wpAny_bind (wpAny_bind (wpAny_isInstance (T := "list") (b := false) ti F.sub_list_str ?_)))
  simp only [Bool.false_eq_true, if_false]
  refine wpAny_pure (wpAny_bind (wpAny_bind (wpAny_isInstance (T := "list") (b := false) ti F.sub_list_bytes ?_)))
  simp only [Bool.false_eq_true, if_false]
  refine wpAny_pure (wpAny_bind (wpAny_bind (wpAny_isInstance (T := "list") (b := false) ti F.sub_list_bytearray ?_)))
  simp only [Bool.false_eq_true, if_false]
  refine wpAny_pure (wpAny_pure ?_)
  refine wpAny_bind (wpAny_newObj_type ?_)
  have W := Walks.list (prog := prog) (w := w) (A := A.in1) hh s.heap.objs.size l (Nat.ne_of_lt ll) its
  have p1 : ∀ {b : Addr} {o : Obj}, s.heap.get? b = some o → ((s.heap.push { cls := .type "list_iterator", data := .fields #[.ref l, .int 0 0] }).push { cls := .type "list", data := .seq #[Value.ref b] }).get? b = some o := fun e => Heap.get?_push_of_some _ (Heap.get?_push_of_some _ e)
  have p2 : ∀ {c : Addr} {o : Obj}, s.heap.get? c = some o → ((s.heap.push { cls := .type "list_iterator", data := .fields #[.ref l, .int 0 0] }).push { cls := .type "list", data := .seq #[Value.ref b] }).get? c = some o := fun e => Heap.get?_push_of_some _ (Heap.get?_push_of_some _ e)
  refine wpAny_pure ⟨plainId_quiet F.plain_sum_loop _, sum_loopL W ad val (fun i v hi hP => ?_) (s.heap.push { cls := .type "list_iterator", data := .fields #[.ref l, .int 0 0] }).objs.size (fun c hc => ?_) (fun i hi => ?_) hz its.size 0 _ b 0 mb rfl (Nat.zero_le _) ?_ (Heap.get?_push_size _ rfl) (p2 hb) ?_ ?_ (fun j hj => ?_) fun h' tk T m hk hI hc => ?_⟩
  · rw [h1 i hi] at hP
    exact (Option.some.inj hP).symm
  · rw [hsz]
    rcases List.mem_cons.mp hc with e | hc
    · exact e ▸ Nat.lt_succ_self _
    · rcases List.mem_cons.mp hc with e | hc
      · exact e ▸ Nat.lt_succ_of_lt ll
      · cases hc
  · obtain ⟨m, hA⟩ := h2 i hi
    have lt := Heap.lt_size hA
    rw [hsz]
    refine ⟨fun hm => ?_, Nat.lt_succ_of_lt lt⟩
    exact Nat.ne_of_lt lt (List.mem_singleton.mp hm)
  · refine ⟨⟨_, Heap.get?_push_of_some _ (Heap.get?_push_size _ rfl), rfl, rfl⟩, ?_⟩
    exact (hl.push _).push _
  · intro hm
    exact Nat.ne_of_lt lb (List.mem_singleton.mp hm)
  · rw [hsz]; exact Nat.ne_of_lt (Nat.lt_succ_of_lt lb)
  · obtain ⟨m, hA⟩ := h2 j hj
    exact ⟨m, p2 hA⟩
  · refine hq h' tk T m (fun c o e => ?_) hI ?_
    · have lc := Heap.lt_size e
      refine hk c o (fun hm => ?_) (by rw [hsz]; exact Nat.ne_of_lt (Nat.lt_succ_of_lt lc)) (p2 e)
      exact Nat.ne_of_lt lc (List.mem_singleton.mp hm)
    · rcases hc with ⟨_, h⟩ | h
      · exact absurd h (Nat.ne_of_lt hn)
      · rw [hsz] at h; exact Nat.le_of_lt (Nat.lt_of_succ_lt h)
end
def rSumL : List V → Hp → VK → Prop := fun vs H Q => ∃ (a b : Addr) (L : List (Addr × List V)), vs = [.ref a, .ref b] ∧ H a = some (.lst (L.map fun p => .ref p.1)) ∧ (∀ p ∈ L, H p.1 = some (.lst p.2)) ∧ H b = some (.lst []) ∧ L ≠ [] ∧ (L.flatMap (·.2)).length ≤ sizeLine ∧ ∀ l, H l = none → Q (.ref l) (upd H l (.lst (L.flatMap (·.2))))
theorem cr_sumL {X : Cx} (calm : X.calm = true) : CallR X (.builtin "sum") rSumL := by
  intro pins s σ H vs us Q I r h
  obtain ⟨a, b, L, rfl, ha, hL, hb, hn, hz, q⟩ := h
  obtain ⟨u1, u2, rfl, r1, r2⟩ := vals2 r
  cases r1
  cases r2
  obtain ⟨za, ita, na, va, la, ea⟩ := I.lstM ha
  obtain ⟨zb, itb, nb, vb, lb, eb⟩ := I.lstM hb
  cases vb
  -- what stands at each place
  have key : ∀ (M : List (Addr × List V)) (ws : List Value), Vals (M.map fun p => V.ref p.1) ws → (∀ p ∈ M, H p.1 = some (.lst p.2)) → ∃ K : List (Addr × List Value), ws = K.map (fun p => Value.ref p.1) ∧ (∀ p ∈ K, ∃ m, IsL s.heap p.1 p.2.toArray m) ∧ Vals (M.flatMap (·.2)) (K.flatMap (·.2)) ∧ K.length = M.length := by
    intro M
    induction M with
    | nil => intro ws v _; cases v; exact ⟨[], rfl, by simp, .nil, rfl⟩
    | cons p M ih =>
      intro ws v hM
      cases v with
      | cons r t =>
        cases r
        obtain ⟨K, rfl, k2, k3, k4⟩ := ih _ t fun x hx => hM x (List.mem_cons_of_mem _ hx)
        obtain ⟨zp, itp, np, vp, lp, ep⟩ := I.lstM (hM p List.mem_cons_self)
        refine ⟨(p.1, itp) :: K, rfl, fun x hx => ?_, by rw [List.flatMap_cons, List.flatMap_cons]; exact vp.append k3, by simp [k4]⟩
        rcases List.mem_cons.mp hx with rfl | hx
        · exact ⟨np, ep⟩
        · exact k2 x hx
  obtain ⟨K, rfl, k2, k3, k4⟩ := key L _ va hL
  have kn : 0 < K.length := by
    rw [k4]
    exact List.length_pos_iff.mpr hn
  have gk : ∀ i, i < K.length → K[i]? = some (K.getD i (0, [])) := fun i hi => by rw [List.getD_eq_getElem?_getD, List.getElem?_eq_getElem hi]; rfl
  have pre : ∀ i, i ≤ K.length → preL (fun i => (K.getD i (0, [])).2) i = (K.take i).flatMap (·.2) := by
    intro i
    induction i with
    | zero => intro _; rfl
    | succ i ih =>
      intro hi
      show preL _ i ++ _ = _
      rw [ih (by omega), List.take_add_one, gk i (by omega), List.flatMap_append]
      simp
  have pn := pre K.length (Nat.le_refl _)
  rw [List.take_length] at pn
  refine call_sumL (ad := fun i => (K.getD i (0, [])).1) (val := fun i => (K.getD i (0, [])).2) (I.ok.hd calm) ⟨_, ea, rfl, na, rfl⟩ eb (fun i hi => ?_) (fun i hi => ?_) (by simpa using kn) (by rw [show (K.map (fun p => Value.ref p.1)).toArray.size = K.length by simp, pn, ← k3.length]; exact hz) fun h' tk T m hk hI hT => ?_
  · have hi : i < K.length := by simpa using hi
    have := gk i hi
    rw [List.getElem?_toArray, List.getElem?_map, this]
    rfl
  · have hi : i < K.length := by simpa using hi
    exact k2 _ (List.mem_of_getElem? (gk i hi))
  · rw [show (K.map (fun p => Value.ref p.1)).toArray.size = K.length by simp, pn] at hI
    refine ⟨.ref T, upd H T (.lst (L.flatMap (·.2))), I.laid (t' := tk) hk hT ⟨hz, K.flatMap (·.2), m, k3, hI⟩, rfl, q T (I.hok.fresh hT)⟩
def wSumL (a : WL) : WL := fun env S Q X => a env S (fun xs S1 => ∃ ls : List (List D), xs = [.lst (ls.map .lst), .lst []] ∧ ls ≠ [] ∧ ls.flatten.length ≤ sizeLine ∧ Q ls.flatten S1) X
theorem sumL_reps {K : Fg} {F : Hp} {ads : List Addr} {S : Sto} {H : Hp} (sm : Sim K F ads S H) : ∀ (ls : List (List D)) (us : List V), Rps K F ads (ls.map .lst) us → ∃ L : List (Addr × List V), us = L.map (fun p => .ref p.1) ∧ (∀ p ∈ L, H p.1 = some (.lst p.2)) ∧ Rps K F ads ls.flatten (L.flatMap (·.2)) ∧ L.length = ls.length
  | [], us, r => by cases r; exact ⟨[], rfl, by simp, .nil, rfl⟩
  | l :: ls, us, r => by
    cases r with
    | cons r t =>
      obtain ⟨L, rfl, h2, h3, h4⟩ := sumL_reps sm ls _ t
      obtain ⟨a, vs, rfl, ha, rs⟩ := lstX_at sm r (ds := l) rfl
      refine ⟨(a, vs) :: L, rfl, fun p hp => ?_, by rw [List.flatten_cons, List.flatMap_cons]; exact rs.append h3, by simp [h4]⟩
      rcases List.mem_cons.mp hp with rfl | hp
      · exact ha
      · exact h2 p hp
def DL.sumL (a : DA) : DL where
  mt c e := bltB "sum" a c e
  wp := wSumL a.wp
  rq Z := Z.mg "sum" = none ∧ a.rq Z
  ok X W T e h g q := by
    unfold bltB at h
    split at h
    · simp only [Bool.and_eq_true, beq_iff_eq] at h
      obtain ⟨⟨rfl, h1⟩, h2⟩ := h
      obtain ⟨pa, ps⟩ := a.ok X W T _ h2 g q.2
      simp only [List.all_cons, Bool.and_eq_true] at ps
      refine PE.imp (pe_callB (cr_sumL g.calm) (gl_of h1) q.1 (by decide +kernel) pa (by decide) (by decide) (starEach_cons ps.1) (star_any ps.2)) fun σ H Q ⟨env, S, F, ads, Qd, Xd, er, sm, hw, kv, kx⟩ => ?_
      refine ⟨env, S, F, ads, _, Xd, er, sm, hw, fun F1 ads1 S1 H1 xs vs x1 s1 r1 _ hh => ?_, kx⟩
      obtain ⟨ls, rfl, hn, hz, hq⟩ := hh
      cases r1 with
      | cons r t =>
        cases t with
        | cons r2 t2 =>
          cases t2
          obtain ⟨a, us, rfl, ha, rs⟩ := lstX_at s1 r (ds := ls.map .lst) rfl
          obtain ⟨b, ub, rfl, hb, rb⟩ := lstX_at s1 r2 (ds := []) rfl
          cases rb
          obtain ⟨L, rfl, l2, l3, l4⟩ := sumL_reps s1 ls _ rs
          refine ⟨a, b, L, rfl, ha, l2, hb, fun e => hn ?_, by rw [← l3.length]; exact hz, fun l hl => kv _ _ _ _ _ _ _ x1 s1 l3 hl hq⟩
          rw [e] at l4
          exact List.eq_nil_of_length_eq_zero l4.symm
    · cases h
theorem y40a (a : DA) : (DL.sumL a).wp = wSumL a.wp := rfl
theorem r40a (a : DA) (Z : Cy) : (DL.sumL a).rq Z = (Z.mg "sum" = none ∧ a.rq Z) := rfl
/-! #### MA -/
/-! Rows of whole numbers: lattices, sifting, the normal form. -/
def plusV (u : List Int) (k : Int) (v : List Int) : List Int := (u.zip v).map fun p => p.1 + k * p.2
def gt (v : List Int) (i : Nat) : Int := v.getD i 0
def zb (p : Nat) (v : List Int) : Prop := ∀ i, i < p → gt v i = 0
theorem gt_lt {v : List Int} {i : Nat} (h : i < v.length) : gt v i = v[i] := by simp [gt, h]
theorem gt_ge {v : List Int} {i : Nat} (h : v.length ≤ i) : gt v i = 0 := by simp [gt, h]
theorem plus_len {u v : List Int} {k : Int} (h : u.length = v.length) : (plusV u k v).length = u.length := by simp [plusV, h]
theorem gt_plus {u v : List Int} (h : u.length = v.length) (k : Int) (i : Nat) : gt (plusV u k v) i = gt u i + k * gt v i := by
  by_cases hi : i < u.length
  · rw [gt_lt (by rw [plus_len h]; exact hi), gt_lt hi, gt_lt (by omega)]
    simp [plusV]
  · rw [gt_ge (by rw [plus_len h]; omega), gt_ge (by omega), gt_ge (by omega)]
    simp
theorem ext_gt {u v : List Int} (h : u.length = v.length) (e : ∀ i, i < u.length → gt u i = gt v i) : u = v := by
  apply List.ext_getElem h
  intro i h1 h2
  have := e i h1
  rwa [gt_lt h1, gt_lt h2] at this
theorem gt_zero (m i : Nat) : gt (List.replicate m 0) i = 0 := by
  by_cases h : i < m
  · rw [gt_lt (by simpa using h)]; simp
  · rw [gt_ge (by simpa using Nat.le_of_not_lt h)]
/-- the vectors that rows of length m generate -/
inductive Lat (m : Nat) (R : List (List Int)) : List Int → Prop
  | zero : Lat m R (List.replicate m 0)
  | add {v r : List Int} (k : Int) : Lat m R v → r ∈ R → Lat m R (plusV v k r)
def Len (m : Nat) (R : List (List Int)) : Prop := ∀ r ∈ R, r.length = m
theorem Lat.len {m : Nat} {R : List (List Int)} (hR : Len m R) {v : List Int} (h : Lat m R v) : v.length = m := by
  induction h with
  | zero => simp
  | add k _ hr ih => rw [plus_len (by rw [ih, hR _ hr]), ih]
theorem Lat.comb {m : Nat} {R : List (List Int)} (hR : Len m R) {u v : List Int} (hu : Lat m R u) (k : Int) (hv : Lat m R v) : Lat m R (plusV u k v) := by
  induction hv generalizing u k with
  | zero =>
    have : plusV u k (List.replicate m 0) = u := by
      have lu := hu.len hR
      apply ext_gt
      · rw [plus_len (by simp [lu])]
      · intro i _
        rw [gt_plus (by simp [lu]), gt_zero]; simp
    rw [this]; exact hu
  | add j hv hr ih =>
    rename_i v r
    have lu := hu.len hR
    have lv := hv.len hR
    have lr := hR _ hr
    have e : plusV u k (plusV v j r) = plusV (plusV u k v) (k * j) r := by
      have l1 : (plusV v j r).length = m := by rw [plus_len (by omega), lv]
      have l2 : (plusV u k v).length = m := by rw [plus_len (by omega), lu]
      apply ext_gt
      · rw [plus_len (by omega), plus_len (by omega), l2, lu]
      · intro i _
        rw [gt_plus (by omega), gt_plus (by omega), gt_plus (by omega), gt_plus (by omega)]
        grind
    rw [e]
    exact .add _ (ih hu k) hr
theorem Lat.of_mem {m : Nat} {R : List (List Int)} {r : List Int} (hr : r ∈ R) (hl : r.length = m) : Lat m R r := by
  have e : plusV (List.replicate m 0) 1 r = r := by
    apply ext_gt
    · rw [plus_len (by simp [hl])]; simp [hl]
    · intro i _
      rw [gt_plus (by simp [hl]), gt_zero]; simp
  rw [← e]
  exact .add _ .zero hr
theorem Lat.mono {m : Nat} {R T : List (List Int)} (hT : Len m T) (h : ∀ r ∈ R, Lat m T r) {v : List Int} (hv : Lat m R v) : Lat m T v := by
  induction hv with
  | zero => exact .zero
  | add k _ hr ih => exact ih.comb hT k (h _ hr)
/-- the normal form of a set of vectors, by places -/
def EchP (m p : Nat) (L : List Int → Prop) (g : Nat → Option (List Int)) : Prop := ∀ q, q < p →
  (g q = none → ∀ v, L v → zb q v → gt v q = 0) ∧ ∀ f, g q = some f → L f ∧ f.length = m ∧ zb q f ∧ 0 < gt f q ∧ (∀ v, L v → zb q v → gt f q ∣ gt v q) ∧ ∀ r f', q < r → r < p → g r = some f' → 0 ≤ gt f r ∧ gt f r < gt f' r
def rowsOf (p : Nat) (g : Nat → Option (List Int)) : List (List Int) := (List.range p).filterMap g
/-! #### MB -/
theorem fm_pos (a : Int) {b : Int} (h : 0 < b) : 0 ≤ a.fmod b ∧ a.fmod b < b := ⟨Int.fmod_nonneg_of_pos a h, Int.fmod_lt_of_pos a h⟩
theorem fm_neg (a : Int) {b : Int} (h : b < 0) : b < a.fmod b ∧ a.fmod b ≤ 0 := by
  have e := Int.neg_fmod_neg a b
  have := fm_pos (-a) (b := -b) (by omega)
  omega
theorem fm_abs (a : Int) {b : Int} (h : b ≠ 0) : (a.fmod b).natAbs < b.natAbs := by
  by_cases hb : 0 < b
  · have := fm_pos a hb; omega
  · have := fm_neg a (b := b) (by omega); omega
theorem fd_abs (a : Int) {b : Int} (h : b ≠ 0) : (a.fdiv b).natAbs * b.natAbs ≤ a.natAbs + b.natAbs := by
  have e := Int.mul_fdiv_add_fmod a b
  have := fm_abs a h
  rw [← Int.natAbs_mul, Int.mul_comm]
  omega
theorem fm_half {a b : Int} (hs : (0 < a ∧ 0 < b) ∨ (a < 0 ∧ b < 0)) (hl : b.natAbs ≤ a.natAbs) : 2 * (a.fmod b).natAbs ≤ a.natAbs := by
  have e := Int.mul_fdiv_add_fmod a b
  rcases hs with ⟨h1, h2⟩ | ⟨h1, h2⟩
  · have f := fm_pos a h2
    have q : 1 ≤ a.fdiv b := by
      by_cases q : a.fdiv b ≤ 0
      · have : b * a.fdiv b ≤ b * 0 := Int.mul_le_mul_of_nonneg_left q (by omega)
        omega
      · omega
    have : b * 1 ≤ b * a.fdiv b := Int.mul_le_mul_of_nonneg_left q (by omega)
    omega
  · have f := fm_neg a h2
    have q : 1 ≤ a.fdiv b := by
      by_cases q : a.fdiv b ≤ 0
      · have : (-b) * a.fdiv b ≤ (-b) * 0 := Int.mul_le_mul_of_nonneg_left q (by omega)
        simp only [Int.neg_mul] at this
        omega
      · omega
    have : (-b) * 1 ≤ (-b) * a.fdiv b := Int.mul_le_mul_of_nonneg_left q (by omega)
    simp only [Int.neg_mul] at this
    omega
def red (p : Nat) (f u : List Int) : List Int := plusV u (-((gt u p).fdiv (gt f p))) f
theorem red_len {p : Nat} {f u : List Int} (h : u.length = f.length) : (red p f u).length = u.length := plus_len h
theorem red_gt {p : Nat} {f u : List Int} (h : u.length = f.length) (i : Nat) : gt (red p f u) i = gt u i - (gt u p).fdiv (gt f p) * gt f i := by
  unfold red
  rw [gt_plus h, Int.neg_mul]
  omega
theorem red_at {p : Nat} {f u : List Int} (h : u.length = f.length) : gt (red p f u) p = (gt u p).fmod (gt f p) := by
  rw [red_gt h, Int.fmod_def, Int.mul_comm]
theorem red_zb {p : Nat} {f u : List Int} (h : u.length = f.length) (hu : zb p u) (hf : zb p f) : zb p (red p f u) := fun i hi => by
  rw [red_gt h, hu i hi, hf i hi]; omega
theorem red_lat {m p : Nat} {R : List (List Int)} (hR : Len m R) {f u : List Int} (hu : Lat m R u) (hf : Lat m R f) : Lat m R (red p f u) := hu.comb hR _ hf
def Bd (E : Nat) (v : List Int) : Prop := ∀ x ∈ v, x.natAbs ≤ E
theorem Bd.mono {E E' : Nat} {v : List Int} (h : Bd E v) (e : E ≤ E') : Bd E' v := fun x hx => Nat.le_trans (h x hx) e
theorem Bd.at {E : Nat} {v : List Int} (h : Bd E v) (i : Nat) : (gt v i).natAbs ≤ E := by
  by_cases hi : i < v.length
  · rw [gt_lt hi]; exact h _ (List.getElem_mem hi)
  · rw [gt_ge (by omega)]; simp
theorem Bd.plus {E : Nat} {u v : List Int} {k : Int} (hu : Bd E u) (hv : Bd E v) : Bd (E * (1 + k.natAbs)) (plusV u k v) := by
  intro x hx
  unfold plusV at hx
  rw [List.mem_map] at hx
  obtain ⟨⟨a, b⟩, hm, rfl⟩ := hx
  have h := List.of_mem_zip hm
  have h1 := hu a h.1
  have h2 := hv b h.2
  have h3 : (k * b).natAbs ≤ k.natAbs * E := by rw [Int.natAbs_mul]; exact Nat.mul_le_mul (Nat.le_refl _) h2
  have h4 : E * (1 + k.natAbs) = E + k.natAbs * E := by rw [Nat.mul_add, Nat.mul_one, Nat.mul_comm]
  show (a + k * b).natAbs ≤ _
  rw [h4]
  omega
theorem mem_plus {u v : List Int} {k x : Int} (h : x ∈ plusV u k v) : ∃ a ∈ u, ∃ b ∈ v, x = a + k * b := by
  unfold plusV at h
  rw [List.mem_map] at h
  obtain ⟨⟨a, b⟩, hm, rfl⟩ := h
  have h := List.of_mem_zip hm
  exact ⟨a, h.1, b, h.2, rfl⟩
/-- the state of the inner loop -/
structure WInv (m p : Nat) (R : List (List Int)) (E0 : Nat) (so re : List (List Int)) : Prop where
  s1 : ∀ u ∈ so, Lat m R u ∧ zb p u ∧ gt u p ≠ 0
  r1 : ∀ u ∈ re, Lat m R u ∧ zb (p + 1) u
  cl : ∀ v, Lat m R v → zb p v → Lat m (so ++ re) v
  bd : ∃ E M, (∀ u ∈ so ++ re, Bd E u) ∧ (∀ u ∈ so, (gt u p).natAbs ≤ M) ∧ M ≤ E0 ∧
    ((E ≤ E0 ∧ M ≤ E0) ∨ (((∀ u ∈ so, 0 < gt u p) ∨ (∀ u ∈ so, gt u p < 0)) ∧ ∃ w ∈ so, E * M * (M * (gt w p).natAbs) ^ 2 ≤ 3 * E0 ^ 6) ∨ (so.length ≤ 1 ∧ E ≤ 9 * E0 ^ 6))
def wsum (p : Nat) : List (List Int) → Nat
  | [] => 0
  | u :: r => (gt u p).natAbs + wsum p r
theorem wsum_filter {p : Nat} {a : List (List Int)} {q : List Int → Bool} : wsum p (a.filter q) ≤ wsum p a := by
  induction a with
  | nil => simp [wsum]
  | cons x r ih =>
    rw [List.filter_cons]
    split
    · simp only [wsum]; omega
    · simp only [wsum]; omega
theorem WInv.perm {m p : Nat} {R : List (List Int)} {E0 : Nat} {so so' re : List (List Int)} (hR : Len m R) (h : WInv m p R E0 so re) (hp : so'.Perm so) : WInv m p R E0 so' re := by
  have hm : ∀ u, u ∈ so' ↔ u ∈ so := fun u => hp.mem_iff
  have hl : so'.length = so.length := hp.length_eq
  obtain ⟨E, M, b1, b2, b3, b4⟩ := h.bd
  refine ⟨fun u hu => h.s1 u ((hm u).mp hu), h.r1, fun v hv hz => ?_, E, M, fun u hu => ?_, fun u hu => b2 u ((hm u).mp hu), b3, ?_⟩
  · refine Lat.mono (fun r hr => ?_) (fun r hr => Lat.of_mem ?_ ?_) (h.cl v hv hz)
    · rcases List.mem_append.mp hr with q | q
      · exact (h.s1 r ((hm r).mp q)).1.len hR
      · exact (h.r1 r q).1.len hR
    · rcases List.mem_append.mp hr with q | q
      · exact List.mem_append_left _ ((hm r).mpr q)
      · exact List.mem_append_right _ q
    · rcases List.mem_append.mp hr with q | q
      · exact (h.s1 r q).1.len hR
      · exact (h.r1 r q).1.len hR
  · refine b1 u ?_
    rcases List.mem_append.mp hu with q | q
    · exact List.mem_append_left _ ((hm u).mp q)
    · exact List.mem_append_right _ q
  · rcases b4 with q | ⟨q, w, hw, q2⟩ | ⟨q, q2⟩
    · exact .inl q
    · refine .inr (.inl ⟨?_, w, (hm w).mpr hw, q2⟩)
      rcases q with q | q
      · exact .inl fun u hu => q u ((hm u).mp hu)
      · exact .inr fun u hu => q u ((hm u).mp hu)
    · exact .inr (.inr ⟨by omega, q2⟩)
theorem pot2 {E E' M K l w r : Nat} (h : E' * l ≤ 3 * (E * M)) (hl : l ≤ w) (hr : 2 * r ≤ M) (hK : E * M * (M * w) ^ 2 ≤ K) : E' * l * (l * r) ^ 2 ≤ K := by
  have a : E' * l * ((l * (2 * r)) ^ 2) ≤ 3 * (E * M) * ((w * M) ^ 2) := Nat.mul_le_mul h (Nat.pow_le_pow_left (Nat.mul_le_mul hl hr) 2)
  have b : E' * l * ((l * (2 * r)) ^ 2) = 4 * (E' * l * (l * r) ^ 2) := by grind
  have c : 3 * (E * M) * ((w * M) ^ 2) = 3 * (E * M * (M * w) ^ 2) := by grind
  rw [b, c] at a
  omega
theorem pot1 {E E' M E0 l r : Nat} (h : E' * l ≤ 3 * (E * M)) (hE : E ≤ E0) (hM : M ≤ E0) (hl : l ≤ E0) (hr : r ≤ E0) : E' * l * (l * r) ^ 2 ≤ 3 * E0 ^ 6 := by
  have h' : E' * l ≤ 3 * (E0 * E0) := Nat.le_trans h (Nat.mul_le_mul (Nat.le_refl _) (Nat.mul_le_mul hE hM))
  have a : E' * l * (l * r) ^ 2 ≤ 3 * (E0 * E0) * (E0 * E0) ^ 2 := Nat.mul_le_mul h' (Nat.pow_le_pow_left (Nat.mul_le_mul hl hr) 2)
  have b : 3 * (E0 * E0) * (E0 * E0) ^ 2 = 3 * E0 ^ 6 := by grind
  omega
theorem one_le_pow6 {E : Nat} (h : 1 ≤ E) : E * E ≤ E ^ 6 := by
  have : E ^ 2 ≤ E ^ 6 := Nat.pow_le_pow_right h (by omega)
  have e : E ^ 2 = E * E := by grind
  omega
/-- one turn of the inner loop -/
theorem WInv.step {m p : Nat} {R : List (List Int)} {E0 : Nat} {f : List Int} {tl re : List (List Int)} (hR : Len m R) (h : WInv m p R E0 (f :: tl) re) (ht : tl ≠ []) (hs : ∀ u ∈ tl, (gt f p).natAbs ≤ (gt u p).natAbs) :
    WInv m p R E0 (f :: (tl.map (red p f)).filter (fun u => gt u p != 0)) (re ++ (tl.map (red p f)).filter (fun u => gt u p == 0)) ∧
    wsum p (f :: (tl.map (red p f)).filter (fun u => gt u p != 0)) < wsum p (f :: tl) := by
  obtain ⟨fL, fz, fn⟩ := h.s1 f List.mem_cons_self
  have fl := fL.len hR
  have tL : ∀ u ∈ tl, Lat m R u ∧ zb p u ∧ gt u p ≠ 0 := fun u hu => h.s1 u (List.mem_cons_of_mem _ hu)
  have tl' : ∀ u ∈ tl, u.length = f.length := fun u hu => by rw [(tL u hu).1.len hR, fl]
  have rl : ∀ u ∈ re, u.length = m := fun u hu => (h.r1 u hu).1.len hR
  have sL : ∀ u ∈ tl.map (red p f), Lat m R u ∧ zb p u := fun u hu => by
    obtain ⟨w, hw, rfl⟩ := List.mem_map.mp hu
    exact ⟨red_lat hR (tL w hw).1 fL, red_zb (tl' w hw) (tL w hw).2.1 fz⟩
  have hLn : Len m (f :: (tl.map (red p f)).filter (fun u => gt u p != 0) ++ (re ++ (tl.map (red p f)).filter (fun u => gt u p == 0))) := by
    intro r hr
    simp only [List.cons_append, List.mem_cons, List.mem_append, List.mem_filter] at hr
    rcases hr with rfl | ⟨q, _⟩ | q | ⟨q, _⟩
    · exact fl
    · exact (sL r q).1.len hR
    · exact rl r q
    · exact (sL r q).1.len hR
  refine ⟨⟨?_, ?_, ?_, ?_⟩, ?_⟩
  · intro u hu
    rcases List.mem_cons.mp hu with rfl | q
    · exact ⟨fL, fz, fn⟩
    · obtain ⟨q1, q2⟩ := List.mem_filter.mp q
      exact ⟨(sL u q1).1, (sL u q1).2, by simpa using q2⟩
  · intro u hu
    rcases List.mem_append.mp hu with q | q
    · exact h.r1 u q
    · obtain ⟨q1, q2⟩ := List.mem_filter.mp q
      refine ⟨(sL u q1).1, fun i hi => ?_⟩
      by_cases e : i = p
      · subst e; simpa using q2
      · exact (sL u q1).2 i (by omega)
  · intro v hv hz
    refine Lat.mono hLn (fun r hr => ?_) (h.cl v hv hz)
    have fm : f ∈ (f :: (tl.map (red p f)).filter (fun u => gt u p != 0) ++ (re ++ (tl.map (red p f)).filter (fun u => gt u p == 0))) := by simp
    simp only [List.cons_append, List.mem_cons, List.mem_append] at hr
    rcases hr with rfl | q | q
    · exact Lat.of_mem fm fl
    · have e : r = plusV (red p f r) ((gt r p).fdiv (gt f p)) f := by
        have l1 := tl' r q
        have l2 := red_len (p := p) l1
        apply ext_gt
        · rw [plus_len (by omega), l2]
        · intro i _
          rw [gt_plus (by omega), red_gt l1]; omega
      have hmem : red p f r ∈ tl.map (red p f) := List.mem_map_of_mem q
      have : Lat m (f :: (tl.map (red p f)).filter (fun u => gt u p != 0) ++ (re ++ (tl.map (red p f)).filter (fun u => gt u p == 0))) (red p f r) := by
        refine Lat.of_mem ?_ ((sL _ hmem).1.len hR)
        simp only [List.cons_append, List.mem_cons, List.mem_append, List.mem_filter]
        by_cases z : gt (red p f r) p = 0
        · exact .inr (.inr (.inr ⟨hmem, by simp [z]⟩))
        · exact .inr (.inl ⟨hmem, by simp [z]⟩)
      rw [e]
      exact this.comb hLn _ (Lat.of_mem fm fl)
    · exact Lat.of_mem (by simp [q]) (rl r q)
  · obtain ⟨E, M, b1, b2, b3, b4⟩ := h.bd
    have hl0 : 1 ≤ (gt f p).natAbs := by omega
    have hlM := b2 f List.mem_cons_self
    have hE' : E * (3 * M / (gt f p).natAbs) * (gt f p).natAbs ≤ 3 * (E * M) := by
      rw [Nat.mul_assoc]
      have : 3 * M / (gt f p).natAbs * (gt f p).natAbs ≤ 3 * M := Nat.div_mul_le_self _ _
      calc _ ≤ E * (3 * M) := Nat.mul_le_mul (Nat.le_refl _) this
        _ = 3 * (E * M) := by grind
    have h1 : 1 ≤ 3 * M / (gt f p).natAbs := (Nat.le_div_iff_mul_le (by omega)).mpr (by omega)
    have hEE : E ≤ E * (3 * M / (gt f p).natAbs) := by
      calc E = E * 1 := by omega
        _ ≤ _ := Nat.mul_le_mul (Nat.le_refl _) h1
    have bR : ∀ u ∈ tl.map (red p f), Bd (E * (3 * M / (gt f p).natAbs)) u := fun u hu => by
      obtain ⟨w, hw, rfl⟩ := List.mem_map.mp hu
      have := (b1 w (by simp [hw])).plus (k := -((gt w p).fdiv (gt f p))) (b1 f (by simp))
      refine this.mono (Nat.mul_le_mul (Nat.le_refl _) ?_)
      rw [Nat.le_div_iff_mul_le (by omega), Int.natAbs_neg, Nat.add_mul]
      have q1 := fd_abs (gt w p) fn
      have q2 := b2 w (by simp [hw])
      omega
    have aR : ∀ u ∈ tl.map (red p f), (gt u p).natAbs < (gt f p).natAbs := fun u hu => by
      obtain ⟨w, hw, rfl⟩ := List.mem_map.mp hu
      rw [red_at (tl' w hw)]
      exact fm_abs _ fn
    have sg : (∀ u ∈ f :: (tl.map (red p f)).filter (fun u => gt u p != 0), 0 < gt u p) ∨ (∀ u ∈ f :: (tl.map (red p f)).filter (fun u => gt u p != 0), gt u p < 0) := by
      by_cases s : 0 < gt f p
      · refine .inl fun u hu => ?_
        rcases List.mem_cons.mp hu with rfl | q
        · exact s
        · obtain ⟨q1, q2⟩ := List.mem_filter.mp q
          obtain ⟨w, hw, rfl⟩ := List.mem_map.mp q1
          have q2 : gt (red p f w) p ≠ 0 := by simpa using q2
          rw [red_at (tl' w hw)] at q2 ⊢
          have := fm_pos (gt w p) s
          omega
      · refine .inr fun u hu => ?_
        rcases List.mem_cons.mp hu with rfl | q
        · omega
        · obtain ⟨q1, q2⟩ := List.mem_filter.mp q
          obtain ⟨w, hw, rfl⟩ := List.mem_map.mp q1
          have q2 : gt (red p f w) p ≠ 0 := by simpa using q2
          rw [red_at (tl' w hw)] at q2 ⊢
          have := fm_neg (gt w p) (b := gt f p) (by omega)
          omega
    refine ⟨E * (3 * M / (gt f p).natAbs), (gt f p).natAbs, ?_, ?_, by omega, ?_⟩
    · intro u hu
      simp only [List.cons_append, List.mem_cons, List.mem_append, List.mem_filter] at hu
      rcases hu with rfl | ⟨q, _⟩ | q | ⟨q, _⟩
      · exact (b1 u (by simp)).mono hEE
      · exact bR u q
      · exact (b1 u (by simp [q])).mono hEE
      · exact bR u q
    · intro u hu
      rcases List.mem_cons.mp hu with rfl | q
      · exact Nat.le_refl _
      · exact Nat.le_of_lt (aR u (List.mem_filter.mp q).1)
    · cases hc : (tl.map (red p f)).filter (fun u => gt u p != 0) with
      | nil =>
        refine .inr (.inr ⟨by simp, ?_⟩)
        have hx : E * (3 * M / (gt f p).natAbs) ≤ E * (3 * M / (gt f p).natAbs) * (gt f p).natAbs := by
          calc _ = E * (3 * M / (gt f p).natAbs) * 1 := by omega
            _ ≤ _ := Nat.mul_le_mul (Nat.le_refl _) hl0
        have hE0 : 1 ≤ E0 := by omega
        have h6 := one_le_pow6 hE0
        rcases b4 with ⟨q, _⟩ | ⟨_, w, hw, q⟩ | ⟨q, _⟩
        · have : E * M ≤ E0 * E0 := Nat.mul_le_mul q b3
          omega
        · have : 1 ≤ M * (gt w p).natAbs := Nat.mul_pos (by omega) (by have := (h.s1 w hw).2.2; omega)
          have : 1 ≤ (M * (gt w p).natAbs) ^ 2 := Nat.pow_pos this
          have : E * M * 1 ≤ E * M * (M * (gt w p).natAbs) ^ 2 := Nat.mul_le_mul (Nat.le_refl _) this
          omega
        · exfalso
          cases tl with
          | nil => exact ht rfl
          | cons a r => simp at q
      | cons r rs =>
        have hr : r ∈ (tl.map (red p f)).filter (fun u => gt u p != 0) := by rw [hc]; simp
        obtain ⟨r1, r2⟩ := List.mem_filter.mp hr
        rw [← hc]
        refine .inr (.inl ⟨sg, r, List.mem_cons_of_mem _ hr, ?_⟩)
        have ra := aR r r1
        rcases b4 with ⟨q, q'⟩ | ⟨sg', w, hw, q⟩ | ⟨q, _⟩
        · exact pot1 hE' q q' (by omega) (by omega)
        · refine pot2 hE' ?_ ?_ q
          · rcases List.mem_cons.mp hw with rfl | q
            · exact Nat.le_refl _
            · exact hs w q
          · obtain ⟨x, hx, rfl⟩ := List.mem_map.mp r1
            rw [red_at (tl' x hx)]
            have hM := b2 x (by simp [hx])
            have := fm_half (a := gt x p) (b := gt f p) (by
              rcases sg' with sg' | sg'
              · exact .inl ⟨sg' x (by simp [hx]), sg' f (by simp)⟩
              · exact .inr ⟨sg' x (by simp [hx]), sg' f (by simp)⟩) (hs x hx)
            omega
        · exfalso
          cases tl with
          | nil => exact ht rfl
          | cons a r => simp at q
  · have key : ∀ l : List (List Int), (∀ u ∈ l, u.length = f.length) → (∀ u ∈ l, (gt f p).natAbs ≤ (gt u p).natAbs) → wsum p (l.map (red p f)) + l.length ≤ wsum p l := by
      intro l
      induction l with
      | nil => intro _ _; simp [wsum]
      | cons a r ih =>
        intro h1 h2
        have i := ih (fun u hu => h1 u (List.mem_cons_of_mem _ hu)) (fun u hu => h2 u (List.mem_cons_of_mem _ hu))
        simp only [List.map_cons, wsum, List.length_cons]
        rw [red_at (h1 a List.mem_cons_self)]
        have := fm_abs (gt a p) fn
        have := h2 a List.mem_cons_self
        omega
    have k := key tl tl' hs
    have : 1 ≤ tl.length := by cases tl with | nil => exact absurd rfl ht | cons a r => simp
    have := wsum_filter (p := p) (a := tl.map (red p f)) (q := fun u => gt u p != 0)
    simp only [wsum]
    omega
/-! #### MC -/
theorem Lat.split {m : Nat} {f : List Int} {T : List (List Int)} (hf : f.length = m) (hT : Len m T) {v : List Int} (h : Lat m (f :: T) v) : ∃ c w, Lat m T w ∧ v = plusV w c f := by
  induction h with
  | zero =>
    refine ⟨0, _, .zero, ?_⟩
    apply ext_gt
    · rw [plus_len (by simp [hf])]
    · intro i _
      rw [gt_plus (by simp [hf])]; omega
  | add k hv hr ih =>
    obtain ⟨c, w, hw, rfl⟩ := ih
    have lw := hw.len hT
    rcases List.mem_cons.mp hr with rfl | q
    · refine ⟨c + k, w, hw, ?_⟩
      apply ext_gt
      · rw [plus_len (by rw [plus_len (by omega)]; omega), plus_len (by omega), plus_len (by omega)]
      · intro i _
        rw [gt_plus (by rw [plus_len (by omega)]; omega), gt_plus (by omega), gt_plus (by omega), Int.add_mul]; omega
    · have lr := hT _ q
      refine ⟨c, _, .add k hw q, ?_⟩
      have l1 : (plusV w c f).length = m := by rw [plus_len (by omega), lw]
      have l2 : ∀ r, r ∈ T → (plusV w k r).length = m := fun r hr => by rw [plus_len (by rw [hT r hr, lw]), lw]
      apply ext_gt
      · rw [plus_len (by omega), l1, plus_len (by rw [l2 _ q, hf]), l2 _ q]
      · intro i _
        rw [gt_plus (by omega), gt_plus (by omega), gt_plus (by rw [l2 _ q, hf]), gt_plus (by omega)]; omega
theorem Lat.zero_at {m p : Nat} {T : List (List Int)} (hT : Len m T) (h : ∀ u ∈ T, gt u p = 0) {v : List Int} (hv : Lat m T v) : gt v p = 0 := by
  induction hv with
  | zero => exact gt_zero m p
  | add k hv hr ih => rw [gt_plus (by rw [hv.len hT, hT _ hr]), ih, h _ hr]; omega
structure PInv (m p : Nat) (R : List (List Int)) (E : Nat) (found left : List (List Int)) : Prop where
  fd : ∃ g, found = rowsOf p g ∧ EchP m p (Lat m R) g
  lf : ∀ u ∈ left, Lat m R u ∧ zb p u
  cl : ∀ v, Lat m R v → zb p v → Lat m left v
  bf : ∀ u ∈ found ++ left, Bd E u
theorem PInv.start {m : Nat} {R : List (List Int)} {E : Nat} (hR : Len m R) (h : ∀ u ∈ R, Bd E u) : PInv m 0 R E [] R :=
  ⟨⟨fun _ => none, rfl, fun q hq => by omega⟩, fun u hu => ⟨.of_mem hu (hR u hu), fun i hi => by omega⟩, fun v hv _ => hv, fun u hu => h u (by simpa using hu)⟩
theorem PInv.into {m p : Nat} {R : List (List Int)} {E : Nat} {found left : List (List Int)} (hR : Len m R) (h : PInv m p R E found left) : WInv m p R E (left.filter fun u => gt u p != 0) (left.filter fun u => gt u p == 0) := by
  refine ⟨fun u hu => ?_, fun u hu => ?_, fun v hv hz => ?_, E, E, fun u hu => ?_, fun u hu => ?_, Nat.le_refl _, .inl ⟨Nat.le_refl _, Nat.le_refl _⟩⟩
  · obtain ⟨q1, q2⟩ := List.mem_filter.mp hu
    exact ⟨(h.lf u q1).1, (h.lf u q1).2, by simpa using q2⟩
  · obtain ⟨q1, q2⟩ := List.mem_filter.mp hu
    refine ⟨(h.lf u q1).1, fun i hi => ?_⟩
    by_cases e : i = p
    · subst e; simpa using q2
    · exact (h.lf u q1).2 i (by omega)
  · refine Lat.mono (fun r hr => ?_) (fun r hr => Lat.of_mem ?_ ((h.lf r hr).1.len hR)) (h.cl v hv hz)
    · rcases List.mem_append.mp hr with q | q
      · exact (h.lf r (List.mem_filter.mp q).1).1.len hR
      · exact (h.lf r (List.mem_filter.mp q).1).1.len hR
    · by_cases z : gt r p = 0
      · exact List.mem_append_right _ (List.mem_filter.mpr ⟨hr, by simp [z]⟩)
      · exact List.mem_append_left _ (List.mem_filter.mpr ⟨hr, by simp [z]⟩)
  · refine h.bf u (List.mem_append_right _ ?_)
    rcases List.mem_append.mp hu with q | q
    · exact (List.mem_filter.mp q).1
    · exact (List.mem_filter.mp q).1
  · exact (h.bf u (List.mem_append_right _ (List.mem_filter.mp hu).1)).at p
theorem WInv.fin {m p : Nat} {R : List (List Int)} {E0 : Nat} {so re : List (List Int)} (h : WInv m p R E0 so re) (h0 : 1 ≤ E0) : ∀ u ∈ so ++ re, Bd (9 * E0 ^ 6) u := by
  obtain ⟨E, M, b1, b2, b3, b4⟩ := h.bd
  have h6 := one_le_pow6 h0
  have h2 : E0 * 1 ≤ E0 * E0 := Nat.mul_le_mul (Nat.le_refl _) h0
  intro u hu
  refine (b1 u hu).mono ?_
  rcases b4 with ⟨q, _⟩ | ⟨_, w, hw, q⟩ | ⟨_, q⟩
  · omega
  · have hw1 : 1 ≤ (gt w p).natAbs := by have := (h.s1 w hw).2.2; omega
    have hM : 1 ≤ M := Nat.le_trans hw1 (b2 w hw)
    have : 1 ≤ (M * (gt w p).natAbs) ^ 2 := Nat.pow_pos (Nat.mul_pos hM hw1)
    have : E * 1 * 1 ≤ E * M * (M * (gt w p).natAbs) ^ 2 := Nat.mul_le_mul (Nat.mul_le_mul (Nat.le_refl _) hM) this
    omega
  · omega
theorem rowsOf_succ (p : Nat) (g : Nat → Option (List Int)) : rowsOf (p + 1) g = rowsOf p g ++ (g p).toList := by
  unfold rowsOf
  rw [List.range_succ, List.filterMap_append]
  congr 1
theorem rowsOf_congr {p : Nat} {g h : Nat → Option (List Int)} (e : ∀ q, q < p → g q = h q) : rowsOf p g = rowsOf p h := by
  unfold rowsOf
  have key : ∀ l : List Nat, (∀ x ∈ l, g x = h x) → l.filterMap g = l.filterMap h := by
    intro l
    induction l with
    | nil => intro _; rfl
    | cons a r ih => intro hl; rw [List.filterMap_cons, List.filterMap_cons, hl a List.mem_cons_self, ih fun x hx => hl x (List.mem_cons_of_mem _ hx)]
  exact key _ fun x hx => e x (List.mem_range.mp hx)
theorem rowsOf_map {p : Nat} {g : Nat → Option (List Int)} (f : List Int → List Int) : (rowsOf p g).map f = rowsOf p fun q => (g q).map f := by
  unfold rowsOf
  rw [List.map_filterMap]
theorem mem_rowsOf {p : Nat} {g : Nat → Option (List Int)} {u : List Int} : u ∈ rowsOf p g ↔ ∃ q, q < p ∧ g q = some u := by
  unfold rowsOf
  simp [List.mem_filterMap]
theorem pow_up {E0 : Nat} (h0 : 1 ≤ E0) : E0 ≤ 9 * E0 ^ 6 ∧ 9 * E0 ^ 6 ≤ 162 * E0 ^ 12 := by
  have h6 := one_le_pow6 h0
  have h2 : E0 * 1 ≤ E0 * E0 := Nat.mul_le_mul (Nat.le_refl _) h0
  have : E0 ^ 6 ≤ E0 ^ 12 := Nat.pow_le_pow_right h0 (by omega)
  omega
/-- a place without a row -/
theorem PInv.none {m p : Nat} {R : List (List Int)} {E : Nat} {found left re : List (List Int)} (hR : Len m R) (h0 : 1 ≤ E) (h : PInv m p R E found left) (w : WInv m p R E [] re) : PInv m (p + 1) R (162 * E ^ 12) found re := by
  obtain ⟨g, hg, he⟩ := h.fd
  have rl : Len m re := fun u hu => (w.r1 u hu).1.len hR
  have up := pow_up h0
  have z0 : ∀ v, Lat m R v → zb p v → gt v p = 0 := fun v hv hz => Lat.zero_at rl (fun u hu => (w.r1 u hu).2 p (by omega)) (by simpa using w.cl v hv hz)
  refine ⟨⟨fun q => if q < p then g q else Option.none, ?_, ?_⟩, w.r1, fun v hv hz => by simpa using w.cl v hv fun i hi => hz i (by omega), fun u hu => ?_⟩
  · rw [rowsOf_succ, hg]
    simp only [Nat.lt_irrefl, if_false, Option.toList, List.append_nil]
    exact rowsOf_congr fun q hq => by simp [hq]
  · intro q hq
    by_cases e : q < p
    · simp only [e, if_true]
      obtain ⟨a, b⟩ := he q e
      refine ⟨a, fun f hf => ?_⟩
      obtain ⟨b1, b2, b3, b4, b5, b6⟩ := b f hf
      refine ⟨b1, b2, b3, b4, b5, fun r f' h1 h2 h3 => ?_⟩
      by_cases e' : r < p
      · rw [if_pos e'] at h3; exact b6 r f' h1 e' h3
      · rw [if_neg e'] at h3; cases h3
    · have e : q = p := by omega
      subst e
      simp only [Nat.lt_irrefl, if_false]
      exact ⟨fun _ => z0, fun f hf => by cases hf⟩
  · rcases List.mem_append.mp hu with q | q
    · exact (h.bf u (List.mem_append_left _ q)).mono (by omega)
    · exact (w.fin h0 u (by simpa using q)).mono up.2
theorem fd_le (a : Int) {b : Int} (h : 1 ≤ b) : (a.fdiv b).natAbs ≤ a.natAbs := by
  have e := Int.mul_fdiv_add_fmod a b
  have f := fm_pos a (b := b) (by omega)
  by_cases q : 0 ≤ a.fdiv b
  · have : 1 * a.fdiv b ≤ b * a.fdiv b := Int.mul_le_mul_of_nonneg_right h q
    omega
  · -- a below zero
    have q1 : a.fdiv b ≤ -1 := by omega
    have : b * (a.fdiv b + 1) ≤ 1 * (a.fdiv b + 1) := Int.mul_le_mul_of_nonpos_right h (by omega)
    have e2 : b * (a.fdiv b + 1) = b * a.fdiv b + b := by rw [Int.mul_add, Int.mul_one]
    omega
/-- a place with a row -/
theorem PInv.some {m p : Nat} {R : List (List Int)} {E : Nat} {found left re : List (List Int)} {f0 f : List Int} (hR : Len m R) (h0 : 1 ≤ E) (h : PInv m p R E found left) (w : WInv m p R E [f0] re) (hfl : f.length = m) (hfp : 0 < gt f p) (hf : (∀ i, gt f i = gt f0 i) ∨ (∀ i, gt f i = - gt f0 i)) :
    PInv m (p + 1) R (162 * E ^ 12) (found.map (red p f) ++ [f]) re := by
  obtain ⟨g, hg, he⟩ := h.fd
  have rl : Len m re := fun u hu => (w.r1 u hu).1.len hR
  have up := pow_up h0
  obtain ⟨fL0, fz0, fn0⟩ := w.s1 f0 (by simp)
  have fl0 := fL0.len hR
  have fL : Lat m R f := by
    rcases hf with q | q
    · rw [ext_gt (u := f) (v := f0) (by omega) fun i _ => q i]; exact fL0
    · have : f = plusV (List.replicate m 0) (-1) f0 := by
        apply ext_gt
        · rw [plus_len (by simp [fl0])]; simp [hfl]
        · intro i _
          rw [gt_plus (by simp [fl0]), gt_zero, q]; omega
      rw [this]
      exact Lat.comb hR .zero _ fL0
  have fz : zb p f := fun i hi => by
    rcases hf with q | q
    · rw [q, fz0 i hi]
    · rw [q, fz0 i hi]; rfl
  have hsp : ∀ v, Lat m R v → zb p v → ∃ c u, Lat m re u ∧ v = plusV u c f0 := fun v hv hz => Lat.split fl0 rl (by simpa using w.cl v hv hz)
  have atp : ∀ c u, Lat m re u → gt (plusV u c f0) p = c * gt f0 p := fun c u hu => by
    rw [gt_plus (by rw [hu.len rl, fl0]), Lat.zero_at rl (fun r hr => (w.r1 r hr).2 p (by omega)) hu]; omega
  have bdw := w.fin h0
  have bf : Bd (9 * E ^ 6) f := fun x hx => by
    obtain ⟨i, hi, rfl⟩ := List.getElem_of_mem hx
    have := (bdw f0 (by simp)).at i
    rw [← gt_lt hi]
    rcases hf with q | q
    · rw [q]; exact this
    · rw [q, Int.natAbs_neg]; exact this
  refine ⟨⟨fun q => if q < p then (g q).map (red p f) else if q = p then Option.some f else Option.none, ?_, ?_⟩, w.r1, fun v hv hz => ?_, fun u hu => ?_⟩
  · rw [rowsOf_succ, hg, rowsOf_map]
    simp only [Nat.lt_irrefl, if_false, if_true, Option.toList]
    congr 1
    exact rowsOf_congr fun q hq => by simp [hq]
  · intro q hq
    by_cases e : q < p
    · simp only [e, if_true]
      obtain ⟨a, b⟩ := he q e
      refine ⟨fun hn => a (by simpa using hn), fun f1 hf1 => ?_⟩
      cases eq : g q with
      | none => rw [eq] at hf1; cases hf1
      | some f2 =>
        rw [eq] at hf1
        have : f1 = red p f f2 := by simpa using hf1.symm
        subst this
        obtain ⟨b1, b2, b3, b4, b5, b6⟩ := b f2 eq
        have same : ∀ i, i < p → gt (red p f f2) i = gt f2 i := fun i hi => by rw [red_gt (by omega), fz i hi]; omega
        refine ⟨red_lat hR b1 fL, by rw [red_len (by omega), b2], fun i hi => by rw [same i (by omega), b3 i hi], by rw [same q e]; exact b4, by rw [same q e]; exact b5, fun r f' h1 h2 h3 => ?_⟩
        by_cases e' : r < p
        · rw [if_pos e'] at h3
          cases er : g r with
          | none => rw [er] at h3; cases h3
          | some f3 =>
            rw [er] at h3
            have : f' = red p f f3 := by simpa using h3.symm
            subst this
            have := (he r e').2 f3 er
            rw [same r e', red_gt (by omega), fz r e']
            have := b6 r f3 h1 e' er
            omega
        · have e2 : r = p := by omega
          subst e2
          rw [if_neg (by omega), if_pos rfl] at h3
          cases h3
          rw [red_at (by omega)]
          exact fm_pos _ hfp
    · have e : q = p := by omega
      subst e
      simp only [Nat.lt_irrefl, if_false, if_true]
      refine ⟨fun hn => (by cases hn), fun f1 hf1 => ?_⟩
      cases hf1
      refine ⟨fL, hfl, fz, hfp, fun v hv hz => ?_, fun r f' h1 h2 => by omega⟩
      obtain ⟨c, u, hu, rfl⟩ := hsp v hv hz
      rw [atp c u hu]
      rcases hf with q | q
      · rw [q]; exact Int.dvd_mul_left _ _
      · rw [q]; exact Int.neg_dvd.mpr (Int.dvd_mul_left _ _)
  · obtain ⟨c, u, hu, rfl⟩ := hsp v hv fun i hi => hz i (by omega)
    have := hz p (by omega)
    rw [atp c u hu] at this
    have c0 : c = 0 := by
      rcases Int.mul_eq_zero.mp this with q | q
      · exact q
      · exact absurd q fn0
    subst c0
    have lu := hu.len rl
    have : plusV u 0 f0 = u := by
      apply ext_gt
      · rw [plus_len (by omega)]
      · intro i _
        rw [gt_plus (by omega)]; omega
    rw [this]; exact hu
  · simp only [List.mem_append, List.mem_map, List.mem_singleton] at hu
    rcases hu with (⟨x, hx, rfl⟩ | rfl) | q
    · have bx : Bd (9 * E ^ 6) x := (h.bf x (List.mem_append_left _ hx)).mono up.1
      have := bx.plus (k := -((gt x p).fdiv (gt f p))) bf
      refine this.mono ?_
      rw [Int.natAbs_neg]
      have q1 := fd_le (gt x p) (b := gt f p) (by omega)
      have q2 := bx.at p
      have q0 : 1 ≤ 9 * E ^ 6 := by omega
      have q3 : 9 * E ^ 6 * (1 + ((gt x p).fdiv (gt f p)).natAbs) ≤ 9 * E ^ 6 * (2 * (9 * E ^ 6)) := Nat.mul_le_mul (Nat.le_refl _) (by omega)
      have q4 : 9 * E ^ 6 * (2 * (9 * E ^ 6)) = 162 * E ^ 12 := by grind
      omega
    · exact bf.mono up.2
    · exact (bdw u (by simp [q])).mono up.2
theorem fd_le2 (a : Int) {b : Int} (h : b ≠ 0) : (a.fdiv b).natAbs ≤ a.natAbs + b.natAbs := by
  have := fd_abs a h
  have h1 : (a.fdiv b).natAbs * 1 ≤ (a.fdiv b).natAbs * b.natAbs := Nat.mul_le_mul (Nat.le_refl _) (by omega)
  omega
/-! #### MD -/
def SameL (n : Nat) (R T : List (List Int)) : Prop := ∀ v, Lat n R v ↔ Lat n T v
theorem SameL.refl (n : Nat) (R : List (List Int)) : SameL n R R := fun _ => Iff.rfl
theorem SameL.symm {n : Nat} {R T : List (List Int)} (h : SameL n R T) : SameL n T R := fun v => (h v).symm
theorem SameL.trans {n : Nat} {R T U : List (List Int)} (h : SameL n R T) (g : SameL n T U) : SameL n R U := fun v => (h v).trans (g v)
theorem SameL.of {n : Nat} {R T : List (List Int)} (hR : Len n R) (hT : Len n T) (h : ∀ v ∈ R, Lat n T v) (g : ∀ v ∈ T, Lat n R v) : SameL n R T := fun v => ⟨Lat.mono hT h, Lat.mono hR g⟩
def negV (v : List Int) : List Int := v.map fun x => -x
theorem gt_negV (v : List Int) (i : Nat) : gt (negV v) i = - gt v i := by
  unfold negV
  by_cases h : i < v.length
  · rw [gt_lt (by simpa using h), gt_lt h]; simp
  · rw [gt_ge (by simpa using h), gt_ge (by omega)]; rfl
theorem negV_len (v : List Int) : (negV v).length = v.length := by simp [negV]
theorem Lat.neg {n : Nat} {R : List (List Int)} (hR : Len n R) {v : List Int} (h : Lat n R v) : Lat n R (negV v) := by
  have l := h.len hR
  have : negV v = plusV (List.replicate n 0) (-1) v := by
    apply ext_gt
    · rw [plus_len (by simp [l]), negV_len]; simp [l]
    · intro i _
      rw [gt_plus (by simp [l]), gt_zero, gt_negV]; omega
  rw [this]
  exact Lat.comb hR .zero _ h
theorem len_set {n : Nat} {T : List (List Int)} (hT : Len n T) {w : List Int} (hw : w.length = n) (i : Nat) : Len n (T.set i w) := fun r hr => by
  rcases List.mem_or_eq_of_mem_set hr with q | rfl
  · exact hT r q
  · exact hw
theorem same_set {n : Nat} {T : List (List Int)} (hT : Len n T) {i : Nat} (hi : i < T.length) {w : List Int} (hw : Lat n T w) (hb : Lat n (T.set i w) T[i]) : SameL n T (T.set i w) := by
  have hl := len_set hT (hw.len hT) i
  refine SameL.of hT hl (fun v hv => ?_) fun v hv => ?_
  · obtain ⟨k, hk, rfl⟩ := List.getElem_of_mem hv
    by_cases e : k = i
    · subst e; exact hb
    · refine Lat.of_mem ?_ (hT _ hv)
      rw [List.mem_iff_getElem]
      exact ⟨k, by simpa using hk, by rw [List.getElem_set_ne (by omega)]⟩
  · rcases List.mem_or_eq_of_mem_set hv with q | rfl
    · exact Lat.of_mem q (hT v q)
    · exact hw
theorem same_add {n : Nat} {T : List (List Int)} (hT : Len n T) {i j : Nat} (hi : i < T.length) (hj : j < T.length) (e : i ≠ j) (f : Int) : SameL n T (T.set i (plusV T[i] f T[j])) := by
  have hm : Lat n T T[i] := Lat.of_mem (List.getElem_mem hi) (hT _ (List.getElem_mem hi))
  have hm2 : Lat n T T[j] := Lat.of_mem (List.getElem_mem hj) (hT _ (List.getElem_mem hj))
  have hw := hm.comb hT f hm2
  have li := hT _ (List.getElem_mem hi)
  have lj := hT _ (List.getElem_mem hj)
  have lw := hw.len hT
  have hl := len_set hT lw i
  refine same_set hT hi hw ?_
  have h1 : Lat n (T.set i (plusV T[i] f T[j])) (plusV T[i] f T[j]) := Lat.of_mem (by rw [List.mem_iff_getElem]; exact ⟨i, by simpa using hi, by simp⟩) lw
  have h2 : Lat n (T.set i (plusV T[i] f T[j])) T[j] := Lat.of_mem (by rw [List.mem_iff_getElem]; exact ⟨j, by simpa using hj, by rw [List.getElem_set_ne e]⟩) lj
  have h3 := h1.comb hl (-f) h2
  have : plusV (plusV T[i] f T[j]) (-f) T[j] = T[i] := by
    apply ext_gt
    · rw [plus_len (by omega), lw, li]
    · intro k _
      rw [gt_plus (by omega), gt_plus (by omega)]; grind
  rwa [this] at h3
/-! #### ME -/
theorem lat1 {a x : Int} : Lat 1 [[a]] [x] ↔ ∃ k, x = k * a := by
  constructor
  · intro h
    obtain ⟨c, w, hw, e⟩ := Lat.split (m := 1) (f := [a]) (T := []) rfl (by intro r hr; simp at hr) h
    cases hw with
    | zero => exact ⟨c, by simpa [plusV] using e⟩
    | add _ _ hr => simp at hr
  · rintro ⟨k, rfl⟩
    have := Lat.add (m := 1) (R := [[a]]) (r := [a]) k .zero (by simp)
    simpa [plusV] using this
theorem lat2 {a b c d x y : Int} : Lat 2 [[a, b], [c, d]] [x, y] ↔ ∃ k l, x = k * a + l * c ∧ y = k * b + l * d := by
  constructor
  · intro h
    obtain ⟨k, w, hw, e⟩ := Lat.split (m := 2) (f := [a, b]) (T := [[c, d]]) rfl (by intro r hr; simp at hr; simp [hr]) h
    obtain ⟨l, u, hu, rfl⟩ := Lat.split (m := 2) (f := [c, d]) (T := []) rfl (by intro r hr; simp at hr) hw
    cases hu with
    | zero =>
      simp [plusV] at e
      exact ⟨k, l, by omega, by omega⟩
    | add _ _ hr => simp at hr
  · rintro ⟨k, l, rfl, rfl⟩
    have := Lat.add (m := 2) (R := [[a, b], [c, d]]) (r := [c, d]) l (Lat.add (m := 2) (R := [[a, b], [c, d]]) (r := [a, b]) k .zero (by simp)) (by simp)
    simpa [plusV] using this
theorem lat3 {a b c d e f g h i x y z : Int} : Lat 3 [[a, b, c], [d, e, f], [g, h, i]] [x, y, z] ↔ ∃ k l m, x = k * a + l * d + m * g ∧ y = k * b + l * e + m * h ∧ z = k * c + l * f + m * i := by
  constructor
  · intro H
    obtain ⟨k, w, hw, E⟩ := Lat.split (m := 3) (f := [a, b, c]) (T := [[d, e, f], [g, h, i]]) rfl (by intro r hr; simp at hr; rcases hr with rfl | rfl <;> rfl) H
    obtain ⟨l, u, hu, rfl⟩ := Lat.split (m := 3) (f := [d, e, f]) (T := [[g, h, i]]) rfl (by intro r hr; simp at hr; simp [hr]) hw
    obtain ⟨m, t, ht, rfl⟩ := Lat.split (m := 3) (f := [g, h, i]) (T := []) rfl (by intro r hr; simp at hr) hu
    cases ht with
    | zero =>
      simp [plusV] at E
      exact ⟨k, l, m, by omega, by omega, by omega⟩
    | add _ _ hr => simp at hr
  · rintro ⟨k, l, m, rfl, rfl, rfl⟩
    have := Lat.add (m := 3) (R := [[a, b, c], [d, e, f], [g, h, i]]) (r := [g, h, i]) m (Lat.add (m := 3) (R := [[a, b, c], [d, e, f], [g, h, i]]) (r := [d, e, f]) l (Lat.add (m := 3) (R := [[a, b, c], [d, e, f], [g, h, i]]) (r := [a, b, c]) k .zero (by simp)) (by simp)) (by simp)
    simpa [plusV] using this
def detL : List (List Int) → Int
  | [[a]] => a
  | [[a, b], [c, d]] => a * d - b * c
  | [[a, b, c], [d, e, f], [g, h, i]] => a * (e * i - f * h) - b * (d * i - f * g) + c * (d * h - e * g)
  | _ => 0
theorem det_mul3 (k1 l1 m1 k2 l2 m2 k3 l3 m3 a b c d e f g h i : Int) :
    detL [[k1 * a + l1 * d + m1 * g, k1 * b + l1 * e + m1 * h, k1 * c + l1 * f + m1 * i], [k2 * a + l2 * d + m2 * g, k2 * b + l2 * e + m2 * h, k2 * c + l2 * f + m2 * i], [k3 * a + l3 * d + m3 * g, k3 * b + l3 * e + m3 * h, k3 * c + l3 * f + m3 * i]] =
    detL [[k1, l1, m1], [k2, l2, m2], [k3, l3, m3]] * detL [[a, b, c], [d, e, f], [g, h, i]] := by
  simp only [detL]
  grind
theorem det_mul2 (k1 l1 k2 l2 a b c d : Int) :
    detL [[k1 * a + l1 * c, k1 * b + l1 * d], [k2 * a + l2 * c, k2 * b + l2 * d]] = detL [[k1, l1], [k2, l2]] * detL [[a, b], [c, d]] := by
  simp only [detL]
  grind
theorem cram3 (a b c d e f g h i x y z : Int) : detL [[a, b, c], [d, e, f], [g, h, i]] * x = detL [[x, y, z], [d, e, f], [g, h, i]] * a + detL [[a, b, c], [x, y, z], [g, h, i]] * d + detL [[a, b, c], [d, e, f], [x, y, z]] * g ∧
    detL [[a, b, c], [d, e, f], [g, h, i]] * y = detL [[x, y, z], [d, e, f], [g, h, i]] * b + detL [[a, b, c], [x, y, z], [g, h, i]] * e + detL [[a, b, c], [d, e, f], [x, y, z]] * h ∧
    detL [[a, b, c], [d, e, f], [g, h, i]] * z = detL [[x, y, z], [d, e, f], [g, h, i]] * c + detL [[a, b, c], [x, y, z], [g, h, i]] * f + detL [[a, b, c], [d, e, f], [x, y, z]] * i := by
  simp only [detL]
  refine ⟨?_, ?_, ?_⟩ <;> grind
theorem cramB3 (a b c d e f g h i k l m : Int) : detL [[k * a + l * d + m * g, k * b + l * e + m * h, k * c + l * f + m * i], [d, e, f], [g, h, i]] = k * detL [[a, b, c], [d, e, f], [g, h, i]] ∧
    detL [[a, b, c], [k * a + l * d + m * g, k * b + l * e + m * h, k * c + l * f + m * i], [g, h, i]] = l * detL [[a, b, c], [d, e, f], [g, h, i]] ∧
    detL [[a, b, c], [d, e, f], [k * a + l * d + m * g, k * b + l * e + m * h, k * c + l * f + m * i]] = m * detL [[a, b, c], [d, e, f], [g, h, i]] := by
  simp only [detL]
  refine ⟨?_, ?_, ?_⟩ <;> grind
theorem adj3 (k1 l1 m1 k2 l2 m2 k3 l3 m3 a d g s : Int) (hs : s * detL [[k1, l1, m1], [k2, l2, m2], [k3, l3, m3]] = 1) :
    a = s * (l2 * m3 - m2 * l3) * (k1 * a + l1 * d + m1 * g) + s * (m1 * l3 - l1 * m3) * (k2 * a + l2 * d + m2 * g) + s * (l1 * m2 - m1 * l2) * (k3 * a + l3 * d + m3 * g) ∧
    d = s * (m2 * k3 - k2 * m3) * (k1 * a + l1 * d + m1 * g) + s * (k1 * m3 - m1 * k3) * (k2 * a + l2 * d + m2 * g) + s * (m1 * k2 - k1 * m2) * (k3 * a + l3 * d + m3 * g) ∧
    g = s * (k2 * l3 - l2 * k3) * (k1 * a + l1 * d + m1 * g) + s * (l1 * k3 - k1 * l3) * (k2 * a + l2 * d + m2 * g) + s * (k1 * l2 - l1 * k2) * (k3 * a + l3 * d + m3 * g) := by
  simp only [detL] at hs
  refine ⟨?_, ?_, ?_⟩ <;> grind
/-! #### MF -/
theorem len1 {α : Type} {l : List α} (h : l.length = 1) : ∃ a, l = [a] := by
  match l, h with
  | [a], _ => exact ⟨a, rfl⟩
theorem len2 {α : Type} {l : List α} (h : l.length = 2) : ∃ a b, l = [a, b] := by
  match l, h with
  | [a, b], _ => exact ⟨a, b, rfl⟩
theorem len3 {α : Type} {l : List α} (h : l.length = 3) : ∃ a b c, l = [a, b, c] := by
  match l, h with
  | [a, b, c], _ => exact ⟨a, b, c, rfl⟩
def IsNF (m : Nat) (R F : List (List Int)) : Prop := ∃ g, F = rowsOf m g ∧ EchP m m (Lat m R) g
def sol (R : List (List Int)) (v : List Int) : List Int := (List.range R.length).map fun k => detL (R.set k v)
def wc (R : List (List Int)) (v : List Int) : List Int := (sol R v).map fun x => x.fdiv (detL R)
def Whole (R : List (List Int)) (v : List Int) : Prop := ∀ x ∈ sol R v, x.fmod (detL R) = 0
instance (R : List (List Int)) (v : List Int) : Decidable (Whole R v) := by unfold Whole; exact inferInstance
def row (R : List (List Int)) (k : Nat) : List Int := R.getD k []
theorem row_lt {R : List (List Int)} {k : Nat} (h : k < R.length) : row R k = R[k] := by simp [row, h]
def mixV (f : List Int) (R : List (List Int)) : List Int := (List.range R.length).map fun j => ((List.range R.length).map fun k => gt f k * gt (row R k) j).sum
def Spans (R T : List (List Int)) : Prop := (detL T).natAbs = (detL R).natAbs ∧ ∀ v ∈ T, Whole R v
instance (R T : List (List Int)) : Decidable (Spans R T) := by unfold Spans; exact inferInstance
/-- the form itself -/
def NFs (F : List (List Int)) : Prop := ∀ i, i < F.length → zb i (row F i) ∧ 0 < gt (row F i) i ∧ ∀ r, r < i → 0 ≤ gt (row F r) i ∧ gt (row F r) i < gt (row F i) i
/-- squares of one to three rows -/
def Sqr (n : Nat) (R : List (List Int)) : Prop := 1 ≤ n ∧ n ≤ 3 ∧ R.length = n ∧ Len n R
theorem Sqr.cases {n : Nat} {R : List (List Int)} (h : Sqr n R) : (n = 1 ∧ ∃ a, R = [[a]]) ∨ (n = 2 ∧ ∃ a b c d, R = [[a, b], [c, d]]) ∨ (n = 3 ∧ ∃ a b c d e f g h i, R = [[a, b, c], [d, e, f], [g, h, i]]) := by
  obtain ⟨h1, h3, hl, hL⟩ := h
  have : n = 1 ∨ n = 2 ∨ n = 3 := by omega
  rcases this with rfl | rfl | rfl
  · obtain ⟨v, rfl⟩ := len1 hl
    obtain ⟨a, rfl⟩ := len1 (hL v (by simp))
    exact .inl ⟨rfl, a, rfl⟩
  · obtain ⟨v, w, rfl⟩ := len2 hl
    obtain ⟨a, b, rfl⟩ := len2 (hL v (by simp))
    obtain ⟨c, d, rfl⟩ := len2 (hL w (by simp))
    exact .inr (.inl ⟨rfl, a, b, c, d, rfl⟩)
  · obtain ⟨u, v, w, rfl⟩ := len3 hl
    obtain ⟨a, b, c, rfl⟩ := len3 (hL u (by simp))
    obtain ⟨d, e, f, rfl⟩ := len3 (hL v (by simp))
    obtain ⟨g, h, i, rfl⟩ := len3 (hL w (by simp))
    exact .inr (.inr ⟨rfl, a, b, c, d, e, f, g, h, i, rfl⟩)
theorem mem1 {α : Type} {P : α → Prop} {a : α} : (∀ v ∈ [a], P v) ↔ P a := by simp
theorem mem2 {α : Type} {P : α → Prop} {a b : α} : (∀ v ∈ [a, b], P v) ↔ P a ∧ P b := by simp
theorem mem3 {α : Type} {P : α → Prop} {a b c : α} : (∀ v ∈ [a, b, c], P v) ↔ P a ∧ P b ∧ P c := by simp
/-- rows of the grid: a whole multiple of the determinant; with one of the same size the same grid -/
theorem det_sub {n : Nat} {R T : List (List Int)} (hR : Sqr n R) (hT : Sqr n T) (h : ∀ v ∈ T, Lat n R v) : (∃ k, detL T = k * detL R) ∧ (detL R ≠ 0 → (detL T).natAbs = (detL R).natAbs → SameL n R T) := by
  rcases hR.cases with ⟨rfl, a, rfl⟩ | ⟨rfl, a, b, c, d, rfl⟩ | ⟨rfl, a, b, c, d, e, f, g, i, j, rfl⟩
  · rcases hT.cases with ⟨_, x, rfl⟩ | ⟨e, _⟩ | ⟨e, _⟩
    · rw [mem1] at h
      obtain ⟨k, rfl⟩ := lat1.mp h
      refine ⟨⟨k, rfl⟩, fun hd he => SameL.of hR.2.2.2 hT.2.2.2 (mem1.mpr (lat1.mpr ?_)) (mem1.mpr h)⟩
      simp only [detL] at hd he
      rw [Int.natAbs_mul] at he
      have hk : k.natAbs = 1 := by
        have : k.natAbs * a.natAbs = 1 * a.natAbs := by omega
        exact Nat.eq_of_mul_eq_mul_right (by omega) this
      refine ⟨k, ?_⟩
      have : k = 1 ∨ k = -1 := by omega
      rcases this with rfl | rfl <;> omega
    · omega
    · omega
  · rcases hT.cases with ⟨e, _⟩ | ⟨_, x, y, z, w, rfl⟩ | ⟨e, _⟩
    · omega
    · rw [mem2] at h
      obtain ⟨h1, h2⟩ := h
      have h1' := h1
      have h2' := h2
      obtain ⟨k1, l1, rfl, rfl⟩ := lat2.mp h1
      obtain ⟨k2, l2, rfl, rfl⟩ := lat2.mp h2
      have e := det_mul2 k1 l1 k2 l2 a b c d
      refine ⟨⟨_, e⟩, fun hd he => SameL.of hR.2.2.2 hT.2.2.2 (mem2.mpr ?_) (mem2.mpr ⟨h1', h2'⟩)⟩
      rw [e, Int.natAbs_mul] at he
      have hk : (detL [[k1, l1], [k2, l2]]).natAbs = 1 := by
        have hh : (detL [[k1, l1], [k2, l2]]).natAbs * (detL [[a, b], [c, d]]).natAbs = 1 * (detL [[a, b], [c, d]]).natAbs := by omega
        exact Nat.eq_of_mul_eq_mul_right (by omega) hh
      obtain ⟨s, hs⟩ : ∃ s : Int, s * detL [[k1, l1], [k2, l2]] = 1 := ⟨detL [[k1, l1], [k2, l2]], by
        have : detL [[k1, l1], [k2, l2]] = 1 ∨ detL [[k1, l1], [k2, l2]] = -1 := by omega
        rcases this with q | q <;> rw [q] <;> rfl⟩
      simp only [detL] at hs
      exact ⟨lat2.mpr ⟨s * l2, - s * l1, by grind, by grind⟩, lat2.mpr ⟨- s * k2, s * k1, by grind, by grind⟩⟩
    · omega
  · rcases hT.cases with ⟨e, _⟩ | ⟨e, _⟩ | ⟨_, x1, y1, z1, x2, y2, z2, x3, y3, z3, rfl⟩
    · omega
    · omega
    · rw [mem3] at h
      obtain ⟨h1, h2, h3⟩ := h
      have h1' := h1
      have h2' := h2
      have h3' := h3
      obtain ⟨k1, l1, m1, rfl, rfl, rfl⟩ := lat3.mp h1
      obtain ⟨k2, l2, m2, rfl, rfl, rfl⟩ := lat3.mp h2
      obtain ⟨k3, l3, m3, rfl, rfl, rfl⟩ := lat3.mp h3
      have e := det_mul3 k1 l1 m1 k2 l2 m2 k3 l3 m3 a b c d e f g i j
      refine ⟨⟨_, e⟩, fun hd he => SameL.of hR.2.2.2 hT.2.2.2 (mem3.mpr ?_) (mem3.mpr ⟨h1', h2', h3'⟩)⟩
      rw [e, Int.natAbs_mul] at he
      have hk : (detL [[k1, l1, m1], [k2, l2, m2], [k3, l3, m3]]).natAbs = 1 := by
        refine Nat.eq_of_mul_eq_mul_right (Nat.pos_of_ne_zero fun q => hd (Int.natAbs_eq_zero.mp q)) (he.trans (Nat.one_mul _).symm)
      obtain ⟨s, hs⟩ : ∃ s : Int, s * detL [[k1, l1, m1], [k2, l2, m2], [k3, l3, m3]] = 1 := ⟨detL [[k1, l1, m1], [k2, l2, m2], [k3, l3, m3]], by
        generalize detL [[k1, l1, m1], [k2, l2, m2], [k3, l3, m3]] = D at hk
        have : D = 1 ∨ D = -1 := by omega
        rcases this with q | q <;> rw [q] <;> rfl⟩
      obtain ⟨a1, a2, a3⟩ := adj3 k1 l1 m1 k2 l2 m2 k3 l3 m3 a d g s hs
      obtain ⟨b1, b2, b3⟩ := adj3 k1 l1 m1 k2 l2 m2 k3 l3 m3 b _ i s hs
      obtain ⟨c1, c2, c3⟩ := adj3 k1 l1 m1 k2 l2 m2 k3 l3 m3 c f j s hs
      exact ⟨lat3.mpr ⟨_, _, _, a1, b1, c1⟩, lat3.mpr ⟨_, _, _, a2, b2, c2⟩, lat3.mpr ⟨_, _, _, a3, b3, c3⟩⟩
theorem fm0_iff {x d : Int} (hd : d ≠ 0) : x.fmod d = 0 ↔ ∃ k, x = k * d := by
  constructor
  · intro h
    exact ⟨x.fdiv d, by have := Int.fdiv_mul_add_fmod x d; omega⟩
  · rintro ⟨k, rfl⟩
    simp
/-- Cramer's rule -/
theorem whole_iff {n : Nat} {R : List (List Int)} {v : List Int} (hR : Sqr n R) (hv : v.length = n) (hd : detL R ≠ 0) : Whole R v ↔ Lat n R v := by
  rcases hR.cases with ⟨rfl, a, rfl⟩ | ⟨rfl, a, b, c, d, rfl⟩ | ⟨rfl, a, b, c, d, e, f, g, h, i, rfl⟩
  · obtain ⟨x, rfl⟩ := len1 hv
    have e : sol [[a]] [x] = [x] := rfl
    unfold Whole
    rw [e, mem1, fm0_iff hd, lat1]
    exact Iff.rfl
  · obtain ⟨x, y, rfl⟩ := len2 hv
    have e : sol [[a, b], [c, d]] [x, y] = [detL [[x, y], [c, d]], detL [[a, b], [x, y]]] := rfl
    unfold Whole
    rw [e, mem2, fm0_iff hd, fm0_iff hd, lat2]
    constructor
    · rintro ⟨⟨k, hk⟩, ⟨l, hl⟩⟩
      refine ⟨k, l, Int.eq_of_mul_eq_mul_left hd ?_, Int.eq_of_mul_eq_mul_left hd ?_⟩
      · simp only [detL] at hk hl ⊢; grind
      · simp only [detL] at hk hl ⊢; grind
    · rintro ⟨k, l, rfl, rfl⟩
      exact ⟨⟨k, by simp only [detL]; grind⟩, ⟨l, by simp only [detL]; grind⟩⟩
  · obtain ⟨x, y, z, rfl⟩ := len3 hv
    have e0 : sol [[a, b, c], [d, e, f], [g, h, i]] [x, y, z] = [detL [[x, y, z], [d, e, f], [g, h, i]], detL [[a, b, c], [x, y, z], [g, h, i]], detL [[a, b, c], [d, e, f], [x, y, z]]] := rfl
    unfold Whole
    rw [e0, mem3, fm0_iff hd, fm0_iff hd, fm0_iff hd, lat3]
    constructor
    · rintro ⟨⟨k, hk⟩, ⟨l, hl⟩, ⟨m, hm⟩⟩
      obtain ⟨e1, e2, e3⟩ := cram3 a b c d e f g h i x y z
      rw [hk, hl, hm] at e1 e2 e3
      refine ⟨k, l, m, Int.eq_of_mul_eq_mul_left hd ?_, Int.eq_of_mul_eq_mul_left hd ?_, Int.eq_of_mul_eq_mul_left hd ?_⟩
      · rw [e1]; generalize detL _ = D; grind
      · rw [e2]; generalize detL _ = D; grind
      · rw [e3]; generalize detL _ = D; grind
    · rintro ⟨k, l, m, rfl, rfl, rfl⟩
      obtain ⟨e1, e2, e3⟩ := cramB3 a b c d e f g h i k l m
      exact ⟨⟨k, e1⟩, ⟨l, e2⟩, ⟨m, e3⟩⟩
/-! #### MG -/
theorem fd_cancel {k d : Int} (hd : d ≠ 0) : (k * d).fdiv d = k := by
  have h := Int.fdiv_mul_add_fmod (k * d) d
  rw [Int.mul_fmod_left] at h
  exact Int.eq_of_mul_eq_mul_right hd (by omega)
theorem sol3 (a b c d e f g h i x y z : Int) : sol [[a, b, c], [d, e, f], [g, h, i]] [x, y, z] = [detL [[x, y, z], [d, e, f], [g, h, i]], detL [[a, b, c], [x, y, z], [g, h, i]], detL [[a, b, c], [d, e, f], [x, y, z]]] := rfl
theorem sol2 (a b c d x y : Int) : sol [[a, b], [c, d]] [x, y] = [detL [[x, y], [c, d]], detL [[a, b], [x, y]]] := rfl
theorem sol1 (a x : Int) : sol [[a]] [x] = [x] := rfl
theorem wc3 {a b c d e f g h i k l m : Int} (hd : detL [[a, b, c], [d, e, f], [g, h, i]] ≠ 0) : wc [[a, b, c], [d, e, f], [g, h, i]] [k * a + l * d + m * g, k * b + l * e + m * h, k * c + l * f + m * i] = [k, l, m] := by
  obtain ⟨e1, e2, e3⟩ := cramB3 a b c d e f g h i k l m
  unfold wc
  rw [sol3, e1, e2, e3]
  simp only [List.map_cons, List.map_nil, fd_cancel hd]
theorem wc2 {a b c d k l : Int} (hd : detL [[a, b], [c, d]] ≠ 0) : wc [[a, b], [c, d]] [k * a + l * c, k * b + l * d] = [k, l] := by
  unfold wc
  have e1 : detL [[k * a + l * c, k * b + l * d], [c, d]] = k * detL [[a, b], [c, d]] := by simp only [detL]; grind
  have e2 : detL [[a, b], [k * a + l * c, k * b + l * d]] = l * detL [[a, b], [c, d]] := by simp only [detL]; grind
  rw [sol2, e1, e2]
  simp only [List.map_cons, List.map_nil, fd_cancel hd]
theorem wc1 {a k : Int} (hd : detL [[a]] ≠ 0) : wc [[a]] [k * a] = [k] := by
  unfold wc
  rw [sol1]
  simp only [List.map_cons, List.map_nil, detL]
  rw [fd_cancel (d := a) hd]
theorem wc_len (R : List (List Int)) (v : List Int) : (wc R v).length = R.length := by simp [wc, sol]
/-- the coefficients give the vector -/
theorem wc_mix {n : Nat} {R : List (List Int)} {v : List Int} (hR : Sqr n R) (hv : v.length = n) (hd : detL R ≠ 0) (hl : Lat n R v) : mixV (wc R v) R = v := by
  rcases hR.cases with ⟨rfl, a, rfl⟩ | ⟨rfl, a, b, c, d, rfl⟩ | ⟨rfl, a, b, c, d, e, f, g, h, i, rfl⟩
  · obtain ⟨x, rfl⟩ := len1 hv
    obtain ⟨k, rfl⟩ := lat1.mp hl
    rw [wc1 hd]
    simp [mixV, List.range_succ, gt, row]
  · obtain ⟨x, y, rfl⟩ := len2 hv
    obtain ⟨k, l, rfl, rfl⟩ := lat2.mp hl
    rw [wc2 hd]
    simp [mixV, List.range_succ, gt, row]
  · obtain ⟨x, y, z, rfl⟩ := len3 hv
    obtain ⟨k, l, m, rfl, rfl, rfl⟩ := lat3.mp hl
    rw [wc3 hd]
    simp [mixV, List.range_succ, gt, row, Int.add_assoc]
theorem sub_of_same {n : Nat} {R T : List (List Int)} (hT : Len n T) (h : SameL n R T) : ∀ v ∈ T, Lat n R v := fun v hv => (h v).mpr (Lat.of_mem hv (hT v hv))
theorem det_same {n : Nat} {R T : List (List Int)} (hR : Sqr n R) (hT : Sqr n T) (h : SameL n R T) : (detL T).natAbs = (detL R).natAbs := by
  obtain ⟨k, hk⟩ := (det_sub hR hT (sub_of_same hT.2.2.2 h)).1
  obtain ⟨l, hl⟩ := (det_sub hT hR (sub_of_same hR.2.2.2 h.symm)).1
  refine Nat.dvd_antisymm (Int.natAbs_dvd_natAbs.mpr ⟨l, by rw [hl, Int.mul_comm]⟩) (Int.natAbs_dvd_natAbs.mpr ⟨k, by rw [hk, Int.mul_comm]⟩)
theorem spans_iff {n : Nat} {R T : List (List Int)} (hR : Sqr n R) (hT : Sqr n T) (hd : detL R ≠ 0) : Spans R T ↔ SameL n R T := by
  constructor
  · rintro ⟨h1, h2⟩
    exact (det_sub hR hT fun v hv => (whole_iff hR (hT.2.2.2 v hv) hd).mp (h2 v hv)).2 hd h1
  · intro h
    exact ⟨det_same hR hT h, fun v hv => (whole_iff hR (hT.2.2.2 v hv) hd).mpr (sub_of_same hT.2.2.2 h v hv)⟩
/-! ### the normal form of a basis -/
theorem nf_len {n : Nat} {R F : List (List Int)} (h : IsNF n R F) : Len n F := by
  obtain ⟨g, rfl, he⟩ := h
  intro r hr
  obtain ⟨q, hq, e⟩ := mem_rowsOf.mp hr
  exact ((he q hq).2 r e).2.1
theorem nf_same {n : Nat} {R F : List (List Int)} (hR : Len n R) (h : IsNF n R F) : SameL n R F := by
  have hF := nf_len h
  obtain ⟨g, rfl, he⟩ := h
  have key : ∀ k, ∀ v, Lat n R v → zb (n - k) v → Lat n (rowsOf n g) v := by
    intro k
    induction k with
    | zero =>
      intro v hv hz
      have lv := hv.len hR
      have : v = List.replicate n 0 := by
        apply ext_gt (by simp [lv])
        intro i hi
        rw [gt_zero, hz i (by omega)]
      rw [this]; exact .zero
    | succ k ih =>
      intro v hv hz
      by_cases hk : k < n
      · have hq : n - (k + 1) < n := by omega
        have e1 : n - k = n - (k + 1) + 1 := by omega
        obtain ⟨h0, h1⟩ := he _ hq
        cases eg : g (n - (k + 1)) with
        | none =>
          refine ih v hv fun i hi => ?_
          by_cases ei : i = n - (k + 1)
          · rw [ei]; exact h0 eg v hv hz
          · exact hz i (by omega)
        | some f =>
          obtain ⟨f1, f2, f3, f4, f5, _⟩ := h1 f eg
          obtain ⟨c, hc⟩ := f5 v hv hz
          have lv := hv.len hR
          have hm : Lat n (rowsOf n g) f := Lat.of_mem (mem_rowsOf.mpr ⟨_, hq, eg⟩) f2
          have h2 := ih (plusV v (-c) f) (hv.comb hR _ f1) fun i hi => by
            rw [gt_plus (by omega)]
            by_cases ei : i = n - (k + 1)
            · rw [ei, hc]; grind
            · rw [hz i (by omega), f3 i (by omega)]; omega
          have h3 := h2.comb hF c hm
          have l2 : (plusV v (-c) f).length = n := by rw [plus_len (by omega), lv]
          have : plusV (plusV v (-c) f) c f = v := by
            apply ext_gt
            · rw [plus_len (by omega), l2, lv]
            · intro i _
              rw [gt_plus (by omega), gt_plus (by omega)]; grind
          rwa [this] at h3
      · exact ih v hv fun i hi => by omega
  intro v
  refine ⟨fun hv => key n v hv fun i hi => by omega, fun hv => Lat.mono hR (fun r hr => ?_) hv⟩
  obtain ⟨q, hq, e⟩ := mem_rowsOf.mp hr
  exact ((he q hq).2 r e).1
theorem le_mul_l {a b : Nat} (h : 1 ≤ b) : a ≤ a * b := by
  calc a = a * 1 := by omega
    _ ≤ a * b := Nat.mul_le_mul (Nat.le_refl _) h
theorem le_mul_r {a b : Nat} (h : 1 ≤ a) : b ≤ a * b := by rw [Nat.mul_comm]; exact le_mul_l h
/-- its entries are no greater than its determinant -/
theorem nf_bd {n : Nat} {F : List (List Int)} (hF : Sqr n F) (h : NFs F) : detL F ≠ 0 ∧ ∀ v ∈ F, Bd (detL F).natAbs v := by
  rcases hF.cases with ⟨rfl, a, rfl⟩ | ⟨rfl, a, b, c, d, rfl⟩ | ⟨rfl, a, b, c, d, e, f, g, i, j, rfl⟩
  · have h0 := (h 0 (by simp)).2.1
    simp only [row, gt, List.getD_cons_zero] at h0
    refine ⟨by simp only [detL]; omega, mem1.mpr fun x hx => ?_⟩
    have : x = a := by simpa using hx
    subst this
    exact Nat.le_refl _
  · have h0 := h 0 (by simp)
    have h1 := h 1 (by simp)
    have k0 := h0.2.1
    have k1 := h1.1 0 (by omega)
    have k2 := h1.2.1
    have k3 := h1.2.2 0 (by omega)
    simp only [row, gt, List.getD_cons_zero, List.getD_cons_succ] at k0 k1 k2 k3
    subst k1
    have ed : detL [[a, b], [0, d]] = a * d := by simp [detL]
    have hn : (a * d).natAbs = a.natAbs * d.natAbs := Int.natAbs_mul a d
    have m1 : a.natAbs ≤ a.natAbs * d.natAbs := le_mul_l (by omega)
    have m2 : d.natAbs ≤ a.natAbs * d.natAbs := le_mul_r (by omega)
    rw [ed]
    refine ⟨by intro z; rw [z] at hn; omega, mem2.mpr ⟨fun x hx => ?_, fun x hx => ?_⟩⟩
    · simp only [List.mem_cons, List.not_mem_nil, or_false] at hx
      rcases hx with rfl | rfl <;> omega
    · simp only [List.mem_cons, List.not_mem_nil, or_false] at hx
      rcases hx with rfl | rfl <;> omega
  · have h0 := h 0 (by simp)
    have h1 := h 1 (by simp)
    have h2 := h 2 (by simp)
    have k0 := h0.2.1
    have k1 := h1.1 0 (by omega)
    have k2 := h1.2.1
    have k3 := h1.2.2 0 (by omega)
    have k4 := h2.1 0 (by omega)
    have k5 := h2.1 1 (by omega)
    have k6 := h2.2.1
    have k7 := h2.2.2 0 (by omega)
    have k8 := h2.2.2 1 (by omega)
    simp only [row, gt, List.getD_cons_zero, List.getD_cons_succ] at k0 k1 k2 k3 k4 k5 k6 k7 k8
    subst k1 k4 k5
    have ed : detL [[a, b, c], [0, e, f], [0, 0, j]] = a * (e * j) := by simp [detL]
    have hn : (a * (e * j)).natAbs = a.natAbs * (e.natAbs * j.natAbs) := by rw [Int.natAbs_mul, Int.natAbs_mul]
    have p1 : 1 ≤ e.natAbs * j.natAbs := Nat.mul_pos (by omega) (by omega)
    have m1 : a.natAbs ≤ a.natAbs * (e.natAbs * j.natAbs) := le_mul_l p1
    have m2 : e.natAbs * j.natAbs ≤ a.natAbs * (e.natAbs * j.natAbs) := le_mul_r (by omega)
    have m3 : e.natAbs ≤ e.natAbs * j.natAbs := le_mul_l (by omega)
    have m4 : j.natAbs ≤ e.natAbs * j.natAbs := le_mul_r (by omega)
    rw [ed]
    refine ⟨by intro z; rw [z] at hn; omega, mem3.mpr ⟨fun x hx => ?_, fun x hx => ?_, fun x hx => ?_⟩⟩
    · simp only [List.mem_cons, List.not_mem_nil, or_false] at hx
      rcases hx with rfl | rfl | rfl <;> omega
    · simp only [List.mem_cons, List.not_mem_nil, or_false] at hx
      rcases hx with rfl | rfl | rfl <;> omega
    · simp only [List.mem_cons, List.not_mem_nil, or_false] at hx
      rcases hx with rfl | rfl | rfl <;> omega
/-! #### MH -/
/-! fractions, the dual rows -/
theorem gcd_fmod (a b : Int) : Int.gcd b (a.fmod b) = Int.gcd a b := by
  rw [Int.fmod_def, Int.gcd_sub_mul_left_right, Int.gcd_comm]
theorem gcd_pos {a b : Int} (hb : b ≠ 0) : 0 < Int.gcd a b := by
  rcases Nat.eq_zero_or_pos (Int.gcd a b) with h | h
  · exact absurd (Int.gcd_eq_zero_iff.mp h).2 hb
  · exact h
def dot (u v : List Int) : Int := ((u.zip v).map fun p => p.1 * p.2).sum
def unitV (n c : Nat) : List Int := (List.range n).map fun k => if k = c then 1 else 0
def dualR (R : List (List Int)) : List (List Int) := (List.range R.length).map fun p => (List.range R.length).map fun c => detL (R.set p (unitV R.length c))
theorem dual1 (a : Int) : dualR [[a]] = [[1]] := rfl
theorem dual2 (a b c d : Int) : dualR [[a, b], [c, d]] = [[detL [[1, 0], [c, d]], detL [[0, 1], [c, d]]], [detL [[a, b], [1, 0]], detL [[a, b], [0, 1]]]] := rfl
theorem dual3 (a b c d e f g h i : Int) : dualR [[a, b, c], [d, e, f], [g, h, i]] = [[detL [[1, 0, 0], [d, e, f], [g, h, i]], detL [[0, 1, 0], [d, e, f], [g, h, i]], detL [[0, 0, 1], [d, e, f], [g, h, i]]],
  [detL [[a, b, c], [1, 0, 0], [g, h, i]], detL [[a, b, c], [0, 1, 0], [g, h, i]], detL [[a, b, c], [0, 0, 1], [g, h, i]]], [detL [[a, b, c], [d, e, f], [1, 0, 0]], detL [[a, b, c], [d, e, f], [0, 1, 0]], detL [[a, b, c], [d, e, f], [0, 0, 1]]]] := rfl
theorem dual_len (R : List (List Int)) : (dualR R).length = R.length := by simp [dualR]
theorem dual_row {R : List (List Int)} {r : List Int} (h : r ∈ dualR R) : r.length = R.length := by
  unfold dualR at h
  obtain ⟨p, _, rfl⟩ := List.mem_map.mp h
  simp
/-! rows of fractions -/
def den (fs : List (Int × Int)) : Int := fs.foldl (fun b p => b * p.2) 1
def numP (fs : List (Int × Int)) (v : List Int) : Int := ((fs.zip v).map fun q => q.1.1 * ((den fs).fdiv q.1.2) * q.2).sum
def WP (fs : List (Int × Int)) (v : List Int) : Prop := (numP fs v).fmod (den fs) = 0
instance (fs : List (Int × Int)) (v : List Int) : Decidable (WP fs v) := by unfold WP; exact inferInstance
theorem lenC {α : Type} {l : List α} {n : Nat} (h : l.length = n) (h1 : 1 ≤ n) (h3 : n ≤ 3) : (∃ a, l = [a] ∧ n = 1) ∨ (∃ a b, l = [a, b] ∧ n = 2) ∨ ∃ a b c, l = [a, b, c] ∧ n = 3 := by
  have : n = 1 ∨ n = 2 ∨ n = 3 := by omega
  rcases this with rfl | rfl | rfl
  · obtain ⟨a, rfl⟩ := len1 h; exact .inl ⟨a, rfl, rfl⟩
  · obtain ⟨a, b, rfl⟩ := len2 h; exact .inr (.inl ⟨a, b, rfl, rfl⟩)
  · obtain ⟨a, b, c, rfl⟩ := len3 h; exact .inr (.inr ⟨a, b, c, rfl, rfl⟩)
theorem fd_m1 {a b : Int} (h : b ≠ 0) : (a * b).fdiv b = a := Int.mul_fdiv_cancel a h
theorem fd_m2 {a b : Int} (h : b ≠ 0) : (b * a).fdiv b = a := by rw [Int.mul_comm]; exact fd_m1 h
/-! #### FA -/
local macro_rules | `(tactic| walk_at "wp") => `(tactic| try simp only [z0, z1, z2, z3, z4, z5, z6, z7, z8, z9, z10, z11, z12, z13, z14, z15, z16, z17, z18, z19, z20, z21, z22, z23, z24, z25, z26, z27, z28, z29, z30, z31, z32, z33, z34, z35, z36, z37, z38, z39, z40, z41, z42, z43, z44, z45, z46, z47, z49, z52, z53, z54, z56, z57, z58, z59, z60, z61, z62, z63, z64, z65, z66, z67, z68, z69, z70, z71, z72, z73, z75, z76, z77, z78, z79, z80, z81, z82, zg0, zg1, wVar, wFrz, wC, wNil, wCons, w1, w2, w3, wAp, opD, cmD, oNeg, wB, wNotT, boolW, wAndT, wOrT, wNotV, boolV, wAndV, wOrV, wIte, wNo, wSo, wSl, wTup, wLst, wThw, wLof, wCat, wRep, wIsi, wM1, wIseq, wR1, wR2, wZip_eq, wEnum, wYes, wComp, wSkip, wSeq, wExpr, wRet, wCont, wSet, wAsg, wPar, wSub, wIf, wFor, wRaise, wCall, seqOf_tup, seqOf_lst, seqOf_scr, lstOf_lst, lstOf_scr, lstX_lst, tupOf_tup, srcOf_tup, srcOf_lst, srcOf_scr, srcOf_han, srcOk_nil, srcOk_cons, oAdd_ii, oAdd_ss, oAdd_tt, oAdd_ll, oSub_ii, oMul_ii, oMul_ti, oDiv_ii, oMod_ii, oPow_ii, oNeg_i, oEq_ii, oNe_ii, oEq_ss, oNe_ss, oI_ii, oIs_n, oIsNot_n, oIs_b, oIsNot_b, isNon_n, isNon_b, isNon_i, isNon_s, isNon_t, isNon_l, isNon_h, oIx_t, oIx_l, oIx_s, oLen_t, oLen_l, oLen_s, oLen_str, oAbs_i, oTuple_l, oTuple_t, oSl_t, oSl_l, oInt_i, oInt_b, compGo_nil, compGo_cons, forGo_nil, forGo_cons, wipeD_nil, wipeD_cons, range_3, range_2, range_1, enumD_nil, enumD_1, enumD_2, enumD_3, zipD_nil, zipD_cons, ctOf, startD, List.map_cons, List.map_nil, List.length_cons, List.length_nil, List.cons_append, List.nil_append, List.append_nil, List.replicate, Nat.reduceAdd, Nat.reduceSub, Nat.sub_self, Nat.zero_add, List.getElem?_cons_zero, List.getElem?_cons_succ, List.getElem?_nil, List.set_cons_zero, List.set_cons_succ, ex_eq, ex_and, Option.some.injEq, exists_eq_left', exists_eq_left, exists_eq_right, D.bl.injEq, D.int.injEq, D.str.injEq, D.tup.injEq, D.lst.injEq, atI_0, atI_1, atI_2, reduceIte, zip_tt, zip_ll, ty_n, ty_b, ty_i, ty_s, ty_t, ty_l, ty_f, kit_ii, kit_ib, kit_bb, kit_bi, kit_it, kit_tt, kit_ti, kit_tb, kit_lt, kit_li, kit_st, kit_si, kit_ss, kit_nt, kit_ni, kit_fi, kit_ft, kit_is, kit_ns, kit_bt, oLen_V, Int.toNat_natCast, cut_t0, cut_t1, cut_t2, cut_f1, cut_f2, cut_f3, m2_0, m2_1, m2_2, List.take_succ_cons, List.take_zero, List.drop_succ_cons, List.drop_zero, List.take_nil, List.drop_nil, decide_true, decide_false, Bool.not_true, Bool.not_false, if_true, if_false, Bool.false_eq_true, Int.cast_ofNat_Int, Int.reduceEq, Int.reduceLT, Int.reduceLE, Int.reduceToNat, Int.reduceNeg, Nat.reduceEqDiff, decide_eq_true_eq, true_and, and_true, List.cons.injEq, and_self, Int.reduceSub, Int.reduceAdd, Int.reduceMul])
def okD : D → Bool
  | .non | .bl _ | .int _ | .str _ | .flt _ | .tup _ | .lst _ => true
  | _ => false
def isI : D → Bool
  | .int _ => true
  | _ => false
def c_is_integer : Ct := fun ds S Q _ => ∃ d, ds = [d] ∧ okD d = true ∧ Q (.bl (isI d)) S
/-- is_integer -/
def N_is_integer : List Str := ["value"]
def b_is_integer : DB := (DB.cons (DS.ret (DE.bool (DV.cons (DE.isInt (DE.var 0)) (DV.one .And (DE.not (DE.isBool (DE.var 0)))))))
  DB.nil)
theorem w_is_integer {ds : List D} {S : Sto} {Q : QD} {X : XD} (h : c_is_integer ds S Q X) : ctOf N_is_integer.length b_is_integer ds S Q X := by
  obtain ⟨d, rfl, hd, h⟩ := h
  unfold b_is_integer N_is_integer
  cases d <;> simp only [okD, Bool.false_eq_true] at hd <;> walk_at "wp" <;> exact h
def btw (lo hi : Int) : D → Bool
  | .int i => decide (lo ≤ i) && decide (i ≤ hi)
  | _ => false
def c_is_between : Ct := fun ds S Q _ => ∃ d lo hi, ds = [d, .int lo, .int hi] ∧ okD d = true ∧ Q (.bl (btw lo hi d)) S
/-- is_between -/
def N_is_between : List Str := ["value", "low", "high"]
def b_is_between : DB := (DB.cons (DS.ret (DE.bool (DV.cons (DE.call "is_integer" c_is_integer (DA.cons (DE.var 0) DA.nil)) (DV.one .And (DE.chn .LtE .LtE (DE.var 1) (DE.var 0) (DE.var 2))))))
  DB.nil)
theorem w_is_between {ds : List D} {S : Sto} {Q : QD} {X : XD} (h : c_is_between ds S Q X) : ctOf N_is_between.length b_is_between ds S Q X := by
  obtain ⟨d, lo, hi, rfl, hd, h⟩ := h
  unfold b_is_between N_is_between
  walk_at "wp"
  refine ⟨d, rfl, hd, isI d, rfl, ?_⟩
  cases d <;> simp only [okD, Bool.false_eq_true] at hd <;> simp only [isI] <;> walk_at "wp" <;> try exact h
  simp only [btw] at h
  split
  · rename_i q; simpa [q] using h
  · rename_i q; simpa [q] using h
/-! ### the determinant -/
/-- a square of one to three rows, its entries of less than k bits -/
def SqM (k : Nat) (R : List (List Int)) : Prop := 1 ≤ R.length ∧ R.length ≤ 3 ∧ ∀ v ∈ R, v.length = R.length ∧ ∀ x ∈ v, Sm k x
theorem sq_cases {k : Nat} {R : List (List Int)} (h : SqM k R) : (∃ a, R = [[a]] ∧ Sm k a) ∨ (∃ a b c d, R = [[a, b], [c, d]] ∧ Sm k a ∧ Sm k b ∧ Sm k c ∧ Sm k d) ∨ ∃ a b c d e f g h i, R = [[a, b, c], [d, e, f], [g, h, i]] ∧ Sm k a ∧ Sm k b ∧ Sm k c ∧ Sm k d ∧ Sm k e ∧ Sm k f ∧ Sm k g ∧ Sm k h ∧ Sm k i := by
  obtain ⟨h1, h3, h⟩ := h
  have : R.length = 1 ∨ R.length = 2 ∨ R.length = 3 := by omega
  rcases this with q | q | q
  · obtain ⟨v, rfl⟩ := len1 q
    obtain ⟨l, s⟩ := h v (by simp)
    obtain ⟨a, rfl⟩ := len1 l
    exact .inl ⟨a, rfl, s a (by simp)⟩
  · obtain ⟨v, w, rfl⟩ := len2 q
    obtain ⟨l, s⟩ := h v (by simp)
    obtain ⟨l', s'⟩ := h w (by simp)
    obtain ⟨a, b, rfl⟩ := len2 l
    obtain ⟨c, d, rfl⟩ := len2 l'
    exact .inr (.inl ⟨a, b, c, d, rfl, s a (by simp), s b (by simp), s' c (by simp), s' d (by simp)⟩)
  · obtain ⟨v, w, u, rfl⟩ := len3 q
    obtain ⟨l, s⟩ := h v (by simp)
    obtain ⟨l', s'⟩ := h w (by simp)
    obtain ⟨l'', s''⟩ := h u (by simp)
    obtain ⟨a, b, c, rfl⟩ := len3 l
    obtain ⟨d, e, f, rfl⟩ := len3 l'
    obtain ⟨g, hh, i, rfl⟩ := len3 l''
    exact .inr (.inr ⟨a, b, c, d, e, f, g, hh, i, rfl, s a (by simp), s b (by simp), s c (by simp), s' d (by simp), s' e (by simp), s' f (by simp), s'' g (by simp), s'' hh (by simp), s'' i (by simp)⟩)
def isM (R : List (List Int)) (d : D) : Prop := d = .tup (R.map VE) ∨ d = .lst (R.map VE)
def c_det0 : Ct := fun _ _ _ _ => False
def c_det2 : Ct := fun ds S Q _ => ∃ R d, ds = [d] ∧ isM R d ∧ SqM 200000 R ∧ R.length ≤ 2 ∧ Q (.int (detL R)) S
def c_determinant : Ct := fun ds S Q _ => ∃ R d, ds = [d] ∧ isM R d ∧ SqM 200000 R ∧ Q (.int (detL R)) S
/-- determinant -/
def N_determinant : List Str := ["rows", "found", "place", "rest", "row"]
def b_determinant_f3 (c : Ct) : DB := (DB.cons (DS.setC 3 [("row", 4)] (DG.nm 4) (DI.seq (DE.sl (DE.var 0) (DO.so (DE.con (.int 1))) DO.no)) DF.no (DE.op .Add (DE.sl (DE.var 4) DO.no (DO.so (DE.var 2))) (DE.sl (DE.var 4) (DO.so (DE.op .Add (DE.var 2) (DE.con (.int 1)))) DO.no)))
  (DB.cons (DS.set 1 (DE.op .Add (DE.var 1) (DE.op .Mult (DE.op .Mult (DE.op .Sub (DE.con (.int 1)) (DE.op .Mult (DE.con (.int 2)) (DE.op .Mod (DE.var 2) (DE.con (.int 2))))) (DE.ix (DE.ix (DE.var 0) (DE.con (.int 0))) (DE.var 2))) (DE.call "determinant" c (DA.cons (DE.var 3) DA.nil)))))
  DB.nil))
def b_determinant_c2 (c : Ct) : DB := (DB.cons (DS.set 1 (DE.con (.int 0)))
  (DB.cons (DS.for (DG.nm 2) (DI.range1 (DE.con (.int 3))) (b_determinant_f3 c))
  (DB.cons (DS.ret (DE.var 1))
  DB.nil)))
def b_determinant (c : Ct) : DB := (DB.cons (DS.iff (DT.cmp .Eq (DE.len (DA.cons (DE.var 0) DA.nil)) (DE.con (.int 1))) (DB.cons (DS.ret (DE.ix (DE.ix (DE.var 0) (DE.con (.int 0))) (DE.con (.int 0))))
  DB.nil) DB.nil)
  (DB.cons (DS.iff (DT.cmp .Eq (DE.len (DA.cons (DE.var 0) DA.nil)) (DE.con (.int 2))) (DB.cons (DS.ret (DE.op .Sub (DE.op .Mult (DE.ix (DE.ix (DE.var 0) (DE.con (.int 0))) (DE.con (.int 0))) (DE.ix (DE.ix (DE.var 0) (DE.con (.int 1))) (DE.con (.int 1)))) (DE.op .Mult (DE.ix (DE.ix (DE.var 0) (DE.con (.int 0))) (DE.con (.int 1))) (DE.ix (DE.ix (DE.var 0) (DE.con (.int 1))) (DE.con (.int 0))))))
  DB.nil) DB.nil)
  (b_determinant_c2 c)))
theorem w_det2 {ds : List D} {S : Sto} {Q : QD} {X : XD} (h : c_det2 ds S Q X) : ctOf N_determinant.length (b_determinant c_det0) ds S Q X := by
  obtain ⟨R, d, rfl, hd, hs, hl, h⟩ := h
  unfold b_determinant N_determinant
  rcases sq_cases hs with ⟨a, rfl, sa⟩ | ⟨a, b, c, e, rfl, sa, sb, sc, se⟩ | ⟨a, b, c, d, e, f, g, h, i, rfl, _⟩
  · rcases hd with rfl | rfl <;> (simp only [List.map_cons, List.map_nil, VE_eq]; walk_at "wp"; exact h)
  · rcases hd with rfl | rfl <;> (simp only [List.map_cons, List.map_nil, VE_eq]; walk_at "wp"; exact ⟨sa.ok se (by omega), sb.ok sc (by omega), h⟩)
  · simp at hl
theorem det2_call {a b c d : Int} {S : Sto} {Q : QD} {X : XD} (sa : Sm 200000 a) (sb : Sm 200000 b) (sc : Sm 200000 c) (sd : Sm 200000 d) (h : Q (.int (a * d - b * c)) S) : c_det2 [.lst [.tup [.int a, .int b], .tup [.int c, .int d]]] S Q X := by
  refine ⟨[[a, b], [c, d]], _, rfl, .inr rfl, ⟨by simp, by simp, ?_⟩, by simp, h⟩
  intro v hv
  simp only [List.mem_cons, List.not_mem_nil, or_false] at hv
  rcases hv with rfl | rfl
  · refine ⟨rfl, fun x hx => ?_⟩
    simp only [List.mem_cons, List.not_mem_nil, or_false] at hx
    rcases hx with rfl | rfl <;> assumption
  · refine ⟨rfl, fun x hx => ?_⟩
    simp only [List.mem_cons, List.not_mem_nil, or_false] at hx
    rcases hx with rfl | rfl <;> assumption
theorem mulOk_20 : IntMulOk 2 0 := (sm_lit 2 (by decide)).ok (sm_lit 0 (by decide)) (by omega)
theorem mulOk_21 : IntMulOk 2 1 := (sm_lit 2 (by decide)).ok (sm_lit 1 (by decide)) (by omega)
theorem mulOk_1 {a : Int} {k : Nat} (h : Sm k a) (hk : k ≤ 900000) : IntMulOk 1 a := (sm_lit 1 (by decide)).ok h (by omega)
theorem mulOk_m1 {a : Int} {k : Nat} (h : Sm k a) (hk : k ≤ 900000) : IntMulOk (-1) a := (sm_lit (-1) (by decide)).ok h (by omega)
theorem sm_det2 {a b c d : Int} {k : Nat} (sa : Sm k a) (sb : Sm k b) (sc : Sm k c) (sd : Sm k d) : Sm (k + k + 1) (a * d - b * c) := by
  have := (sa.mul sd).sub (sb.mul sc)
  rwa [Nat.max_self] at this
theorem w_determinant {ds : List D} {S : Sto} {Q : QD} {X : XD} (h : c_determinant ds S Q X) : ctOf N_determinant.length (b_determinant c_det2) ds S Q X := by
  obtain ⟨R, d, rfl, hd, hs, h⟩ := h
  unfold b_determinant N_determinant
  rcases sq_cases hs with ⟨a, rfl, sa⟩ | ⟨a, b, c, e, rfl, sa, sb, sc, se⟩ | ⟨a, b, c, d, e, f, g, h', i, rfl, sa, sb, sc, sd, se, sf, sg, sh, si⟩
  · rcases hd with rfl | rfl <;> (simp only [List.map_cons, List.map_nil, VE_eq]; walk_at "wp"; exact h)
  · rcases hd with rfl | rfl <;> (simp only [List.map_cons, List.map_nil, VE_eq]; walk_at "wp"; exact ⟨sa.ok se (by omega), sb.ok sc (by omega), h⟩)
  · have h2 : 2 ≤ sizeLine := szLe (by omega)
    have e0 : (0 : Int) + 1 * a * (e * i - f * h') + -1 * b * (d * i - f * g) + 1 * c * (d * h' - e * g) = detL [[a, b, c], [d, e, f], [g, h', i]] := by simp only [detL]; grind
    have h1 := mulOk_1 sa (by omega)
    have h1b := mulOk_m1 sb (by omega)
    have h1c := mulOk_1 sc (by omega)
    have k1 := ((sm_lit 1 (by decide)).mul sa).ok (sm_det2 se sf sh si) (by omega)
    have k2 := ((sm_lit (-1) (by decide)).mul sb).ok (sm_det2 sd sf sg si) (by omega)
    have k3 := ((sm_lit 1 (by decide)).mul sc).ok (sm_det2 sd se sg sh) (by omega)
    have col0 : ∀ (E : DEnds) (R : D) (x : Int) (a3 : Option D) (S : Sto), (R = .tup [.tup [.int a, .int b, .int c], .tup [.int d, .int e, .int f], .tup [.int g, .int h', .int i]] ∨ R = .lst [.tup [.int a, .int b, .int c], .tup [.int d, .int e, .int f], .tup [.int g, .int h', .int i]]) → (∀ a3, E.nx [some R, some (.int (x + 1 * a * (e * i - f * h'))), some (.int 0), a3, none] S) →
        (b_determinant_f3 c_det2).wp E [some R, some (.int x), some (.int 0), a3, none] S := by
      rintro E R x a3 S (rfl | rfl) hn
      all_goals
        unfold b_determinant_f3
        walk_at "wp"
        refine ⟨h2, h2, h2, by decide, mulOk_20, h1, det2_call se sf sh si ?_⟩
        walk_at "wp"
        exact ⟨k1, hn _⟩
    have col1 : ∀ (E : DEnds) (R : D) (x : Int) (a3 : Option D) (S : Sto), (R = .tup [.tup [.int a, .int b, .int c], .tup [.int d, .int e, .int f], .tup [.int g, .int h', .int i]] ∨ R = .lst [.tup [.int a, .int b, .int c], .tup [.int d, .int e, .int f], .tup [.int g, .int h', .int i]]) → (∀ a3, E.nx [some R, some (.int (x + -1 * b * (d * i - f * g))), some (.int 1), a3, none] S) →
        (b_determinant_f3 c_det2).wp E [some R, some (.int x), some (.int 1), a3, none] S := by
      rintro E R x a3 S (rfl | rfl) hn
      all_goals
        unfold b_determinant_f3
        walk_at "wp"
        refine ⟨h2, h2, h2, by decide, mulOk_21, h1b, det2_call sd sf sg si ?_⟩
        walk_at "wp"
        exact ⟨k2, hn _⟩
    have col2 : ∀ (E : DEnds) (R : D) (x : Int) (a3 : Option D) (S : Sto), (R = .tup [.tup [.int a, .int b, .int c], .tup [.int d, .int e, .int f], .tup [.int g, .int h', .int i]] ∨ R = .lst [.tup [.int a, .int b, .int c], .tup [.int d, .int e, .int f], .tup [.int g, .int h', .int i]]) → (∀ a3, E.nx [some R, some (.int (x + 1 * c * (d * h' - e * g))), some (.int 2), a3, none] S) →
        (b_determinant_f3 c_det2).wp E [some R, some (.int x), some (.int 2), a3, none] S := by
      rintro E R x a3 S (rfl | rfl) hn
      all_goals
        unfold b_determinant_f3
        walk_at "wp"
        refine ⟨h2, h2, h2, by decide, mulOk_20, h1c, det2_call sd se sg sh ?_⟩
        walk_at "wp"
        exact ⟨k3, hn _⟩
    have fin : ∀ (E : DEnds) (R : D) (S : Sto), (R = .tup [.tup [.int a, .int b, .int c], .tup [.int d, .int e, .int f], .tup [.int g, .int h', .int i]] ∨ R = .lst [.tup [.int a, .int b, .int c], .tup [.int d, .int e, .int f], .tup [.int g, .int h', .int i]]) → E.rt (.int (detL [[a, b, c], [d, e, f], [g, h', i]])) S → (b_determinant_c2 c_det2).wp E [some R, none, none, none, none] S := by
      intro E R S hR hq
      unfold b_determinant_c2
      walk_at "wp"
      refine ⟨by decide, by decide, col0 _ _ _ _ _ hR fun _ => ⟨trivial, _, rfl, col1 _ _ _ _ _ hR fun _ => ⟨trivial, _, rfl, col2 _ _ _ _ _ hR fun _ => ⟨trivial, ?_⟩⟩⟩⟩
      walk_at "wp"
      rw [e0]
      exact hq
    rcases hd with rfl | rfl <;>
    · simp only [List.map_cons, List.map_nil, VE_eq]
      walk_at "wp"
      first | exact fin _ _ _ (.inl rfl) h | exact fin _ _ _ (.inr rfl) h
/-! #### FB -/
def lim (x : Int) : Bool := decide (-1000000 ≤ x) && decide (x ≤ 1000000)
def isV (n : Int) (v : List Int) : Bool := decide ((v.length : Int) = n) && v.all lim
def Bas (R : List (List Int)) : Prop := 1 ≤ R.length ∧ R.length ≤ 3 ∧ (∀ v ∈ R, v.length = R.length ∧ ∀ x ∈ v, x.natAbs ≤ 1000000) ∧ detL R ≠ 0
instance : DecidablePred Bas := fun R => by unfold Bas; exact inferInstance
theorem lim_iff {x : Int} : lim x = true ↔ x.natAbs ≤ 1000000 := by
  unfold lim
  simp only [Bool.and_eq_true, decide_eq_true_eq]
  omega
theorem lim_sm {x : Int} (h : x.natAbs ≤ 1000000) : Sm 20 x := Sm.of 20 h (by decide)
theorem Bas.sq {R : List (List Int)} (h : Bas R) : SqM 20 R := ⟨h.1, h.2.1, fun v hv => ⟨(h.2.2.1 v hv).1, fun x hx => lim_sm ((h.2.2.1 v hv).2 x hx)⟩⟩
theorem SqM.mono {j k : Nat} {R : List (List Int)} (h : SqM j R) (hk : j ≤ k) : SqM k R := ⟨h.1, h.2.1, fun v hv => ⟨(h.2.2 v hv).1, fun x hx => ((h.2.2 v hv).2 x hx).mono hk⟩⟩
def okVecD : D → Prop
  | .tup es => es.length ≤ 1000 ∧ ∀ e ∈ es, okD e = true
  | d => okD d = true
def isVD (n : Int) : D → Bool
  | .tup es => decide ((es.length : Int) = n) && es.all (btw (-1000000) 1000000)
  | _ => false
theorem isVD_V (n : Int) (v : List Int) : isVD n (VE v) = isV n v := by
  simp only [VE_eq, isVD, isV, List.length_map, List.all_map]
  rfl
theorem okVec_V {v : List Int} (h : v.length ≤ 1000) : okVecD (VE v) := ⟨by rw [List.length_map]; exact h, fun e he => by
  obtain ⟨x, _, rfl⟩ := List.mem_map.mp he
  rfl⟩
theorem compGo_allD {bd : D → Env → Sto → Option Env} {e : WE} {env : Env} {S : Sto} {Q : QL} (g : D → D) (L : List D)
    (h : ∀ a ∈ L, ∃ env', bd a env S = some env' ∧ (∀ Qd : QD, Qd (g a) S → e env' S Qd noX)) (hq : Q (L.map g) S) : compGo bd wYes e env [] L S [] Q := by
  have := compGo_all0 (bd := bd) (e := e) (env := env) (S := S) (Q := Q) id g L h hq
  rwa [List.map_id] at this
def c_is_vector : Ct := fun ds S Q _ => ∃ n d, ds = [.int n, d] ∧ okVecD d ∧ Q (.bl (isVD n d)) S
/-- is_vector -/
def N_is_vector : List Str := ["n", "value", "entry"]
def b_is_vector : DB := (DB.cons (DS.iff (DT.bool (DW.cons (DT.not (DT.val (DE.isTuple (DE.var 1)))) (DW.one .Or (DT.cmp .NotEq (DE.len (DA.cons (DE.var 1) DA.nil)) (DE.var 0))))) (DB.cons (DS.ret (DE.con (.bl false)))
  DB.nil) DB.nil)
  (DB.cons (DS.ret (DE.all (DA.cons (DE.lst (DL.comp [("entry", 2)] (DG.nm 2) (DI.seq (DE.var 1)) DF.no (DE.call "is_between" c_is_between (DA.cons (DE.var 2) (DA.cons (DE.neg (DE.glo "LIMIT" 1000000)) (DA.cons (DE.glo "LIMIT" 1000000) DA.nil)))))) DA.nil)))
  DB.nil))
theorem w_is_vector {ds : List D} {S : Sto} {Q : QD} {X : XD} (h : c_is_vector ds S Q X) : ctOf N_is_vector.length b_is_vector ds S Q X := by
  obtain ⟨n, d, rfl, hl, h⟩ := h
  unfold b_is_vector N_is_vector
  match d, hl, h with
  | .non, _, h => walk_at "wp"; exact h
  | .bl _, _, h => walk_at "wp"; exact h
  | .int _, _, h => walk_at "wp"; exact h
  | .str _, _, h => walk_at "wp"; exact h
  | .flt _, _, h => walk_at "wp"; exact h
  | .lst _, _, h => walk_at "wp"; exact h
  | .scr _, hd, _ => simp [okVecD, okD] at hd
  | .han _, hd, _ => simp [okVecD, okD] at hd
  | .cst _, hd, _ => simp [okVecD, okD] at hd
  | .exc _, hd, _ => simp [okVecD, okD] at hd
  | .tup es, hl, h =>
    walk_at "wp"
    by_cases e : (es.length : Int) = n
    · simp only [e]
      walk_at "wp"
      refine ⟨szLe (by have := hl.1; omega), compGo_allD (fun x => .bl (btw (-1000000) 1000000 x)) es (fun a ha => ⟨_, rfl, fun Qd hq => ?_⟩) ?_⟩
      · walk_at "wp"
        exact ⟨_, _, _, rfl, hl.2 a ha, hq⟩
      · rw [show es.map (fun x => D.bl (btw (-1000000) 1000000 x)) = (es.map (btw (-1000000) 1000000)).map D.bl by simp]
        refine oAll_l _ _ _ ?_
        simpa [isVD, e, List.all_map] using h
    · simp only [e]
      walk_at "wp"
      simpa [isVD, e] using h
def toI : D → Int
  | .int i => i
  | _ => 0
def toV : D → List Int
  | .tup es => es.map toI
  | _ => []
def okBasD : D → Prop
  | .tup rs => rs.length ≤ 1000 ∧ ∀ r ∈ rs, okVecD r
  | d => okD d = true
def isBasD : D → Bool
  | .tup rs => decide (1 ≤ rs.length) && decide (rs.length ≤ 3) && rs.all (isVD rs.length) && decide (detL (rs.map toV) ≠ 0)
  | _ => false
theorem isVD_inv {n : Int} {d : D} (h : isVD n d = true) : d = VE (toV d) ∧ isV n (toV d) = true := by
  unfold isVD at h
  split at h
  · rename_i es
    simp only [Bool.and_eq_true, decide_eq_true_eq, List.all_eq_true] at h
    have e : es = (es.map toI).map D.int := by
      rw [List.map_map]
      conv => lhs; rw [← List.map_id es]
      apply List.map_congr_left
      intro d hd
      have := h.2 d hd
      cases d <;> simp [btw] at this <;> rfl
    refine ⟨by rw [VE_eq]; exact congrArg D.tup e, ?_⟩
    simp only [isV, toV, List.length_map, Bool.and_eq_true, decide_eq_true_eq, List.all_eq_true]
    refine ⟨h.1, fun x hx => ?_⟩
    obtain ⟨d, hd, rfl⟩ := List.mem_map.mp hx
    have := h.2 d hd
    cases d <;> simp [btw] at this
    simp [toI, lim, this]
  · cases h
theorem toV_V (v : List Int) : toV (VE v) = v := by
  simp only [VE_eq, toV, List.map_map]
  conv => rhs; rw [← List.map_id v]
  rfl
theorem isBasD_M (R : List (List Int)) : isBasD (.tup (R.map VE)) = decide (Bas R) := by
  have e1 : (R.map VE).map toV = R := by
    rw [List.map_map]
    conv => rhs; rw [← List.map_id R]
    apply List.map_congr_left
    intro v _
    exact toV_V v
  rw [Bool.eq_iff_iff]
  simp only [isBasD, e1, List.length_map, Bool.and_eq_true, decide_eq_true_eq, List.all_map, List.all_eq_true, Function.comp_apply, isVD_V]
  unfold Bas
  constructor
  · rintro ⟨⟨⟨h1, h2⟩, h3⟩, h4⟩
    refine ⟨h1, h2, fun v hv => ?_, h4⟩
    have := h3 v hv
    simp only [isV, Bool.and_eq_true, decide_eq_true_eq, List.all_eq_true] at this
    exact ⟨by omega, fun x hx => lim_iff.mp (this.2 x hx)⟩
  · rintro ⟨h1, h2, h3, h4⟩
    refine ⟨⟨⟨h1, h2⟩, fun v hv => ?_⟩, h4⟩
    have := h3 v hv
    simp only [isV, Bool.and_eq_true, decide_eq_true_eq, List.all_eq_true]
    exact ⟨by omega, fun x hx => lim_iff.mpr (this.2 x hx)⟩
theorem isBasD_inv {d : D} (h : isBasD d = true) : ∃ R, d = .tup (R.map VE) ∧ Bas R := by
  unfold isBasD at h
  split at h
  · rename_i rs
    have h0 := h
    simp only [Bool.and_eq_true, decide_eq_true_eq, List.all_eq_true] at h
    have e : rs = (rs.map toV).map VE := by
      rw [List.map_map]
      conv => lhs; rw [← List.map_id rs]
      apply List.map_congr_left
      intro d hd
      exact (isVD_inv (h.1.2 d hd)).1
    refine ⟨rs.map toV, congrArg D.tup e, ?_⟩
    have z : isBasD (.tup ((rs.map toV).map VE)) = true := by rw [← e]; exact h0
    rw [isBasD_M, decide_eq_true_eq] at z
    exact z
  · cases h
theorem okBas_M {R : List (List Int)} (hl : R.length ≤ 1000) (hv : ∀ v ∈ R, v.length ≤ 1000) : okBasD (.tup (R.map VE)) := ⟨by rw [List.length_map]; exact hl, fun r hr => by
  obtain ⟨v, h, rfl⟩ := List.mem_map.mp hr
  exact okVec_V (hv v h)⟩
def c_is_basis : Ct := fun ds S Q _ => ∃ d, ds = [d] ∧ okBasD d ∧ Q (.bl (isBasD d)) S
/-- is_basis -/
def N_is_basis : List Str := ["value", "row"]
def b_is_basis : DB := (DB.cons (DS.iff (DT.bool (DW.cons (DT.not (DT.val (DE.isTuple (DE.var 0)))) (DW.one .Or (DT.not (DT.chn .LtE .LtE (DE.con (.int 1)) (DE.len (DA.cons (DE.var 0) DA.nil)) (DE.con (.int 3))))))) (DB.cons (DS.ret (DE.con (.bl false)))
  DB.nil) DB.nil)
  (DB.cons (DS.ret (DE.bool (DV.cons (DE.all (DA.cons (DE.lst (DL.comp [("row", 1)] (DG.nm 1) (DI.seq (DE.var 0)) DF.no (DE.call "is_vector" c_is_vector (DA.cons (DE.len (DA.cons (DE.var 0) DA.nil)) (DA.cons (DE.var 1) DA.nil))))) DA.nil)) (DV.one .And (DE.cmp .NotEq (DE.call "determinant" c_determinant (DA.cons (DE.var 0) DA.nil)) (DE.con (.int 0)))))))
  DB.nil))
theorem w_is_basis {ds : List D} {S : Sto} {Q : QD} {X : XD} (h : c_is_basis ds S Q X) : ctOf N_is_basis.length b_is_basis ds S Q X := by
  obtain ⟨d, rfl, hl, h⟩ := h
  unfold b_is_basis N_is_basis
  match d, hl, h with
  | .non, _, h => walk_at "wp"; exact h
  | .bl _, _, h => walk_at "wp"; exact h
  | .int _, _, h => walk_at "wp"; exact h
  | .str _, _, h => walk_at "wp"; exact h
  | .flt _, _, h => walk_at "wp"; exact h
  | .lst _, _, h => walk_at "wp"; exact h
  | .scr _, hd, _ => simp [okBasD, okD] at hd
  | .han _, hd, _ => simp [okBasD, okD] at hd
  | .cst _, hd, _ => simp [okBasD, okD] at hd
  | .exc _, hd, _ => simp [okBasD, okD] at hd
  | .tup rs, hl, h =>
    walk_at "wp"
    by_cases e1 : (1 : Int) ≤ rs.length
    · by_cases e2 : (rs.length : Int) ≤ 3
      · have e1' : 1 ≤ rs.length := by omega
        have e2' : rs.length ≤ 3 := by omega
        simp only [e1, e2]
        walk_at "wp"
        refine ⟨szLe (by omega), compGo_allD (fun r => .bl (isVD rs.length r)) rs (fun a ha => ⟨_, rfl, fun Qd hq => ?_⟩) ?_⟩
        · walk_at "wp"
          exact ⟨_, _, rfl, hl.2 a ha, hq⟩
        · rw [show rs.map (fun v => D.bl (isVD rs.length v)) = (rs.map (isVD rs.length)).map D.bl by simp]
          refine oAll_l _ _ _ ⟨_, rfl, ?_⟩
          have ea : ((rs.map (isVD rs.length)).all id) = rs.all (isVD rs.length) := by simp [List.all_map]
          rw [ea]
          cases e3 : rs.all (isVD rs.length) with
          | true =>
            rw [if_pos rfl]
            have hv := List.all_eq_true.mp e3
            have e : rs = (rs.map toV).map VE := by
              rw [List.map_map]
              conv => lhs; rw [← List.map_id rs]
              apply List.map_congr_left
              intro d hd
              exact (isVD_inv (hv d hd)).1
            refine ⟨rs.map toV, _, rfl, .inl (congrArg D.tup e), ⟨by rw [List.length_map]; exact e1', by rw [List.length_map]; exact e2', fun v hv' => ?_⟩, ?_⟩
            · obtain ⟨d, hd, rfl⟩ := List.mem_map.mp hv'
              have := (isVD_inv (hv d hd)).2
              simp only [isV, Bool.and_eq_true, decide_eq_true_eq, List.all_eq_true] at this
              exact ⟨by rw [List.length_map]; omega, fun x hx => (lim_sm (lim_iff.mp (this.2 x hx))).mono (by omega)⟩
            · walk_at "wp"
              simpa [isBasD, e1', e2', e3] using h
          | false =>
            rw [if_neg (by simp)]
            have : isBasD (.tup rs) = false := by simp only [isBasD, e3, Bool.and_false, Bool.false_and]
            rw [this] at h
            exact h
      · have e2' : ¬ rs.length ≤ 3 := by omega
        simp only [e1, e2]
        walk_at "wp"
        have : isBasD (.tup rs) = false := by simp only [isBasD, e2', decide_false, Bool.and_false, Bool.false_and]
        rw [this] at h
        exact h
    · have e1' : ¬ 1 ≤ rs.length := by omega
      simp only [e1]
      walk_at "wp"
      have : isBasD (.tup rs) = false := by simp only [isBasD, e1', decide_false, Bool.false_and]
      rw [this] at h
      exact h
def c_check_basis : Ct := fun ds S Q X => ∃ d, ds = [d] ∧ okBasD d ∧ if isBasD d = true then Q .non S else X "InvalidBasis" S
/-- check_basis -/
def N_check_basis : List Str := ["value"]
def b_check_basis : DB := (DB.cons (DS.iff (DT.not (DT.val (DE.call "is_basis" c_is_basis (DA.cons (DE.var 0) DA.nil)))) (DB.cons (DS.raise "InvalidBasis")
  DB.nil) DB.nil)
  DB.nil)
theorem w_check_basis {ds : List D} {S : Sto} {Q : QD} {X : XD} (h : c_check_basis ds S Q X) : ctOf N_check_basis.length b_check_basis ds S Q X := by
  obtain ⟨d, rfl, hl, h⟩ := h
  unfold b_check_basis N_check_basis
  walk_at "wp"
  refine ⟨d, rfl, hl, ?_⟩
  walk_at "wp"
  by_cases e : isBasD d = true
  · simpa [e] using h
  · simpa [e] using h
theorem Bas.ok {R : List (List Int)} (h : Bas R) : okBasD (.tup (R.map VE)) := okBas_M (by have := h.2.1; omega) fun v hv => by have := (h.2.2.1 v hv).1; have := h.2.1; omega
theorem Bas.isD {R : List (List Int)} (h : Bas R) : isBasD (.tup (R.map VE)) = true := by rw [isBasD_M]; exact decide_eq_true h
theorem Bas.chk {R : List (List Int)} {S : Sto} {Q : QD} {X : XD} (h : Bas R) (q : Q .non S) : c_check_basis [.tup (R.map VE)] S Q X :=
  ⟨_, rfl, h.ok, by rw [if_pos h.isD]; exact q⟩
def onBas (b : D) (S : Sto) (X : XD) (P : List (List Int) → Prop) : Prop := okBasD b ∧ if isBasD b = true then ∀ R, b = .tup (R.map VE) → Bas R → P R else X "InvalidBasis" S
def onTwo (a b : D) (S : Sto) (X : XD) (P : List (List Int) → List (List Int) → Prop) : Prop := onBas a S X fun R => onBas b S X fun T => if R.length = T.length then P R T else X "Unlike" S
def c_check_bases : Ct := fun ds S Q X => ∃ a b, ds = [a, b] ∧ onTwo a b S X fun _ _ => Q .non S
/-- check_bases -/
def N_check_bases : List Str := ["one", "other"]
def b_check_bases : DB := (DB.cons (DS.expr (DE.call "check_basis" c_check_basis (DA.cons (DE.var 0) DA.nil)))
  (DB.cons (DS.expr (DE.call "check_basis" c_check_basis (DA.cons (DE.var 1) DA.nil)))
  (DB.cons (DS.iff (DT.cmp .NotEq (DE.len (DA.cons (DE.var 0) DA.nil)) (DE.len (DA.cons (DE.var 1) DA.nil))) (DB.cons (DS.raise "Unlike")
  DB.nil) DB.nil)
  DB.nil)))
theorem onBas.chk {b : D} {S : Sto} {X : XD} {P : List (List Int) → Prop} {Q : QD} (h : onBas b S X P) (q : ∀ R, b = .tup (R.map VE) → Bas R → P R → Q .non S) : c_check_basis [b] S Q X := by
  refine ⟨b, rfl, h.1, ?_⟩
  have h2 := h.2
  by_cases e : isBasD b = true
  · rw [if_pos e] at h2 ⊢
    obtain ⟨R, eb, hR⟩ := isBasD_inv e
    exact q R eb hR (h2 R eb hR)
  · rw [if_neg e] at h2 ⊢
    exact h2
theorem M_inj {R T : List (List Int)} (h : D.tup (R.map VE) = .tup (T.map VE)) : R = T := by
  have key : ∀ u v : List Int, VE u = VE v → u = v := fun u v e => by
    unfold VE at e
    injection e with e
    exact List.map_inj_right (fun a b e => by injection e) |>.mp e
  injection h with h
  exact List.map_inj_right (fun a b e => key a b e) |>.mp h
theorem Bas.on {R : List (List Int)} {S : Sto} {X : XD} {P : List (List Int) → Prop} (h : Bas R) (q : P R) : onBas (.tup (R.map VE)) S X P := by
  refine ⟨h.ok, ?_⟩
  rw [if_pos h.isD]
  intro T e _
  have := M_inj e
  subst this
  exact q
theorem Bas.on2 {R T : List (List Int)} {S : Sto} {X : XD} {P : List (List Int) → List (List Int) → Prop} (h : Bas R) (g : Bas T) (e : R.length = T.length) (q : P R T) : onTwo (.tup (R.map VE)) (.tup (T.map VE)) S X P :=
  h.on (g.on (by rw [if_pos e]; exact q))
theorem w_check_bases {ds : List D} {S : Sto} {Q : QD} {X : XD} (h : c_check_bases ds S Q X) : ctOf N_check_bases.length b_check_bases ds S Q X := by
  obtain ⟨a, b, rfl, h⟩ := h
  unfold b_check_bases N_check_bases
  walk_at "wp"
  refine h.chk fun R ea hR h2 => ?_
  subst ea
  refine h2.chk fun T eb hT h3 => ?_
  subst eb
  walk_at "wp"
  simp only [List.length_map]
  by_cases e : R.length = T.length
  · simpa [e] using h3
  · have : ¬ (R.length : Int) = T.length := by omega
    simpa [e, this] using h3
theorem onTwo.chk {a b : D} {S : Sto} {X : XD} {P : List (List Int) → List (List Int) → Prop} {Q : QD} (h : onTwo a b S X P) (q : ∀ R T, a = .tup (R.map VE) → b = .tup (T.map VE) → Bas R → Bas T → R.length = T.length → P R T → Q .non S) : c_check_bases [a, b] S Q X := by
  refine ⟨a, b, rfl, h.1, ?_⟩
  have h2 := h.2
  by_cases e : isBasD a = true
  · rw [if_pos e] at h2 ⊢
    intro R ea hR
    have h3 := h2 R ea hR
    refine ⟨h3.1, ?_⟩
    have h4 := h3.2
    by_cases e2 : isBasD b = true
    · rw [if_pos e2] at h4 ⊢
      intro T eb hT
      have h5 := h4 T eb hT
      by_cases e3 : R.length = T.length
      · simp only [if_pos e3] at h5 ⊢
        exact q R T ea eb hR hT e3 h5
      · simp only [if_neg e3] at h5 ⊢
        exact h5
    · rw [if_neg e2] at h4 ⊢
      exact h4
  · rw [if_neg e] at h2 ⊢
    exact h2
theorem Bas.det {R : List (List Int)} {d : D} {S : Sto} {Q : QD} {X : XD} (h : Bas R) (hd : isM R d) (q : Q (.int (detL R)) S) : c_determinant [d] S Q X :=
  ⟨R, d, rfl, hd, h.sq.mono (by omega), q⟩
def c_plus : Ct := fun ds S Q _ => ∃ u k v, ds = [VE u, .int k, VE v] ∧ u.length ≤ 1000 ∧ (∀ x ∈ v, IntMulOk k x) ∧ Q (VE (plusV u k v)) S
/-- plus -/
def N_plus : List Str := ["one", "factor", "other", "x", "y"]
def b_plus : DB := (DB.cons (DS.ret (DE.tuple (DA.cons (DE.lst (DL.comp [("x", 3), ("y", 4)] (DG.tp (DGs.cons 3 (DGs.cons 4 DGs.nil))) (DI.zip (DE.var 0) (DE.var 2)) DF.no (DE.op .Add (DE.var 3) (DE.op .Mult (DE.var 1) (DE.var 4))))) DA.nil)))
  DB.nil)
theorem w_plus {ds : List D} {S : Sto} {Q : QD} {X : XD} (h : c_plus ds S Q X) : ctOf N_plus.length b_plus ds S Q X := by
  obtain ⟨u, k, v, rfl, hl, hv, h⟩ := h
  unfold b_plus N_plus
  simp only [VE_eq]
  walk_at "wp"
  rw [zipD_map]
  refine ⟨by simp only [List.length_map, List.length_zip]; exact szLe (by omega), compGo_all0 _ (fun p => .int (p.1 + k * p.2)) (u.zip v) (fun a ha => ⟨_, rfl, fun Qd hq => ?_⟩) ?_⟩
  · walk_at "wp"
    exact ⟨hv _ (List.of_mem_zip ha).2, hq⟩
  · walk_at "wp"
    rw [show (u.zip v).map (fun p => D.int (p.1 + k * p.2)) = (plusV u k v).map .int by simp [plusV]]
    exact h
/-! #### FC -/
theorem ix_V {u : List Int} {p : Nat} (h : p < u.length) (S : Sto) (Q : QD) : oIx (VE u) (.int (p : Int)) S Q = Q (.int (gt u p)) S := by
  rw [VE_eq, oIx_t, atI_map, atI_some h, gt_lt h]
  simp
def bt (k : Nat) : Nat → Nat
  | 0 => k
  | p + 1 => 12 * bt k p + 8
theorem PInv.mono {m p : Nat} {R : List (List Int)} {E E' : Nat} {found left : List (List Int)} (h : PInv m p R E found left) (e : E ≤ E') : PInv m p R E' found left :=
  ⟨h.fd, h.lf, h.cl, fun u hu => (h.bf u hu).mono e⟩
theorem Bd.sm {b : Nat} {v : List Int} (h : Bd (2 ^ b) v) {x : Int} (hx : x ∈ v) : Sm (b + 1) x := by
  have := h x hx
  unfold Sm
  rw [Nat.pow_succ]
  have : 0 < 2 ^ b := Nat.pow_pos (by omega)
  omega
/-- the first entries of the rows are small -/
def Pv (p : Nat) (F : List (List Int)) : Prop := ∀ u ∈ F, ∀ q, q < p → zb q u → gt u q ≠ 0 → Sm 8889 (gt u q)
theorem Pv.none {m p : Nat} {R : List (List Int)} {E : Nat} {F L : List (List Int)} (P : PInv m p R E F L) (h : Pv p F) : Pv (p + 1) F := fun u hu q hq hz hn => by
  by_cases e : q < p
  · exact h u hu q e hz hn
  · have e : q = p := by omega
    subst e
    obtain ⟨g, hg, he⟩ := P.fd
    rw [hg] at hu
    obtain ⟨r, hr, er⟩ := mem_rowsOf.mp hu
    have := ((he r hr).2 u er).2.2.2.1
    rw [hz r hr] at this
    omega
theorem Pv.some {m p : Nat} {R : List (List Int)} {E : Nat} {F L : List (List Int)} {f : List Int} (P : PInv m p R E F L) (h : Pv p F) (hl : f.length = m) (fz : zb p f) (fs : Sm 8889 (gt f p)) : Pv (p + 1) (F.map (red p f) ++ [f]) := fun u hu q hq hz hn => by
  rcases List.mem_append.mp hu with k | k
  · obtain ⟨w, hw, rfl⟩ := List.mem_map.mp k
    obtain ⟨g, hg, he⟩ := P.fd
    have hw' := hw
    rw [hg] at hw'
    obtain ⟨r, hr, er⟩ := mem_rowsOf.mp hw'
    obtain ⟨_, lw, _, pw, _⟩ := (he r hr).2 w er
    have same : ∀ i, i < p → gt (red p f w) i = gt w i := fun i hi => by rw [red_gt (by omega), fz i hi]; omega
    by_cases e : q < p
    · rw [same q e] at hn ⊢
      exact h w hw q e (fun i hi => by rw [← same i (by omega)]; exact hz i hi) hn
    · have e : q = p := by omega
      subst e
      have := hz r hr
      rw [same r hr] at this
      omega
  · have e0 : u = f := by simpa using k
    subst e0
    by_cases e : q < p
    · exact absurd (fz q e) hn
    · have e : q = p := by omega
      subst e
      exact fs
/-! #### FD -/
theorem st_get (S : Sto) (o : O) : (S ++ [o])[S.length]? = some o := by simp
theorem st_set (S : Sto) (o o' : O) : (S ++ [o]).set S.length o' = S ++ [o'] := by simp
theorem st_rec (S : Sto) (ds : List D) : recD (S ++ [.lst ds]) "list" (.han S.length) = true := by
  unfold recD
  simp
theorem st_app (S : Sto) (ds : List D) (y : D) (Q : QD) (h : ds.length < sizeLine) (q : Q .non (S ++ [.lst (ds ++ [y])])) : oAppend (.han S.length) [y] (S ++ [.lst ds]) Q :=
  ⟨ds, st_get _ _, h, by rw [st_set]; exact q⟩
def VecOk (k n : Nat) (v : List Int) : Prop := v.length = n ∧ ∀ x ∈ v, Sm k x
theorem sq_set {b : Nat} {R : List (List Int)} {v : List Int} (h : SqM b R) (hv : VecOk b R.length v) (k : Nat) : SqM b (R.set k v) := by
  refine ⟨by simpa using h.1, by simpa using h.2.1, fun u hu => ?_⟩
  rw [List.length_set]
  rcases List.mem_or_eq_of_mem_set hu with q | rfl
  · exact h.2.2 u q
  · exact hv
theorem zip_set (R : List (List Int)) (v : List Int) (k : Nat) : (R.zipIdx.map fun p => if p.2 = k then v else p.1) = R.set k v := by
  apply List.ext_getElem
  · simp
  · intro i h1 h2
    simp only [List.getElem_map, List.getElem_zipIdx, List.getElem_set]
    by_cases e : k = i
    · subst e; simp
    · have : ¬ i = k := by omega
      simp [e, this]
theorem enum_map (R : List (List Int)) : enumD (R.map VE) = R.zipIdx.map fun p => .tup [.int (p.2 : Nat), VE p.1] := by
  unfold enumD
  rw [List.zipIdx_map]
  simp
def Gr (S S' : Sto) : Prop := ∃ J, S' = S ++ J
theorem Gr.refl (S : Sto) : Gr S S := ⟨[], by simp⟩
theorem Gr.trans {S T U : Sto} (h : Gr S T) (g : Gr T U) : Gr S U := by
  obtain ⟨J, rfl⟩ := h
  obtain ⟨K, rfl⟩ := g
  exact ⟨J ++ K, by simp⟩
theorem compGo_gr {α : Type} {bd : D → Env → Sto → Option Env} {e : WE} {env : Env} {Q : QL} (enc : α → D) (g : α → D) : ∀ (L : List α) (acc : List D) (S : Sto),
    (∀ a ∈ L, ∀ S', Gr S S' → ∃ env', bd (enc a) env S' = some env' ∧ (∀ Qd : QD, (∀ S'', Gr S' S'' → Qd (g a) S'') → e env' S' Qd noX)) →
    (∀ S', Gr S S' → Q (acc ++ L.map g) S') → compGo bd wYes e env [] (L.map enc) S acc Q
  | [], acc, S, _, hq => ⟨True.intro, by simpa using hq S (Gr.refl S)⟩
  | a :: L, acc, S, h, hq => by
    obtain ⟨env', hb, he⟩ := h a List.mem_cons_self S (Gr.refl S)
    refine ⟨True.intro, env', hb, ?_⟩
    show if true = true then e env' S (fun x S2 => compGo bd wYes e env [] (List.map enc L) S2 (acc ++ [x]) Q) noX else compGo bd wYes e env [] (List.map enc L) S acc Q
    rw [if_pos rfl]
    refine he _ fun S'' g2 => compGo_gr enc g L _ S'' (fun x hx S' g3 => h x (List.mem_cons_of_mem _ hx) S' (g2.trans g3)) fun S' g3 => ?_
    simpa using hq S' (g2.trans g3)
theorem sm_detL {k : Nat} {R : List (List Int)} (h : SqM k R) : Sm (3 * k + 4) (detL R) := by
  rcases sq_cases h with ⟨a, rfl, sa⟩ | ⟨a, b, c, e, rfl, sa, sb, sc, se⟩ | ⟨a, b, c, d, e, f, g, h', i, rfl, sa, sb, sc, sd, se, sf, sg, sh, si⟩
  · exact sa.mono (by omega)
  · exact (sm_det2 sa sb sc se).mono (by omega)
  · have h1 := sa.mul (sm_det2 se sf sh si)
    have h2 := sb.mul (sm_det2 sd sf sg si)
    have h3 := sc.mul (sm_det2 sd se sg sh)
    exact ((h1.sub h2).add h3).mono (by omega)
def c_whole_coefficients : Ct := fun ds S Q _ => ∃ (R : List (List Int)) (v : List Int), ds = [.tup (R.map VE), VE v] ∧ SqM 2000 R ∧ VecOk 2000 R.length v ∧ detL R ≠ 0 ∧ ∀ S', Gr S S' → Q (if Whole R v then VE (wc R v) else .non) S'
/-! #### FE -/
def c__law_town : Ct := fun ds S Q _ => ∃ ns : List Int, ds = [.scr (ns.map .int)] ∧ ns.length ≤ 63 ∧ S = [] ∧ Q (.han 0) [.lst (.int 0 :: ns.map .int)]
/-- _law_town -/
def N__law_town : List Str := ["script"]
def b__law_town : DB := (DB.cons (DS.ret (DE.thw (DL.cat (DE.lst (DL.dis (DA.cons (DE.con (.int 0)) DA.nil))) (DE.lst (DL.lof (DA.cons (DE.var 0) DA.nil))))))
  DB.nil)
theorem w__law_town {ds : List D} {S : Sto} {Q : QD} {X : XD} (h : c__law_town ds S Q X) : ctOf N__law_town.length b__law_town ds S Q X := by
  obtain ⟨ns, rfl, hl, rfl, h⟩ := h
  unfold b__law_town N__law_town
  walk_at "wp"
  simp only [List.length_map]
  exact ⟨szLe (by omega), h⟩
/-- the store with the town first -/
abbrev tw (c : Nat) (ts : List Int) (J : Sto) : Sto := .lst (.int (c : Nat) :: ts.map .int) :: J
def c__law_draw : Ct := fun ds S Q _ => ∃ (ns ts : List Int) (c : Nat) (J : Sto) (limit : Int), ds = [.scr (ns.map .int), .han 0, .int limit] ∧ S = tw c ts J ∧ ns.length ≤ 63 ∧ ts.length = ns.length ∧ c < 1000000 ∧ 0 < limit ∧ limit ≤ 1000000000 ∧
  ∀ (r : Int) (ts' : List Int), 0 ≤ r → r < limit → ts'.length = ns.length → Q (.int r) (tw (c + 1) ts' J)
/-- _law_draw -/
def N__law_draw : List Str := ["script", "town", "limit", "at", "left", "number"]
def b__law_draw : DB := (DB.cons (DS.sub (DE.var 1) (DE.con (.int 0)) (DE.op .Add (DE.ix (DE.var 1) (DE.con (.int 0))) (DE.con (.int 1))))
  (DB.cons (DS.iff (DT.cmp .Eq (DE.var 0) (DE.lst (DL.dis DA.nil))) (DB.cons (DS.ret (DE.op .Mod (DE.op .FloorDiv (DE.op .Mult (DE.op .Mult (DE.ix (DE.var 1) (DE.con (.int 0))) (DE.ix (DE.var 1) (DE.con (.int 0)))) (DE.con (.int 7))) (DE.con (.int 3))) (DE.var 2)))
  DB.nil) DB.nil)
  (DB.cons (DS.set 3 (DE.op .Mod (DE.ix (DE.var 1) (DE.con (.int 0))) (DE.len (DA.cons (DE.var 0) DA.nil))))
  (DB.cons (DS.set 4 (DE.ix (DE.var 1) (DE.op .Add (DE.con (.int 1)) (DE.var 3))))
  (DB.cons (DS.iff (DT.bool (DW.cons (DT.cmp .GtE (DE.ix (DE.var 0) (DE.var 3)) (DE.op .Pow (DE.con (.int 10)) (DE.con (.int 18)))) (DW.one .And (DT.cmp .Gt (DE.var 4) (DE.con (.int 0)))))) (DB.cons (DS.sub (DE.var 1) (DE.op .Add (DE.con (.int 1)) (DE.var 3)) (DE.op .FloorDiv (DE.var 4) (DE.var 2)))
  (DB.cons (DS.ret (DE.op .Mod (DE.var 4) (DE.var 2)))
  DB.nil)) DB.nil)
  (DB.cons (DS.set 5 (DE.op .Mod (DE.op .Add (DE.ix (DE.var 0) (DE.var 3)) (DE.op .Mult (DE.con (.int 104729)) (DE.ix (DE.var 1) (DE.con (.int 0))))) (DE.con (.int 4294967291))))
  (DB.cons (DS.set 5 (DE.op .Mod (DE.op .Pow (DE.var 5) (DE.con (.int 5))) (DE.con (.int 4294967279))))
  (DB.cons (DS.ret (DE.op .Mod (DE.op .FloorDiv (DE.op .Mod (DE.op .Add (DE.op .Mult (DE.op .FloorDiv (DE.var 5) (DE.con (.int 64))) (DE.con (.int 69621))) (DE.var 5)) (DE.con (.int 4294967231))) (DE.con (.int 8))) (DE.var 2)))
  DB.nil))))))))
theorem seq_h0 (l : List D) (J : Sto) : seqOf (.lst l :: J) (.han 0) = some l := rfl
theorem oIx_h0 (l : List D) (J : Sto) (i : Int) (Q : QD) : oIx (.han 0) (.int i) (.lst l :: J) Q = ∃ d, atI l i = some d ∧ Q d (.lst l :: J) := by simp [oIx, seq_h0]
theorem ix0 {n : Nat} (h : 0 < n) : ixN n 0 = some 0 := by
  unfold ixN
  rw [if_pos (by omega), if_pos (by omega)]; rfl
theorem oEq_scr (ns : List Int) (S : Sto) (Q : QD) (h : Q (.bl (decide (ns = []))) S) : oEq (.scr (ns.map .int)) (.lst []) S Q := by
  refine ⟨.list (ns.map .int), .list [], ?_, rfl, ?_, rfl, ?_⟩
  · show (pyDs (ns.map D.int)).map PyData.list = _
    rw [show pyDs (ns.map D.int) = some (ns.map PyData.int) from eI.hps ns]; rfl
  · unfold SeqAt.shaped
    have h1 : PyData.canLay0 (.list (ns.map .int)) = true := (eL eI).lay ns
    have h2 : PyData.depth (.list (ns.map .int)) ≤ 1 := (eL eI).dp ns
    rw [h1]; simp; omega
  · rw [show PyData.eqv (.list (ns.map .int)) (.list []) = decide (ns = []) from (eL eI).eq ns []]; exact h
theorem sm_nat {c : Nat} (k : Nat) (h : c < 2 ^ k) : Sm k (c : Int) := by unfold Sm; simpa using h
theorem sm_rng {a : Int} (k : Nat) (h0 : 0 ≤ a) (h : a < 2 ^ k) : Sm k a := by
  unfold Sm
  have e : ((2 ^ k : Nat) : Int) = (2 : Int) ^ k := by simp
  omega
theorem divOk_lit {j : Int} (h0 : 0 < j) (h : j < 2 ^ 40) : IntDivOk j := (sm_rng 40 (by omega) h).div (by omega) (by omega)
theorem w__law_draw {ds : List D} {S : Sto} {Q : QD} {X : XD} (h : c__law_draw ds S Q X) : ctOf N__law_draw.length b__law_draw ds S Q X := by
  obtain ⟨ns, ts, c, J, limit, rfl, rfl, hl, ht, hc, h0, hm, h⟩ := h
  unfold b__law_draw N__law_draw
  walk_at "wp"
  simp only [oIx_h0, atI_0]
  walk_at "wp"
  refine ⟨0, rfl, 0, _, rfl, ix0 (by simp), oEq_scr _ _ _ ⟨_, rfl, ?_⟩⟩
  have ec : (c : Int) + 1 = ((c + 1 : Nat) : Int) := by omega
  have sc : Sm 20 ((c + 1 : Nat) : Int) := sm_nat 20 (by omega)
  simp only [List.set_cons_zero, ec, oIx_h0, atI_0]
  have fin : ∀ (x : Int) (ts' : List Int), ts'.length = ns.length → limit ≠ 0 ∧ Q (.int (x.fmod limit)) (tw (c + 1) ts' J) := fun x ts' hts =>
    ⟨by omega, h _ _ (Int.fmod_nonneg_of_pos _ h0) (Int.fmod_lt_of_pos _ h0) hts⟩
  by_cases hns : ns = []
  · simp only [hns, decide_true, if_true]
    walk_at "wp"
    refine ⟨sc.ok sc (by omega), (sc.mul sc).ok (sm_lit 7 (by decide)) (by omega), divOk_lit (by decide) (by decide), fin _ _ ht⟩
  · simp only [hns, decide_false, Bool.false_eq_true, if_false]
    have hpos : 0 < ns.length := by cases ns with | nil => exact absurd rfl hns | cons a r => simp
    walk_at "wp"
    simp only [List.length_map]
    refine ⟨by omega, ?_⟩
    obtain ⟨a, ha⟩ : ∃ a : Nat, ((c + 1 : Nat) : Int).fmod (ns.length : Int) = (a : Int) := ⟨(((c + 1 : Nat) : Int).fmod (ns.length : Int)).toNat, by
      have := Int.fmod_nonneg_of_pos ((c + 1 : Nat) : Int) (b := (ns.length : Int)) (by omega)
      omega⟩
    have hal : a < ns.length := by
      have := Int.fmod_lt_of_pos ((c + 1 : Nat) : Int) (b := (ns.length : Int)) (by omega)
      omega
    have e1 : (1 : Int) + (a : Int) = ((a + 1 : Nat) : Int) := by omega
    have hts : a + 1 < (D.int ((c + 1 : Nat) : Int) :: ts.map D.int).length := by simp; omega
    have g1 : (D.int ((c + 1 : Nat) : Int) :: ts.map D.int)[a + 1] = D.int (gt ts a) := by
      rw [List.getElem_cons_succ, List.getElem_map, gt_lt (by omega)]
    simp only [ha, e1, oIx_h0, atI_some hts, g1]
    walk_at "wp"
    have hns' : a < (ns.map D.int).length := by simpa using hal
    have g2 : (ns.map D.int)[a] = D.int (gt ns a) := by rw [List.getElem_map, gt_lt hal]
    simp only [atI_some hns', g2]
    walk_at "wp"
    refine ⟨by decide, ?_⟩
    have k1 : IntMulOk 104729 ((c + 1 : Nat) : Int) := (sm_rng 20 (a := 104729) (by decide) (by decide)).ok sc (by omega)
    have k2 : ((gt ns a + 104729 * ((c + 1 : Nat) : Int)).fmod 4294967291).natAbs < 2 ^ 64 := by
      have h1 := Int.fmod_nonneg_of_pos (gt ns a + 104729 * ((c + 1 : Nat) : Int)) (b := 4294967291) (by decide)
      have h2 := Int.fmod_lt_of_pos (gt ns a + 104729 * ((c + 1 : Nat) : Int)) (b := 4294967291) (by decide)
      omega
    have k3 : ∀ y : Int, IntMulOk ((y.fmod 4294967279).fdiv 64) 69621 := fun y => by
      have h1 := Int.fmod_nonneg_of_pos y (b := 4294967279) (by decide)
      have h2 := Int.fmod_lt_of_pos y (b := 4294967279) (by decide)
      generalize y.fmod 4294967279 = z at h1 h2 ⊢
      have h3 := fd_le z (b := 64) (by decide)
      exact (Sm.of 33 (a := z.fdiv 64) (B := 4294967279) (by omega) (by decide)).ok (sm_rng 20 (a := 69621) (by decide) (by decide)) (by omega)
    have d64 : IntDivOk 64 := divOk_lit (by decide) (by decide)
    have d8 : IntDivOk 8 := divOk_lit (by decide) (by decide)
    have dl : IntDivOk limit := divOk_lit h0 (by omega)
    split
    · split
      · refine ⟨dl, 0, rfl, _, _, rfl, by unfold ixN; rw [if_pos (by omega), if_pos (by omega)], ?_⟩
        rw [show ((a + 1 : Nat) : Int).toNat = a + 1 by omega]
        simp only [List.set_cons_zero, List.set_cons_succ]
        rw [show (ts.map D.int).set a (D.int ((gt ts a).fdiv limit)) = (ts.set a ((gt ts a).fdiv limit)).map D.int by rw [List.map_set]]
        exact fin _ _ (by rw [List.length_set]; exact ht)
      · simp only [oIx_h0, atI_0]
        walk_at "wp"
        exact ⟨k1, by decide, k2, by decide, d64, k3 _, by decide, d8, fin _ _ ht⟩
    · simp only [oIx_h0, atI_0]
      walk_at "wp"
      exact ⟨k1, by decide, k2, by decide, d64, k3 _, by decide, d8, fin _ _ ht⟩
/-! #### FF -/
theorem oLen_seq {d : D} {S : Sto} {l : List D} (h : seqOf S d = some l) (Q : QD) : oLen [d] S Q = Q (.int l.length) S := by
  cases d <;> simp [oLen, h]
  cases h
theorem oIx_seq {d : D} {S : Sto} {l : List D} (h : seqOf S d = some l) (i : Int) (Q : QD) : oIx d (.int i) S Q = ∃ x, atI l i = some x ∧ Q x S := by simp [oIx, h]
theorem oTuple_seq {d : D} {S : Sto} {l : List D} (h : seqOf S d = some l) (Q : QD) : oTuple [d] S Q = Q (.tup l) S := by
  cases d <;> simp [oTuple, h]
def Tn (ns ts : List Int) (c : Nat) : Prop := ns.length ≤ 63 ∧ ts.length = ns.length ∧ c < 1000000
theorem draw_call {ns ts : List Int} {c : Nat} {J : Sto} {limit : Int} {Q : QD} {X : XD} (t : Tn ns ts c) (h0 : 0 < limit) (hl : limit ≤ 1000000000) (q : ∀ (r : Int) (ts' : List Int), 0 ≤ r → r < limit → ts'.length = ns.length → Q (.int r) (tw (c + 1) ts' J)) : c__law_draw [.scr (ns.map .int), .han 0, .int limit] (tw c ts J) Q X :=
  ⟨ns, ts, c, J, limit, rfl, rfl, t.1, t.2.1, t.2.2, h0, hl, q⟩
def c__law_pick : Ct := fun ds S Q _ => ∃ (ns ts : List Int) (c : Nat) (J : Sto) (xs : List D), ds = [.scr (ns.map .int), .han 0, .lst xs] ∧ S = tw c ts J ∧ Tn ns ts c ∧ 0 < xs.length ∧ xs.length ≤ 1000 ∧
  ∀ x ∈ xs, ∀ ts' : List Int, ts'.length = ns.length → Q x (tw (c + 1) ts' J)
/-- _law_pick -/
def N__law_pick : List Str := ["script", "town", "choices"]
def b__law_pick : DB := (DB.cons (DS.ret (DE.ix (DE.var 2) (DE.call "_law_draw" c__law_draw (DA.cons (DE.var 0) (DA.cons (DE.var 1) (DA.cons (DE.len (DA.cons (DE.var 2) DA.nil)) DA.nil))))))
  DB.nil)
theorem w__law_pick {ds : List D} {S : Sto} {Q : QD} {X : XD} (h : c__law_pick ds S Q X) : ctOf N__law_pick.length b__law_pick ds S Q X := by
  obtain ⟨ns, ts, c, J, xs, rfl, rfl, t, h0, h1, h⟩ := h
  unfold b__law_pick N__law_pick
  walk_at "wp"
  refine draw_call t (by omega) (by omega) fun r ts' r0 r1 hts => ?_
  walk_at "wp"
  obtain ⟨i, rfl⟩ := Int.eq_ofNat_of_zero_le r0
  have hi : i < xs.length := by omega
  exact ⟨xs[i], atI_some hi, h _ (List.getElem_mem hi) _ hts⟩
def c__law_det : Ct := fun ds S Q _ => ∃ R d, ds = [d] ∧ seqOf S d = some (R.map VE) ∧ SqM 200000 R ∧ Q (.int (detL R)) S
/-- _law_det -/
def N__law_det : List Str := ["rows", "one", "two", "three", "found"]
def b__law_det : DB := (DB.cons (DS.iff (DT.cmp .Eq (DE.len (DA.cons (DE.var 0) DA.nil)) (DE.con (.int 1))) (DB.cons (DS.ret (DE.ix (DE.ix (DE.var 0) (DE.con (.int 0))) (DE.con (.int 0))))
  DB.nil) DB.nil)
  (DB.cons (DS.iff (DT.cmp .Eq (DE.len (DA.cons (DE.var 0) DA.nil)) (DE.con (.int 2))) (DB.cons (DS.ret (DE.op .Sub (DE.op .Mult (DE.ix (DE.ix (DE.var 0) (DE.con (.int 0))) (DE.con (.int 0))) (DE.ix (DE.ix (DE.var 0) (DE.con (.int 1))) (DE.con (.int 1)))) (DE.op .Mult (DE.ix (DE.ix (DE.var 0) (DE.con (.int 0))) (DE.con (.int 1))) (DE.ix (DE.ix (DE.var 0) (DE.con (.int 1))) (DE.con (.int 0))))))
  DB.nil) DB.nil)
  (DB.cons (DS.asg (DG.tp (DGs.cons 1 (DGs.cons 2 (DGs.cons 3 DGs.nil)))) (DE.var 0))
  (DB.cons (DS.set 4 (DE.op .Mult (DE.ix (DE.var 1) (DE.con (.int 0))) (DE.op .Sub (DE.op .Mult (DE.ix (DE.var 2) (DE.con (.int 1))) (DE.ix (DE.var 3) (DE.con (.int 2)))) (DE.op .Mult (DE.ix (DE.var 2) (DE.con (.int 2))) (DE.ix (DE.var 3) (DE.con (.int 1)))))))
  (DB.cons (DS.set 4 (DE.op .Sub (DE.var 4) (DE.op .Mult (DE.ix (DE.var 1) (DE.con (.int 1))) (DE.op .Sub (DE.op .Mult (DE.ix (DE.var 2) (DE.con (.int 0))) (DE.ix (DE.var 3) (DE.con (.int 2)))) (DE.op .Mult (DE.ix (DE.var 2) (DE.con (.int 2))) (DE.ix (DE.var 3) (DE.con (.int 0))))))))
  (DB.cons (DS.ret (DE.op .Add (DE.var 4) (DE.op .Mult (DE.ix (DE.var 1) (DE.con (.int 2))) (DE.op .Sub (DE.op .Mult (DE.ix (DE.var 2) (DE.con (.int 0))) (DE.ix (DE.var 3) (DE.con (.int 1)))) (DE.op .Mult (DE.ix (DE.var 2) (DE.con (.int 1))) (DE.ix (DE.var 3) (DE.con (.int 0))))))))
  DB.nil))))))
theorem w__law_det {ds : List D} {S : Sto} {Q : QD} {X : XD} (h : c__law_det ds S Q X) : ctOf N__law_det.length b__law_det ds S Q X := by
  obtain ⟨R, d, rfl, hd, hs, h⟩ := h
  unfold b__law_det N__law_det
  rcases sq_cases hs with ⟨a, rfl, sa⟩ | ⟨a, b, c, e, rfl, sa, sb, sc, se⟩ | ⟨a, b, c, d', e, f, g, h', i, rfl, sa, sb, sc, sd, se, sf, sg, sh, si⟩
  · simp only [List.map_cons, List.map_nil, VE_eq] at hd
    have h1 := oLen_seq hd
    have h2 := oIx_seq hd
    clear hs
    revert h
    intro h
    simp only [z0, z1, z2, z3, z4, z5, z6, z7, z8, z9, z10, z11, z12, z13, z14, z15, z16, z17, z18, z19, z20, z21, z22, z23, z24, z25, z26, z27, z28, z29, z30, z31, z32, z33, z34, z35, z36, z37, z38, z39, z40, z41, z42, z43, z44, z45, z46, z47, z49, z52, z53, z54, z56, z57, z58, z59, z60, z61, z62, z63, z64, z65, z66, z67, z68, z69, z70, z71, z72, z73, z75, z76, z77, z78, z79, z80, z81, z82, zg0, zg1, wVar, wFrz, wC, wNil, wCons, w1, w2, w3, wAp, opD, cmD, oNeg, wB, wNotT, boolW, wAndT, wOrT, wNotV, boolV, wAndV, wOrV, wIte, wNo, wSo, wSl, wTup, wLst, wThw, wLof, wCat, wRep, wIsi, wM1, wIseq, wR1, wR2, wZip_eq, wEnum, wYes, wComp, wSkip, wSeq, wExpr, wRet, wCont, wSet, wAsg, wPar, wSub, wIf, wFor, wRaise, wCall, seqOf_tup, seqOf_lst, seqOf_scr, lstOf_lst, lstOf_scr, lstX_lst, tupOf_tup, srcOf_tup, srcOf_lst, srcOf_scr, srcOf_han, srcOk_nil, srcOk_cons, oAdd_ii, oAdd_ss, oAdd_tt, oAdd_ll, oSub_ii, oMul_ii, oMul_ti, oDiv_ii, oMod_ii, oPow_ii, oNeg_i, oEq_ii, oNe_ii, oEq_ss, oNe_ss, oI_ii, oIs_n, oIsNot_n, oIs_b, oIsNot_b, isNon_n, isNon_b, isNon_i, isNon_s, isNon_t, isNon_l, isNon_h, oIx_t, oIx_l, oIx_s, oLen_t, oLen_l, oLen_s, oLen_str, oAbs_i, oTuple_l, oTuple_t, oSl_t, oSl_l, oInt_i, oInt_b, compGo_nil, compGo_cons, forGo_nil, forGo_cons, wipeD_nil, wipeD_cons, range_3, range_2, range_1, enumD_nil, enumD_1, enumD_2, enumD_3, zipD_nil, zipD_cons, ctOf, startD, List.map_cons, List.map_nil, List.length_cons, List.length_nil, List.cons_append, List.nil_append, List.append_nil, List.replicate, Nat.reduceAdd, Nat.reduceSub, Nat.sub_self, Nat.zero_add, List.getElem?_cons_zero, List.getElem?_cons_succ, List.getElem?_nil, List.set_cons_zero, List.set_cons_succ, ex_eq, ex_and, Option.some.injEq, exists_eq_left', exists_eq_left, exists_eq_right, D.bl.injEq, D.int.injEq, D.str.injEq, D.tup.injEq, D.lst.injEq, atI_0, atI_1, atI_2, reduceIte, zip_tt, zip_ll, ty_n, ty_b, ty_i, ty_s, ty_t, ty_l, ty_f, kit_ii, kit_ib, kit_bb, kit_bi, kit_it, kit_tt, kit_ti, kit_tb, kit_lt, kit_li, kit_st, kit_si, kit_ss, kit_nt, kit_ni, kit_fi, kit_ft, kit_is, kit_ns, kit_bt, oLen_V, Int.toNat_natCast, cut_t0, cut_t1, cut_t2, cut_f1, cut_f2, cut_f3, m2_0, m2_1, m2_2, List.take_succ_cons, List.take_zero, List.drop_succ_cons, List.drop_zero, List.take_nil, List.drop_nil, decide_true, decide_false, Bool.not_true, Bool.not_false, if_true, if_false, Bool.false_eq_true, Int.cast_ofNat_Int, Int.reduceEq, Int.reduceLT, Int.reduceLE, Int.reduceToNat, Int.reduceNeg, Nat.reduceEqDiff, decide_eq_true_eq, true_and, and_true, List.cons.injEq, and_self, Int.reduceSub, Int.reduceAdd, Int.reduceMul, *]
    exact h
  · simp only [List.map_cons, List.map_nil, VE_eq] at hd
    have h1 := oLen_seq hd
    have h2 := oIx_seq hd
    simp only [z0, z1, z2, z3, z4, z5, z6, z7, z8, z9, z10, z11, z12, z13, z14, z15, z16, z17, z18, z19, z20, z21, z22, z23, z24, z25, z26, z27, z28, z29, z30, z31, z32, z33, z34, z35, z36, z37, z38, z39, z40, z41, z42, z43, z44, z45, z46, z47, z49, z52, z53, z54, z56, z57, z58, z59, z60, z61, z62, z63, z64, z65, z66, z67, z68, z69, z70, z71, z72, z73, z75, z76, z77, z78, z79, z80, z81, z82, zg0, zg1, wVar, wFrz, wC, wNil, wCons, w1, w2, w3, wAp, opD, cmD, oNeg, wB, wNotT, boolW, wAndT, wOrT, wNotV, boolV, wAndV, wOrV, wIte, wNo, wSo, wSl, wTup, wLst, wThw, wLof, wCat, wRep, wIsi, wM1, wIseq, wR1, wR2, wZip_eq, wEnum, wYes, wComp, wSkip, wSeq, wExpr, wRet, wCont, wSet, wAsg, wPar, wSub, wIf, wFor, wRaise, wCall, seqOf_tup, seqOf_lst, seqOf_scr, lstOf_lst, lstOf_scr, lstX_lst, tupOf_tup, srcOf_tup, srcOf_lst, srcOf_scr, srcOf_han, srcOk_nil, srcOk_cons, oAdd_ii, oAdd_ss, oAdd_tt, oAdd_ll, oSub_ii, oMul_ii, oMul_ti, oDiv_ii, oMod_ii, oPow_ii, oNeg_i, oEq_ii, oNe_ii, oEq_ss, oNe_ss, oI_ii, oIs_n, oIsNot_n, oIs_b, oIsNot_b, isNon_n, isNon_b, isNon_i, isNon_s, isNon_t, isNon_l, isNon_h, oIx_t, oIx_l, oIx_s, oLen_t, oLen_l, oLen_s, oLen_str, oAbs_i, oTuple_l, oTuple_t, oSl_t, oSl_l, oInt_i, oInt_b, compGo_nil, compGo_cons, forGo_nil, forGo_cons, wipeD_nil, wipeD_cons, range_3, range_2, range_1, enumD_nil, enumD_1, enumD_2, enumD_3, zipD_nil, zipD_cons, ctOf, startD, List.map_cons, List.map_nil, List.length_cons, List.length_nil, List.cons_append, List.nil_append, List.append_nil, List.replicate, Nat.reduceAdd, Nat.reduceSub, Nat.sub_self, Nat.zero_add, List.getElem?_cons_zero, List.getElem?_cons_succ, List.getElem?_nil, List.set_cons_zero, List.set_cons_succ, ex_eq, ex_and, Option.some.injEq, exists_eq_left', exists_eq_left, exists_eq_right, D.bl.injEq, D.int.injEq, D.str.injEq, D.tup.injEq, D.lst.injEq, atI_0, atI_1, atI_2, reduceIte, zip_tt, zip_ll, ty_n, ty_b, ty_i, ty_s, ty_t, ty_l, ty_f, kit_ii, kit_ib, kit_bb, kit_bi, kit_it, kit_tt, kit_ti, kit_tb, kit_lt, kit_li, kit_st, kit_si, kit_ss, kit_nt, kit_ni, kit_fi, kit_ft, kit_is, kit_ns, kit_bt, oLen_V, Int.toNat_natCast, cut_t0, cut_t1, cut_t2, cut_f1, cut_f2, cut_f3, m2_0, m2_1, m2_2, List.take_succ_cons, List.take_zero, List.drop_succ_cons, List.drop_zero, List.take_nil, List.drop_nil, decide_true, decide_false, Bool.not_true, Bool.not_false, if_true, if_false, Bool.false_eq_true, Int.cast_ofNat_Int, Int.reduceEq, Int.reduceLT, Int.reduceLE, Int.reduceToNat, Int.reduceNeg, Nat.reduceEqDiff, decide_eq_true_eq, true_and, and_true, List.cons.injEq, and_self, Int.reduceSub, Int.reduceAdd, Int.reduceMul, *]
    exact ⟨sa.ok se (by omega), sb.ok sc (by omega), h⟩
  · simp only [List.map_cons, List.map_nil, VE_eq] at hd
    have h1 := oLen_seq hd
    have h2 := oIx_seq hd
    simp only [z0, z1, z2, z3, z4, z5, z6, z7, z8, z9, z10, z11, z12, z13, z14, z15, z16, z17, z18, z19, z20, z21, z22, z23, z24, z25, z26, z27, z28, z29, z30, z31, z32, z33, z34, z35, z36, z37, z38, z39, z40, z41, z42, z43, z44, z45, z46, z47, z49, z52, z53, z54, z56, z57, z58, z59, z60, z61, z62, z63, z64, z65, z66, z67, z68, z69, z70, z71, z72, z73, z75, z76, z77, z78, z79, z80, z81, z82, zg0, zg1, wVar, wFrz, wC, wNil, wCons, w1, w2, w3, wAp, opD, cmD, oNeg, wB, wNotT, boolW, wAndT, wOrT, wNotV, boolV, wAndV, wOrV, wIte, wNo, wSo, wSl, wTup, wLst, wThw, wLof, wCat, wRep, wIsi, wM1, wIseq, wR1, wR2, wZip_eq, wEnum, wYes, wComp, wSkip, wSeq, wExpr, wRet, wCont, wSet, wAsg, wPar, wSub, wIf, wFor, wRaise, wCall, seqOf_tup, seqOf_lst, seqOf_scr, lstOf_lst, lstOf_scr, lstX_lst, tupOf_tup, srcOf_tup, srcOf_lst, srcOf_scr, srcOf_han, srcOk_nil, srcOk_cons, oAdd_ii, oAdd_ss, oAdd_tt, oAdd_ll, oSub_ii, oMul_ii, oMul_ti, oDiv_ii, oMod_ii, oPow_ii, oNeg_i, oEq_ii, oNe_ii, oEq_ss, oNe_ss, oI_ii, oIs_n, oIsNot_n, oIs_b, oIsNot_b, isNon_n, isNon_b, isNon_i, isNon_s, isNon_t, isNon_l, isNon_h, oIx_t, oIx_l, oIx_s, oLen_t, oLen_l, oLen_s, oLen_str, oAbs_i, oTuple_l, oTuple_t, oSl_t, oSl_l, oInt_i, oInt_b, compGo_nil, compGo_cons, forGo_nil, forGo_cons, wipeD_nil, wipeD_cons, range_3, range_2, range_1, enumD_nil, enumD_1, enumD_2, enumD_3, zipD_nil, zipD_cons, ctOf, startD, List.map_cons, List.map_nil, List.length_cons, List.length_nil, List.cons_append, List.nil_append, List.append_nil, List.replicate, Nat.reduceAdd, Nat.reduceSub, Nat.sub_self, Nat.zero_add, List.getElem?_cons_zero, List.getElem?_cons_succ, List.getElem?_nil, List.set_cons_zero, List.set_cons_succ, ex_eq, ex_and, Option.some.injEq, exists_eq_left', exists_eq_left, exists_eq_right, D.bl.injEq, D.int.injEq, D.str.injEq, D.tup.injEq, D.lst.injEq, atI_0, atI_1, atI_2, reduceIte, zip_tt, zip_ll, ty_n, ty_b, ty_i, ty_s, ty_t, ty_l, ty_f, kit_ii, kit_ib, kit_bb, kit_bi, kit_it, kit_tt, kit_ti, kit_tb, kit_lt, kit_li, kit_st, kit_si, kit_ss, kit_nt, kit_ni, kit_fi, kit_ft, kit_is, kit_ns, kit_bt, oLen_V, Int.toNat_natCast, cut_t0, cut_t1, cut_t2, cut_f1, cut_f2, cut_f3, m2_0, m2_1, m2_2, List.take_succ_cons, List.take_zero, List.drop_succ_cons, List.drop_zero, List.take_nil, List.drop_nil, decide_true, decide_false, Bool.not_true, Bool.not_false, if_true, if_false, Bool.false_eq_true, Int.cast_ofNat_Int, Int.reduceEq, Int.reduceLT, Int.reduceLE, Int.reduceToNat, Int.reduceNeg, Nat.reduceEqDiff, decide_eq_true_eq, true_and, and_true, List.cons.injEq, and_self, Int.reduceSub, Int.reduceAdd, Int.reduceMul, *]
    have e1 : a * (e * i - f * h') - b * (d' * i - f * g) + c * (d' * h' - e * g) = detL [[a, b, c], [d', e, f], [g, h', i]] := by simp only [detL]
    rw [e1]
    have q1 := sm_det2 se sf sh si
    have q2 := sm_det2 sd sf sg si
    have q3 := sm_det2 sd se sg sh
    exact ⟨se.ok si (by omega), sf.ok sh (by omega), sa.ok q1 (by omega), sd.ok si (by omega), sf.ok sg (by omega), sb.ok q2 (by omega), sd.ok sh (by omega), se.ok sg (by omega), sc.ok q3 (by omega), h⟩
/-! #### FG -/
local macro_rules | `(tactic| walk_at "wp") => `(tactic| try simp only [z0, z1, z2, z3, z4, z5, z6, z7, z8, z9, z10, z11, z12, z13, z14, z15, z16, z17, z18, z19, z20, z21, z22, z23, z24, z25, z26, z27, z28, z29, z30, z31, z32, z33, z34, z35, z36, z37, z38, z39, z40, z41, z42, z43, z44, z45, z46, z47, z49, z52, z53, z54, z56, z57, z58, z59, z60, z61, z62, z63, z64, z65, z66, z67, z68, z69, z70, z71, z72, z73, z75, z76, z77, z78, z79, z80, z81, z82, zg0, zg1, y0, y1, y2, y3, y4, y5, y6, y7, y8, y9, y10, y12, sg0, sg1, sg2, sg3, sg4, sn0, sn1, sn2, sn3, sn4, sn5, sn6, sn7, sn8, sn9, sp1, sp4, si0, si1, si2, si3, si4, sl0, sl1, sl2, sl3, sl4, y19, y20, zipJ_tt, zipJ_lt, y28a, y30a, y32b, y32c, isCD_t, isCD_s, y38c, wVar, wFrz, wC, wNil, wCons, w1, w2, w3, wAp, opD, cmD, oNeg, wB, wNotT, boolW, wAndT, wOrT, wNotV, boolV, wAndV, wOrV, wIte, wNo, wSo, wSl, wTup, wLst, wThw, wLof, wCat, wRep, wIsi, wM1, wIseq, wR1, wR2, wZip_eq, wEnum, wYes, wComp, wSkip, wSeq, wExpr, wRet, wCont, wSet, wAsg, wPar, wSub, wIf, wFor, wRaise, wCall, wTry, wIsX, wIsVE, wLofS, wFld, wSetF, wMet0, wDead, wSub2, setO, wJn, wJc, wPutD, seqOf_tup, seqOf_lst, seqOf_scr, lstOf_lst, lstOf_scr, lstX_lst, tupOf_tup, srcOf_tup, srcOf_lst, srcOf_scr, srcOf_han, srcOk_nil, srcOk_cons, oAdd_ii, oAdd_ss, oAdd_tt, oAdd_ll, oSub_ii, oMul_ii, oMul_ti, oMul_si, oDiv_ii, oMod_ii, oPow_ii, oNeg_i, oEq_ii, oNe_ii, oEq_ss, oNe_ss, oI_ii, oIs_n, oIsNot_n, oIs_b, oIsNot_b, isNon_n, isNon_b, isNon_i, isNon_s, isNon_t, isNon_l, isNon_h, oIx_t, oIx_l, oIx_s, oLen_t, oLen_l, oLen_s, oLen_str, oAbs_i, oTuple_l, oTuple_t, oSl_t, oSl_l, oInt_i, oInt_b, compGo_nil, compGo_cons, forGo_nil, forGo_cons, wipeD_nil, wipeD_cons, range_3, range_2, range_1, enumD_nil, enumD_1, enumD_2, enumD_3, zipD_nil, zipD_cons, oMin_ii, oNe_iN, oEq_iN, ctOf, startD, List.map_cons, List.map_nil, List.length_cons, List.length_nil, List.cons_append, List.nil_append, List.append_nil, List.replicate, Nat.reduceAdd, Nat.reduceSub, Nat.sub_self, Nat.zero_add, List.getElem?_cons_zero, List.getElem?_cons_succ, List.getElem?_nil, List.set_cons_zero, List.set_cons_succ, ex_eq, ex_and, Option.some.injEq, exists_eq_left', exists_eq_left, exists_eq_right, D.bl.injEq, D.int.injEq, D.str.injEq, D.tup.injEq, D.lst.injEq, D.han.injEq, O.ins.injEq, O.lst.injEq, O.dct.injEq, atI_0, atI_1, atI_2, reduceIte, zip_tt, zip_ll, ty_n, ty_b, ty_i, ty_s, ty_t, ty_l, ty_f, kit_ii, kit_ib, kit_bb, kit_bi, kit_it, kit_tt, kit_ti, kit_tb, kit_lt, kit_li, kit_st, kit_si, kit_ss, kit_nt, kit_ni, kit_fi, kit_ft, kit_is, kit_ns, kit_bt, oLen_V, Int.toNat_natCast, cut_t0, cut_t1, cut_t2, cut_f1, cut_f2, cut_f3, m2_0, m2_1, m2_2, List.take_succ_cons, List.take_zero, List.drop_succ_cons, List.drop_zero, List.take_nil, List.drop_nil, decide_true, decide_false, Bool.not_true, Bool.not_false, if_true, if_false, Bool.false_eq_true, Int.cast_ofNat_Int, Int.reduceEq, Int.reduceLT, Int.reduceLE, Int.reduceToNat, Int.reduceNeg, Nat.reduceEqDiff, decide_eq_true_eq, true_and, and_true, List.cons.injEq, and_self, Int.reduceSub, Int.reduceAdd, Int.reduceMul])
theorem range_map (n : Nat) : rangeD 0 n = (List.range n).map fun i => .int (i : Nat) := by simp [rangeD]
def isVd (f : List Int) (d : D) : Prop := d = VE f ∨ d = .lst (f.map .int)
theorem ix_Vd {f : List Int} {d : D} (h : isVd f d) {k : Nat} (hk : k < f.length) (S : Sto) (Q : QD) : oIx d (.int (k : Nat)) S Q = Q (.int (gt f k)) S := by
  rcases h with rfl | rfl
  · exact ix_V hk S Q
  · rw [oIx_seq (l := f.map .int) rfl, atI_map, atI_some hk, gt_lt hk]
    simp
def c__law_mix : Ct := fun ds S Q _ => ∃ (f : List Int) (R : List (List Int)) (d : D), ds = [d, .tup (R.map VE)] ∧ isVd f d ∧ VecOk 7000 R.length f ∧ SqM 2000 R ∧ Q (VE (mixV f R)) S
/-- _law_mix -/
def N__law_mix : List Str := ["factors", "rows", "j", "k"]
def b__law_mix : DB := (DB.cons (DS.ret (DE.tuple (DA.cons (DE.lst (DL.comp [("j", 2)] (DG.nm 2) (DI.range1 (DE.len (DA.cons (DE.ix (DE.var 1) (DE.con (.int 0))) DA.nil))) DF.no (DE.sum (DA.cons (DE.lst (DL.comp [("k", 3)] (DG.nm 3) (DI.range1 (DE.len (DA.cons (DE.var 1) DA.nil))) DF.no (DE.op .Mult (DE.ix (DE.var 0) (DE.var 3)) (DE.ix (DE.ix (DE.var 1) (DE.var 3)) (DE.var 2))))) DA.nil)))) DA.nil)))
  DB.nil)
theorem w__law_mix {ds : List D} {S : Sto} {Q : QD} {X : XD} (h : c__law_mix ds S Q X) : ctOf N__law_mix.length b__law_mix ds S Q X := by
  obtain ⟨f, R, d, rfl, hdv, hf, hs, h⟩ := h
  have h1 := hs.1
  have h3 := hs.2.1
  have h0 : 0 < R.length := h1
  have r0 := hs.2.2 R[0] (List.getElem_mem h0)
  unfold b__law_mix N__law_mix
  walk_at "wp"
  rw [show (0 : Int) = ((0 : Nat) : Int) from rfl, atI_map, atI_some h0]
  refine ⟨_, rfl, ?_⟩
  walk_at "wp"
  rw [r0.1, range_map]
  refine ⟨by omega, by omega, by simp only [List.length_map, List.length_range]; exact szLe (by omega), compGo_all0 _ (fun j => .int ((List.range R.length).map fun k => gt f k * gt (row R k) j).sum) (List.range R.length) (fun j hj => ⟨_, rfl, fun Qd hq => ?_⟩) ?_⟩
  · walk_at "wp"
    simp only [List.length_map, range_map, List.length_range]
    refine ⟨by omega, by omega, szLe (by omega), compGo_all0 _ (fun k => .int (gt f k * gt (row R k) j)) (List.range R.length) (fun k hk => ⟨_, rfl, fun Qd2 hq2 => ?_⟩) ?_⟩
    · have hk' : k < R.length := List.mem_range.mp hk
      have hj' : j < R.length := List.mem_range.mp hj
      have rk := hs.2.2 R[k] (List.getElem_mem hk')
      walk_at "wp"
      rw [ix_Vd hdv (by rw [hf.1]; exact hk'), atI_map, atI_some hk']
      refine ⟨_, rfl, ?_⟩
      rw [ix_V (by rw [rk.1]; exact hj')]
      walk_at "wp"
      rw [row_lt hk'] at hq2
      have l1 : k < f.length := by rw [hf.1]; exact hk'
      have l2 : j < R[k].length := by rw [rk.1]; exact hj'
      refine ⟨?_, hq2⟩
      rw [gt_lt l1, gt_lt l2]
      exact (hf.2 _ (List.getElem_mem l1)).ok (rk.2 _ (List.getElem_mem l2)) (by omega)
    · walk_at "wp"
      rw [show (List.range R.length).map (fun k => D.int (gt f k * gt (row R k) j)) = ((List.range R.length).map fun k => gt f k * gt (row R k) j).map D.int by simp]
      exact oSum_l _ _ _ hq
  · walk_at "wp"
    rw [show (List.range R.length).map (fun j => D.int ((List.range R.length).map fun k => gt f k * gt (row R k) j).sum) = (mixV f R).map D.int by simp [mixV]]
    exact h
theorem set_take {R : List (List Int)} {k : Nat} (h : k < R.length) (v : List Int) : R.take k ++ [v] ++ R.drop (k + 1) = R.set k v := by
  rw [List.set_eq_take_append_cons_drop]
  simp [h]
/-! #### FH -/
local macro_rules | `(tactic| walk_at "wp") => `(tactic| try simp only [z0, z1, z2, z3, z4, z5, z6, z7, z8, z9, z10, z11, z12, z13, z14, z15, z16, z17, z18, z19, z20, z21, z22, z23, z24, z25, z26, z27, z28, z29, z30, z31, z32, z33, z34, z35, z36, z37, z38, z39, z40, z41, z42, z43, z44, z45, z46, z47, z49, z52, z53, z54, z56, z57, z58, z59, z60, z61, z62, z63, z64, z65, z66, z67, z68, z69, z70, z71, z72, z73, z75, z76, z77, z78, z79, z80, z81, z82, zg0, zg1, wVar, wFrz, wC, wNil, wCons, w1, w2, w3, wAp, opD, cmD, oNeg, wB, wNotT, boolW, wAndT, wOrT, wNotV, boolV, wAndV, wOrV, wIte, wNo, wSo, wSl, wTup, wLst, wThw, wLof, wCat, wRep, wIsi, wM1, wIseq, wR1, wR2, wZip_eq, wEnum, wYes, wComp, wSkip, wSeq, wExpr, wRet, wCont, wSet, wAsg, wPar, wSub, wIf, wFor, wRaise, wCall, seqOf_tup, seqOf_lst, seqOf_scr, lstOf_lst, lstOf_scr, lstX_lst, tupOf_tup, srcOf_tup, srcOf_lst, srcOf_scr, srcOf_han, srcOk_nil, srcOk_cons, oAdd_ii, oAdd_ss, oAdd_tt, oAdd_ll, oSub_ii, oMul_ii, oMul_ti, oDiv_ii, oMod_ii, oPow_ii, oNeg_i, oEq_ii, oNe_ii, oEq_ss, oNe_ss, oI_ii, oIs_n, oIsNot_n, oIs_b, oIsNot_b, isNon_n, isNon_b, isNon_i, isNon_s, isNon_t, isNon_l, isNon_h, oIx_t, oIx_l, oIx_s, oLen_t, oLen_l, oLen_s, oLen_str, oAbs_i, oTuple_l, oTuple_t, oSl_t, oSl_l, oInt_i, oInt_b, compGo_nil, compGo_cons, forGo_nil, forGo_cons, wipeD_nil, wipeD_cons, range_3, range_2, range_1, enumD_nil, enumD_1, enumD_2, enumD_3, zipD_nil, zipD_cons, ctOf, startD, List.map_cons, List.map_nil, List.length_cons, List.length_nil, List.cons_append, List.nil_append, List.append_nil, List.replicate, Nat.reduceAdd, Nat.reduceSub, Nat.sub_self, Nat.zero_add, List.getElem?_cons_zero, List.getElem?_cons_succ, List.getElem?_nil, List.set_cons_zero, List.set_cons_succ, ex_eq, ex_and, Option.some.injEq, exists_eq_left', exists_eq_left, exists_eq_right, D.bl.injEq, D.int.injEq, D.str.injEq, D.tup.injEq, D.lst.injEq, atI_0, atI_1, atI_2, reduceIte, zip_tt, zip_ll, ty_n, ty_b, ty_i, ty_s, ty_t, ty_l, ty_f, kit_ii, kit_ib, kit_bb, kit_bi, kit_it, kit_tt, kit_ti, kit_tb, kit_lt, kit_li, kit_st, kit_si, kit_ss, kit_nt, kit_ni, kit_fi, kit_ft, kit_is, kit_ns, kit_bt, oLen_V, Int.toNat_natCast, cut_t0, cut_t1, cut_t2, cut_f1, cut_f2, cut_f3, m2_0, m2_1, m2_2, List.take_succ_cons, List.take_zero, List.drop_succ_cons, List.drop_zero, List.take_nil, List.drop_nil, decide_true, decide_false, Bool.not_true, Bool.not_false, if_true, if_false, Bool.false_eq_true, Int.cast_ofNat_Int, Int.reduceEq, Int.reduceLT, Int.reduceLE, Int.reduceToNat, Int.reduceNeg, Nat.reduceEqDiff, decide_eq_true_eq, true_and, and_true, List.cons.injEq, and_self, Int.reduceSub, Int.reduceAdd, Int.reduceMul])
/-! #### FI -/
theorem rec_e (l0 l : List D) (J : Sto) : recD (.lst l0 :: (J ++ [.lst l])) "list" (.han (J.length + 1)) = true := by
  unfold recD
  simp
theorem get_e (l0 l : List D) (J : Sto) : (O.lst l0 :: (J ++ [O.lst l]))[J.length + 1]? = some (.lst l) := by simp
theorem seq_e (l0 l : List D) (J : Sto) : seqOf (.lst l0 :: (J ++ [.lst l])) (.han (J.length + 1)) = some l := by
  unfold seqOf tupOf lstOf
  simp
theorem app_e {l0 l : List D} {J : Sto} {y : D} {Q : QD} (hl : l.length < sizeLine) (q : Q .non (.lst l0 :: (J ++ [.lst (l ++ [y])]))) : oAppend (.han (J.length + 1)) [y] (.lst l0 :: (J ++ [.lst l])) Q :=
  ⟨l, get_e _ _ _, hl, by
    have : (O.lst l0 :: (J ++ [O.lst l])).set (J.length + 1) (.lst (l ++ [y])) = .lst l0 :: (J ++ [.lst (l ++ [y])]) := by simp
    rw [this]; exact q⟩
theorem seq_m (l0 l l' : List D) (J : Sto) : seqOf (.lst l0 :: (J ++ [.lst l] ++ [.lst l'])) (.han (J.length + 1)) = some l := by
  unfold seqOf tupOf lstOf
  simp
theorem szLt {n : Nat} (h : n < 16777216) : n < sizeLine := by rw [sizeLine_eq]; omega
/-- rows of length n, entries up to B -/
def Mat (n : Nat) (B : Nat) (R : List (List Int)) : Prop := R.length = n ∧ ∀ v ∈ R, v.length = n ∧ Bd B v
theorem Mat.sq {n B k : Nat} {R : List (List Int)} (h : Mat n B R) (h1 : 1 ≤ n) (h3 : n ≤ 3) (hB : B < 2 ^ k) : SqM k R :=
  ⟨by rw [h.1]; exact h1, by rw [h.1]; exact h3, fun v hv => ⟨by rw [(h.2 v hv).1, h.1], fun x hx => Sm.of k ((h.2 v hv).2 x hx) hB⟩⟩
def triV (v : List Int) (i : Nat) : List Int := List.replicate i 0 ++ [if gt v i ≠ 0 then gt v i else 1] ++ v.drop (i + 1)
theorem gt_tri {v : List Int} {i : Nat} (h : i < v.length) : (triV v i).length = v.length ∧ zb i (triV v i) ∧ gt (triV v i) i ≠ 0 := by
  unfold triV
  refine ⟨by simp; omega, fun j hj => ?_, ?_⟩
  · unfold gt
    rw [List.append_assoc, List.getD_eq_getElem?_getD, List.getElem?_append_left (by simpa using hj)]
    simp [hj]
  · unfold gt
    rw [List.append_assoc, List.getD_eq_getElem?_getD, List.getElem?_append_right (by simp)]
    simp
    split <;> simp_all
theorem bd_tri {v : List Int} {i B : Nat} (h : i < v.length) (hb : Bd B v) (h1 : 1 ≤ B) : Bd B (triV v i) := by
  intro x hx
  unfold triV at hx
  simp only [List.mem_append, List.mem_replicate, List.mem_singleton] at hx
  rcases hx with (⟨_, rfl⟩ | rfl) | q
  · simp
  · split
    · exact hb.at i
    · simpa using h1
  · exact hb x (List.mem_of_mem_drop q)
theorem det_tri {R : List (List Int)} (h1 : 1 ≤ R.length) (h3 : R.length ≤ 3) (hl : Len R.length R) (hz : ∀ i, i < R.length → zb i (row R i) ∧ gt (row R i) i ≠ 0) : detL R ≠ 0 := by
  have : R.length = 1 ∨ R.length = 2 ∨ R.length = 3 := by omega
  rcases this with q | q | q
  · obtain ⟨v, rfl⟩ := len1 q
    obtain ⟨a, rfl⟩ := len1 (hl v (by simp))
    have := (hz 0 (by simp)).2
    simpa [row, gt, detL] using this
  · obtain ⟨v, w, rfl⟩ := len2 q
    obtain ⟨a, b, rfl⟩ := len2 (hl v (by simp))
    obtain ⟨c, d, rfl⟩ := len2 (hl w (by simp))
    have k0 := (hz 0 (by simp)).2
    have k1 := hz 1 (by simp)
    have k2 := k1.1 0 (by omega)
    have k3 := k1.2
    simp only [row, gt, List.getD_cons_zero, List.getD_cons_succ] at k0 k2 k3
    subst k2
    simp only [detL]
    intro e
    have : a * d = 0 := by omega
    rcases Int.mul_eq_zero.mp this with q | q
    · exact k0 q
    · exact k3 q
  · obtain ⟨u, v, w, rfl⟩ := len3 q
    obtain ⟨a, b, c, rfl⟩ := len3 (hl u (by simp))
    obtain ⟨d, e, f, rfl⟩ := len3 (hl v (by simp))
    obtain ⟨g, h, i, rfl⟩ := len3 (hl w (by simp))
    have h0 := (hz 0 (by simp)).2
    have h1 := hz 1 (by simp)
    have h2 := hz 2 (by simp)
    have k1 := h1.1 0 (by omega)
    have k2 := h2.1 0 (by omega)
    have k3 := h2.1 1 (by omega)
    have k4 := h1.2
    have k5 := h2.2
    simp only [row, gt, List.getD_cons_zero, List.getD_cons_succ] at h0 k1 k2 k3 k4 k5
    subst k1 k2 k3
    simp only [detL]
    intro z
    have : a * (e * i) = 0 := by grind
    rcases Int.mul_eq_zero.mp this with q | q
    · exact h0 q
    · rcases Int.mul_eq_zero.mp q with q | q
      · exact k4 q
      · exact k5 q
def c__law_basis_in : Ct := fun ds S Q _ => ∃ (ns ts : List Int) (c : Nat) (J : Sto) (n most : Nat), ds = [.scr (ns.map .int), .han 0, .int n, .int most] ∧ S = tw c ts J ∧ Tn ns ts (c + 20) ∧ 1 ≤ n ∧ n ≤ 3 ∧ 1 ≤ most ∧ most ≤ 1000000 ∧
  ∀ (R : List (List Int)) (c' : Nat) (ts' : List Int) (J' : Sto), Mat n most R → detL R ≠ 0 → c' ≤ c + 9 → ts'.length = ns.length → Q (.tup (R.map VE)) (tw c' ts' (J ++ J'))
/-- _law_basis_in -/
def N__law_basis_in : List Str := ["script", "town", "n", "most", "rows", "i", "found", "row", "j"]
def b__law_basis_in : DB := (DB.cons (DS.set 4 (DE.thw (DL.dis DA.nil)))
  (DB.cons (DS.for (DG.nm 5) (DI.range1 (DE.var 2)) (DB.cons (DS.expr (DE.append (DE.var 4) (DE.tuple (DA.cons (DE.lst (DL.comp [("j", 8)] (DG.nm 8) (DI.range1 (DE.var 2)) DF.no (DE.op .Sub (DE.call "_law_draw" c__law_draw (DA.cons (DE.var 0) (DA.cons (DE.var 1) (DA.cons (DE.op .Add (DE.op .Mult (DE.con (.int 2)) (DE.var 3)) (DE.con (.int 1))) DA.nil)))) (DE.var 3)))) DA.nil))))
  DB.nil))
  (DB.cons (DS.iff (DT.cmp .NotEq (DE.call "_law_det" c__law_det (DA.cons (DE.var 4) DA.nil)) (DE.con (.int 0))) (DB.cons (DS.ret (DE.tuple (DA.cons (DE.var 4) DA.nil)))
  DB.nil) DB.nil)
  (DB.cons (DS.set 6 (DE.thw (DL.dis DA.nil)))
  (DB.cons (DS.for (DG.tp (DGs.cons 5 (DGs.cons 7 DGs.nil))) (DI.enum (DE.var 4)) (DB.cons (DS.expr (DE.append (DE.var 6) (DE.op .Add (DE.op .Add (DE.op .Mult (DE.tup (DA.cons (DE.con (.int 0)) DA.nil)) (DE.var 5)) (DE.tup (DA.cons (DE.ite (DT.cmp .NotEq (DE.ix (DE.var 7) (DE.var 5)) (DE.con (.int 0))) (DE.ix (DE.var 7) (DE.var 5)) (DE.con (.int 1))) DA.nil))) (DE.sl (DE.var 7) (DO.so (DE.op .Add (DE.var 5) (DE.con (.int 1)))) DO.no))))
  DB.nil))
  (DB.cons (DS.ret (DE.tuple (DA.cons (DE.var 6) DA.nil)))
  DB.nil))))))
theorem w__law_basis_in {ds : List D} {S : Sto} {Q : QD} {X : XD} (h : c__law_basis_in ds S Q X) : ctOf N__law_basis_in.length b__law_basis_in ds S Q X := by
  obtain ⟨ns, ts, c, J, n, most, rfl, rfl, t, hn1, hn3, hm1, hm, h⟩ := h
  unfold b__law_basis_in N__law_basis_in
  walk_at "wp"
  refine ⟨by omega, by omega, ?_⟩
  rw [range_map]
  refine forGo_inv (fun ds env S' => ∃ (p : Nat) (R : List (List Int)) (c' : Nat) (ts' : List Int) (a5 a6 a7 a8 : Option D), p ≤ n ∧ ds = ((List.range n).drop p).map (fun i => .int (i : Nat)) ∧
    env = [some (.scr (ns.map .int)), some (.han 0), some (.int n), some (.int most), some (.han (J.length + 1)), a5, a6, a7, a8] ∧ R.length = p ∧ (∀ v ∈ R, v.length = n ∧ Bd most v) ∧ c' = c + p * n ∧ ts'.length = ns.length ∧ S' = tw c' ts' (J ++ [.lst (R.map VE)])) ?_ ?_ _ _ _ ⟨0, [], c, ts, none, none, none, none, by omega, by simp, rfl, rfl, by simp, by simp, t.2.1, rfl⟩
  · rintro d1 ds1 env1 S1 ⟨p, R, c', ts', a5, a6, a7, a8, hp, hds, rfl, hR, hB, hc, hts, rfl⟩
    have hpn : p < n := by
      by_cases e : p < n
      · exact e
      · rw [List.drop_eq_nil_of_le (by simpa using e)] at hds; cases hds
    rw [List.drop_eq_getElem_cons (by simpa using hpn)] at hds
    simp only [List.getElem_range, List.map_cons, List.cons.injEq] at hds
    obtain ⟨rfl, rfl⟩ := hds
    have hpn2 : p * n ≤ 6 := by
      have : p * n ≤ 2 * 3 := Nat.mul_le_mul (by omega) hn3
      omega
    refine ⟨trivial, _, rfl, fun nx hnx => ?_⟩
    walk_at "wp"
    refine ⟨rec_e _ _ _, by omega, by omega, ?_⟩
    rw [range_map]
    refine ⟨by simp only [List.length_map, List.length_range]; exact szLe (by omega), ?_⟩
    refine compGo_inv (fun ds acc S => ∃ (xs : List Int) (c2 : Nat) (ts2 : List Int), acc = xs.map .int ∧ xs.length + ds.length = n ∧ Bd most xs ∧ c2 = c' + xs.length ∧ ts2.length = ns.length ∧ S = tw c2 ts2 (J ++ [.lst (R.map VE)])) ?_ ?_ _ _ _ ⟨[], c', ts', rfl, by simp, by simp [Bd], by simp, hts, rfl⟩
    · rintro d ds2 acc S2 ⟨xs, c2, ts2, rfl, hl, hb, rfl, hts2, rfl⟩
      refine ⟨trivial, _, rfl, fun Qt Qf hQt hQf => ?_⟩
      walk_at "wp"
      simp only [List.length_cons] at hl
      refine ⟨(sm_lit 2 (by decide)).ok (sm_nat 20 (c := most) (by omega)) (by omega), draw_call ⟨t.1, hts2, by have := t.2.2; omega⟩ (by omega) (by omega) fun r ts3 r0 r1 hts3 => ?_⟩
      walk_at "wp"
      refine hQt _ _ ⟨xs ++ [r - most], _, ts3, by simp, by simp; omega, fun x hx => ?_, by simp; omega, hts3, rfl⟩
      rcases List.mem_append.mp hx with q | q
      · exact hb x q
      · have : x = r - most := by simpa using q
        omega
    · rintro acc S2 ⟨xs, c2, ts2, rfl, hl, hb, rfl, hts2, rfl⟩
      refine ⟨trivial, ?_⟩
      walk_at "wp"
      simp only [List.length_nil, Nat.add_zero] at hl
      refine app_e (by rw [List.length_map, hR]; exact szLt (by omega)) (hnx _ _ ⟨p + 1, R ++ [xs], c' + xs.length, ts2, _, _, _, _, by omega, rfl, rfl, by simp [hR], fun v hv => ?_, by rw [hc, hl, Nat.add_mul, Nat.one_mul]; omega, hts2, by rw [List.map_append]; rfl⟩)
      rcases List.mem_append.mp hv with q | q
      · exact hB v q
      · have : v = xs := by simpa using q
        subst this
        exact ⟨hl, hb⟩
  · rintro env1 S1 ⟨p, R, c', ts', a5, a6, a7, a8, hp, hds, rfl, hR, hB, hc, hts, rfl⟩
    have hpn : p = n := by
      by_cases e : p < n
      · rw [List.drop_eq_getElem_cons (by simpa using e)] at hds
        cases hds
      · omega
    subst hpn
    have hc9 : c' ≤ c + 9 := by
      have : p * p ≤ 3 * 3 := Nat.mul_le_mul hn3 hn3
      omega
    have M : Mat p most R := ⟨hR, hB⟩
    refine ⟨trivial, ?_⟩
    walk_at "wp"
    refine ⟨R, _, rfl, seq_e _ _ _, (M.sq (k := 20) hn1 hn3 (by omega)).mono (by omega), ?_⟩
    walk_at "wp"
    by_cases hd : detL R = 0
    rotate_left
    · simp only [hd, decide_false, Bool.not_false, if_true]
      rw [oTuple_seq (seq_e _ _ _)]
      exact h R c' ts' _ M hd hc9 hts
    · simp only [hd, decide_true, Bool.not_true, Bool.false_eq_true, if_false]
      refine ⟨_, seq_m _ _ _ _, ?_⟩
      rw [enum_map]
      refine forGo_inv (fun ds env S' => ∃ (q : Nat) (a5 a7 : Option D), q ≤ p ∧ ds = (R.zipIdx.drop q).map (fun x => .tup [.int (x.2 : Nat), VE x.1]) ∧
        env = [some (D.scr (List.map D.int ns)), some (D.han 0), some (D.int ↑p), some (D.int ↑most), some (D.han (List.length J + 1)), a5, some (D.han (List.length (J ++ [O.lst (List.map VE R)]) + 1)), a7, a8] ∧
        S' = tw c' ts' (J ++ [O.lst (List.map VE R)] ++ [.lst (((R.zipIdx.take q).map fun x => triV x.1 x.2).map VE)])) ?_ ?_ _ _ _ ⟨0, a5, a7, by omega, by simp, rfl, rfl⟩
      · rintro d1 ds1 env1 S1 ⟨q, a5, a7, hq, hds, rfl, rfl⟩
        have hqn : q < R.length := by
          by_cases e : q < R.length
          · exact e
          · rw [List.drop_eq_nil_of_le (by simpa using e)] at hds; cases hds
        have hqz : q < R.zipIdx.length := by simpa using hqn
        rw [List.drop_eq_getElem_cons hqz] at hds
        simp only [List.getElem_zipIdx, List.map_cons, List.cons.injEq, Nat.zero_add] at hds
        obtain ⟨rfl, rfl⟩ := hds
        have lq := hB R[q] (List.getElem_mem hqn)
        have hql : q < R[q].length := by rw [lq.1, ← hR]; exact hqn
        have so : srcOk [(J.length + 1, R.map VE)] (tw c' ts' (J ++ [O.lst (List.map VE R)] ++ [.lst (((R.zipIdx.take q).map fun x => triV x.1 x.2).map VE)])) := ⟨by simp, trivial⟩
        refine ⟨so, _, rfl, fun nx hnx => ?_⟩
        walk_at "wp"
        refine ⟨rec_e _ _ _, by simp, by omega, by omega, by omega, ?_⟩
        have es : ((q : Int)).toNat = q := by omega
        have er : (List.replicate q [D.int 0]).flatten = (List.replicate q (0 : Int)).map D.int := by simp
        have tail : ∀ x : Int, (if gt R[q] q ≠ 0 then gt R[q] q else 1) = x → D.tup ((List.replicate q (0 : Int)).map D.int ++ [D.int x] ++ (R[q].drop (q + 1)).map D.int) = VE (triV R[q] q) := fun x hx => by
          rw [VE_eq, triV, hx]; simp
        have size : ((List.replicate q (0 : Int)).map D.int).length + 1 ≤ sizeLine ∧ ((List.replicate q (0 : Int)).map D.int).length + 1 + ((R[q].drop (q + 1)).map D.int).length ≤ sizeLine := by
          simp only [List.length_map, List.length_replicate, List.length_drop, lq.1]
          exact ⟨szLe (by omega), szLe (by omega)⟩
        have fin : ∀ x : Int, (if gt R[q] q ≠ 0 then gt R[q] q else 1) = x → oAdd (D.tup ((List.replicate q (0 : Int)).map D.int ++ [D.int x])) (D.tup ((R[q].drop (q + 1)).map D.int)) (tw c' ts' (J ++ [O.lst (List.map VE R)] ++ [.lst (((R.zipIdx.take q).map fun x => triV x.1 x.2).map VE)])) (fun y S2 => oAppend (D.han (List.length (J ++ [O.lst (List.map VE R)]) + 1)) [y] S2 fun x S1 => nx [some (D.scr (List.map D.int ns)), some (D.han 0), some (D.int ↑p), some (D.int ↑most), some (D.han (List.length J + 1)), some (D.int ↑q), some (D.han (List.length (J ++ [O.lst (List.map VE R)]) + 1)), some (VE R[q]), a8] S1) := by
          intro x hx
          rw [oAdd_tt, tail x hx]
          refine ⟨by simpa using size.2, app_e (by simp only [List.length_map, List.length_take, List.length_zipIdx]; exact szLt (by omega)) (hnx _ _ ⟨q + 1, _, _, by omega, rfl, rfl, ?_⟩)⟩
          rw [List.take_succ_eq_append_getElem hqz]
          simp
        have sl : ∀ (S : Sto) (Q : QD), oSl (some ((q : Int) + 1)) none (VE R[q]) S Q = Q (.tup ((R[q].drop (q + 1)).map .int)) S := fun S Q => by
          rw [VE_eq, oSl_t, show (q : Int) + 1 = ((q + 1 : Nat) : Int) by omega, cut_from, List.map_drop]
        rw [er, ix_V hql]
        walk_at "wp"
        by_cases z : gt R[q] q = 0
        · simp only [z, decide_true, Bool.not_true, Bool.false_eq_true, if_false, sl]
          exact ⟨size.1, fin 1 (by simp [z])⟩
        · simp only [z, decide_false, Bool.not_false, if_true, ix_V hql, sl]
          exact ⟨size.1, fin _ (by simp [z])⟩
      · rintro env1 S1 ⟨q, a5, a7, hq, hds, rfl, rfl⟩
        have hqn : ¬ q < R.length := fun e => by
          rw [List.drop_eq_getElem_cons (by simpa using e)] at hds
          cases hds
        have so : srcOk [(J.length + 1, R.map VE)] (tw c' ts' (J ++ [O.lst (List.map VE R)] ++ [.lst (((R.zipIdx.take q).map fun x => triV x.1 x.2).map VE)])) := ⟨by simp, trivial⟩
        refine ⟨so, ?_⟩
        walk_at "wp"
        rw [oTuple_seq (seq_e _ _ _), List.take_of_length_le (by simp; omega)]
        have key : ∀ i, i < R.length → row (R.zipIdx.map fun x => triV x.1 x.2) i = triV (row R i) i := fun i hi => by
          rw [row_lt (by simpa using hi), row_lt hi]; simp
        have M2 : Mat p most (R.zipIdx.map fun x => triV x.1 x.2) := by
          refine ⟨by simp [hR], fun v hv => ?_⟩
          obtain ⟨i, hi, rfl⟩ := List.getElem_of_mem hv
          have hi' : i < R.length := by simpa using hi
          have li := hB R[i] (List.getElem_mem hi')
          simp only [List.getElem_map, List.getElem_zipIdx, Nat.zero_add]
          have hil : i < R[i].length := by rw [li.1, ← hR]; exact hi'
          exact ⟨by rw [(gt_tri hil).1, li.1], bd_tri hil li.2 hm1⟩
        refine (List.append_assoc J _ _ ▸ h _ c' ts' _ M2 (det_tri (by rw [M2.1]; exact hn1) (by rw [M2.1]; exact hn3) (fun r hr => by rw [M2.1]; exact (M2.2 r hr).1) fun i hi => ?_) hc9 hts)
        rw [M2.1, ← hR] at hi
        have li := hB R[i] (List.getElem_mem hi)
        have hil : i < R[i].length := by rw [li.1, ← hR]; exact hi
        rw [key i hi, row_lt hi]
        exact (gt_tri hil).2
def c__law_basis : Ct := fun ds S Q _ => ∃ (ns ts : List Int) (c : Nat) (J : Sto) (most : Nat), ds = [.scr (ns.map .int), .han 0, .int most] ∧ S = tw c ts J ∧ Tn ns ts (c + 30) ∧ 1 ≤ most ∧ most ≤ 1000000 ∧
  ∀ (n : Nat) (R : List (List Int)) (c' : Nat) (ts' : List Int) (J' : Sto), 1 ≤ n → n ≤ 3 → Mat n most R → detL R ≠ 0 → c' ≤ c + 10 → ts'.length = ns.length → Q (.tup (R.map VE)) (tw c' ts' (J ++ J'))
/-- _law_basis -/
def N__law_basis : List Str := ["script", "town", "most"]
def b__law_basis : DB := (DB.cons (DS.ret (DE.call "_law_basis_in" c__law_basis_in (DA.cons (DE.var 0) (DA.cons (DE.var 1) (DA.cons (DE.op .Add (DE.con (.int 1)) (DE.call "_law_draw" c__law_draw (DA.cons (DE.var 0) (DA.cons (DE.var 1) (DA.cons (DE.con (.int 3)) DA.nil))))) (DA.cons (DE.var 2) DA.nil))))))
  DB.nil)
theorem w__law_basis {ds : List D} {S : Sto} {Q : QD} {X : XD} (h : c__law_basis ds S Q X) : ctOf N__law_basis.length b__law_basis ds S Q X := by
  obtain ⟨ns, ts, c, J, most, rfl, rfl, t, hm1, hm, h⟩ := h
  have t3 := t.2.2
  unfold b__law_basis N__law_basis
  walk_at "wp"
  refine draw_call ⟨t.1, t.2.1, by omega⟩ (by omega) (by omega) fun r ts' r0 r1 hts => ?_
  walk_at "wp"
  obtain ⟨i, rfl⟩ := Int.eq_ofNat_of_zero_le r0
  exact ⟨ns, ts', c + 1, J, i + 1, most, by rw [show (1 : Int) + (i : Int) = ((i + 1 : Nat) : Int) by omega], rfl, ⟨t.1, hts, by omega⟩, by omega, by omega, hm1, hm, fun R c' ts2 J' M hd hc hts2 => h (i + 1) R c' ts2 J' (by omega) (by omega) M hd (by omega) hts2⟩
/-! #### FJ -/
def c__law_other : Ct := fun ds S Q _ => ∃ (ns ts : List Int) (c : Nat) (J : Sto) (n B : Nat) (R : List (List Int)), ds = [.scr (ns.map .int), .han 0, .tup (R.map VE)] ∧ S = tw c ts J ∧ Tn ns ts (c + 60) ∧ 1 ≤ n ∧ n ≤ 3 ∧ Mat n B R ∧ B ≤ 1000 ∧
  ∀ (T : List (List Int)) (c' : Nat) (ts' : List Int) (J' : Sto), Mat n (729 * B) T → SameL n R T → c' ≤ c + 25 → ts'.length = ns.length → Q (.tup (T.map VE)) (tw c' ts' (J ++ J'))
theorem Mat.len {n B : Nat} {T : List (List Int)} (h : Mat n B T) : Len n T := fun r hr => (h.2 r hr).1
theorem Mat.set {n B : Nat} {T : List (List Int)} (h : Mat n B T) {w : List Int} (hw : w.length = n ∧ Bd B w) (i : Nat) : Mat n B (T.set i w) :=
  ⟨by rw [List.length_set, h.1], fun v hv => by
    rcases List.mem_or_eq_of_mem_set hv with q | rfl
    · exact h.2 v q
    · exact hw⟩
theorem Mat.mono {n B B' : Nat} {T : List (List Int)} (h : Mat n B T) (e : B ≤ B') : Mat n B' T := ⟨h.1, fun v hv => ⟨(h.2 v hv).1, (h.2 v hv).2.mono e⟩⟩
/-! #### FL -/
local macro_rules | `(tactic| walk_at "wp") => `(tactic| try simp only [z0, z1, z2, z3, z4, z5, z6, z7, z8, z9, z10, z11, z12, z13, z14, z15, z16, z17, z18, z19, z20, z21, z22, z23, z24, z25, z26, z27, z28, z29, z30, z31, z32, z33, z34, z35, z36, z37, z38, z39, z40, z41, z42, z43, z44, z45, z46, z47, z49, z52, z53, z54, z56, z57, z58, z59, z60, z61, z62, z63, z64, z65, z66, z67, z68, z69, z70, z71, z72, z73, z75, z76, z77, z78, z79, z80, z81, z82, zg0, zg1, y0, y1, y2, y3, y4, y5, y6, y7, y8, y9, y10, y12, sg0, sg1, sg2, sg3, sg4, sn0, sn1, sn2, sn3, sn4, sn5, sn6, sn7, sn8, sn9, sp1, sp4, si0, si1, si2, si3, si4, sl0, sl1, sl2, sl3, sl4, y19, y20, zipJ_tt, zipJ_lt, y28a, y30a, y32b, y32c, isCD_t, isCD_s, y38c, wVar, wFrz, wC, wNil, wCons, w1, w2, w3, wAp, opD, cmD, oNeg, wB, wNotT, boolW, wAndT, wOrT, wNotV, boolV, wAndV, wOrV, wIte, wNo, wSo, wSl, wTup, wLst, wThw, wLof, wCat, wRep, wIsi, wM1, wIseq, wR1, wR2, wZip_eq, wEnum, wYes, wComp, wSkip, wSeq, wExpr, wRet, wCont, wSet, wAsg, wPar, wSub, wIf, wFor, wRaise, wCall, wTry, wIsX, wIsVE, wLofS, wFld, wSetF, wMet0, wDead, wSub2, setO, wJn, wJc, wPutD, seqOf_tup, seqOf_lst, seqOf_scr, lstOf_lst, lstOf_scr, lstX_lst, tupOf_tup, srcOf_tup, srcOf_lst, srcOf_scr, srcOf_han, srcOk_nil, srcOk_cons, oAdd_ii, oAdd_ss, oAdd_tt, oAdd_ll, oSub_ii, oMul_ii, oMul_ti, oMul_si, oDiv_ii, oMod_ii, oPow_ii, oNeg_i, oEq_ii, oNe_ii, oEq_ss, oNe_ss, oI_ii, oIs_n, oIsNot_n, oIs_b, oIsNot_b, isNon_n, isNon_b, isNon_i, isNon_s, isNon_t, isNon_l, isNon_h, oIx_t, oIx_l, oIx_s, oLen_t, oLen_l, oLen_s, oLen_str, oAbs_i, oTuple_l, oTuple_t, oSl_t, oSl_l, oInt_i, oInt_b, compGo_nil, compGo_cons, forGo_nil, forGo_cons, wipeD_nil, wipeD_cons, range_3, range_2, range_1, enumD_nil, enumD_1, enumD_2, enumD_3, zipD_nil, zipD_cons, oMin_ii, oNe_iN, oEq_iN, ctOf, startD, List.map_cons, List.map_nil, List.length_cons, List.length_nil, List.cons_append, List.nil_append, List.append_nil, List.replicate, Nat.reduceAdd, Nat.reduceSub, Nat.sub_self, Nat.zero_add, List.getElem?_cons_zero, List.getElem?_cons_succ, List.getElem?_nil, List.set_cons_zero, List.set_cons_succ, ex_eq, ex_and, Option.some.injEq, exists_eq_left', exists_eq_left, exists_eq_right, D.bl.injEq, D.int.injEq, D.str.injEq, D.tup.injEq, D.lst.injEq, D.han.injEq, O.ins.injEq, O.lst.injEq, O.dct.injEq, atI_0, atI_1, atI_2, reduceIte, zip_tt, zip_ll, ty_n, ty_b, ty_i, ty_s, ty_t, ty_l, ty_f, kit_ii, kit_ib, kit_bb, kit_bi, kit_it, kit_tt, kit_ti, kit_tb, kit_lt, kit_li, kit_st, kit_si, kit_ss, kit_nt, kit_ni, kit_fi, kit_ft, kit_is, kit_ns, kit_bt, oLen_V, Int.toNat_natCast, cut_t0, cut_t1, cut_t2, cut_f1, cut_f2, cut_f3, m2_0, m2_1, m2_2, List.take_succ_cons, List.take_zero, List.drop_succ_cons, List.drop_zero, List.take_nil, List.drop_nil, decide_true, decide_false, Bool.not_true, Bool.not_false, if_true, if_false, Bool.false_eq_true, Int.cast_ofNat_Int, Int.reduceEq, Int.reduceLT, Int.reduceLE, Int.reduceToNat, Int.reduceNeg, Nat.reduceEqDiff, decide_eq_true_eq, true_and, and_true, List.cons.injEq, and_self, Int.reduceSub, Int.reduceAdd, Int.reduceMul])
local macro_rules | `(tactic| walk_at "wpf") => `(tactic| try simp only [z0, z1, z2, z3, z4, z5, z6, z7, z8, z9, z10, z11, z12, z13, z14, z15, z16, z17, z18, z19, z20, z21, z22, z23, z24, z25, z26, z27, z28, z29, z30, z31, z32, z33, z34, z35, z36, z37, z38, z39, z40, z41, z42, z43, z44, z45, z46, z47, z49, z52, z53, z54, z56, z57, z58, z59, z60, z61, z62, z63, z64, z65, z66, z67, z68, z69, z70, z71, z72, z73, z75, z76, z77, z78, z79, z80, z81, z82, zg0, zg1, y0, y1, y2, y3, y4, y5, y6, y7, y8, y9, y10, y12, sg0, sg1, sg2, sg3, sg4, sn0, sn1, sn2, sn3, sn4, sn5, sn6, sn7, sn8, sn9, sp1, sp4, si0, si1, si2, si3, si4, sl0, sl1, sl2, sl3, sl4, y19, y20, zipJ_tt, zipJ_lt, y28a, y30a, y32b, y32c, isCD_t, isCD_s, y38c, wVar, wFrz, wC, wNil, wCons, w1, w2, w3, wAp, opD, cmD, oNeg, wB, wNotT, boolW, wAndT, wOrT, wNotV, boolV, wAndV, wOrV, wIte, wNo, wSo, wSl, wTup, wLst, wThw, wLof, wCat, wRep, wIsi, wM1, wIseq, wR1, wR2, wZip_eq, wEnum, wYes, wComp, wSkip, wSeq, wExpr, wRet, wCont, wSet, wAsg, wPar, wSub, wIf, wFor, wRaise, wCall, wTry, wIsX, wIsVE, wLofS, wFld, wSetF, wMet0, wDead, wSub2, setO, wJn, wJc, wPutD, seqOf_tup, seqOf_lst, seqOf_scr, lstOf_lst, lstOf_scr, lstX_lst, tupOf_tup, srcOf_tup, srcOf_lst, srcOf_scr, srcOf_han, srcOk_nil, srcOk_cons, oAdd_ii, oAdd_ss, oAdd_tt, oAdd_ll, oSub_ii, oMul_ii, oMul_ti, oMul_si, oDiv_ii, oMod_ii, oPow_ii, oNeg_i, oEq_ii, oNe_ii, oEq_ss, oNe_ss, oI_ii, oIs_n, oIsNot_n, oIs_b, oIsNot_b, isNon_n, isNon_b, isNon_i, isNon_s, isNon_t, isNon_l, isNon_h, oIx_t, oIx_l, oIx_s, oLen_t, oLen_l, oLen_s, oLen_str, oAbs_i, oTuple_l, oTuple_t, oSl_t, oSl_l, oInt_i, oInt_b, compGo_nil, compGo_cons, wipeD_nil, wipeD_cons, range_3, range_2, range_1, enumD_nil, enumD_1, enumD_2, enumD_3, zipD_nil, zipD_cons, oMin_ii, oNe_iN, oEq_iN, ctOf, startD, List.map_cons, List.map_nil, List.length_cons, List.length_nil, List.cons_append, List.nil_append, List.append_nil, List.replicate, Nat.reduceAdd, Nat.reduceSub, Nat.sub_self, Nat.zero_add, List.getElem?_cons_zero, List.getElem?_cons_succ, List.getElem?_nil, List.set_cons_zero, List.set_cons_succ, ex_eq, ex_and, Option.some.injEq, exists_eq_left', exists_eq_left, exists_eq_right, D.bl.injEq, D.int.injEq, D.str.injEq, D.tup.injEq, D.lst.injEq, D.han.injEq, O.ins.injEq, O.lst.injEq, O.dct.injEq, atI_0, atI_1, atI_2, reduceIte, zip_tt, zip_ll, ty_n, ty_b, ty_i, ty_s, ty_t, ty_l, ty_f, kit_ii, kit_ib, kit_bb, kit_bi, kit_it, kit_tt, kit_ti, kit_tb, kit_lt, kit_li, kit_st, kit_si, kit_ss, kit_nt, kit_ni, kit_fi, kit_ft, kit_is, kit_ns, kit_bt, oLen_V, Int.toNat_natCast, cut_t0, cut_t1, cut_t2, cut_f1, cut_f2, cut_f3, m2_0, m2_1, m2_2, List.take_succ_cons, List.take_zero, List.drop_succ_cons, List.drop_zero, List.take_nil, List.drop_nil, decide_true, decide_false, Bool.not_true, Bool.not_false, if_true, if_false, Bool.false_eq_true, Int.cast_ofNat_Int, Int.reduceEq, Int.reduceLT, Int.reduceLE, Int.reduceToNat, Int.reduceNeg, Nat.reduceEqDiff, decide_eq_true_eq, true_and, and_true, List.cons.injEq, and_self, Int.reduceSub, Int.reduceAdd, Int.reduceMul])
local macro_rules | `(tactic| walk_at "wpc") => `(tactic| try simp only [z0, z1, z2, z3, z4, z5, z6, z7, z8, z9, z10, z11, z12, z13, z14, z15, z16, z17, z18, z19, z20, z21, z22, z23, z24, z25, z26, z27, z28, z29, z30, z31, z32, z33, z34, z35, z36, z37, z38, z39, z40, z41, z42, z43, z44, z45, z46, z47, z49, z52, z53, z54, z56, z57, z58, z59, z60, z61, z62, z63, z64, z65, z66, z67, z68, z69, z70, z71, z72, z73, z75, z76, z77, z78, z79, z80, z81, z82, zg0, zg1, y0, y1, y2, y3, y4, y5, y6, y7, y8, y9, y10, y12, sg0, sg1, sg2, sg3, sg4, sn0, sn1, sn2, sn3, sn4, sn5, sn6, sn7, sn8, sn9, sp1, sp4, si0, si1, si2, si3, si4, sl0, sl1, sl2, sl3, sl4, y19, y20, zipJ_tt, zipJ_lt, y28a, y30a, y32b, y32c, isCD_t, isCD_s, y38c, wVar, wFrz, wC, wNil, wCons, w1, w2, w3, wAp, opD, cmD, oNeg, wB, wNotT, boolW, wAndT, wOrT, wNotV, boolV, wAndV, wOrV, wIte, wNo, wSo, wSl, wTup, wLst, wThw, wLof, wCat, wRep, wIsi, wM1, wIseq, wR1, wR2, wZip_eq, wEnum, wYes, wComp, wSkip, wSeq, wExpr, wRet, wCont, wSet, wAsg, wPar, wSub, wIf, wFor, wRaise, wCall, wTry, wIsX, wIsVE, wLofS, wFld, wSetF, wMet0, wDead, wSub2, setO, wJn, wJc, wPutD, seqOf_tup, seqOf_lst, seqOf_scr, lstOf_lst, lstOf_scr, lstX_lst, tupOf_tup, srcOf_tup, srcOf_lst, srcOf_scr, srcOf_han, srcOk_nil, srcOk_cons, oAdd_ii, oAdd_ss, oAdd_tt, oAdd_ll, oSub_ii, oMul_ii, oMul_ti, oMul_si, oDiv_ii, oMod_ii, oPow_ii, oNeg_i, oEq_ii, oNe_ii, oEq_ss, oNe_ss, oI_ii, oIs_n, oIsNot_n, oIs_b, oIsNot_b, isNon_n, isNon_b, isNon_i, isNon_s, isNon_t, isNon_l, isNon_h, oIx_t, oIx_l, oIx_s, oLen_t, oLen_l, oLen_s, oLen_str, oAbs_i, oTuple_l, oTuple_t, oSl_t, oSl_l, oInt_i, oInt_b, wipeD_nil, wipeD_cons, range_3, range_2, range_1, enumD_nil, enumD_1, enumD_2, enumD_3, zipD_nil, zipD_cons, oMin_ii, oNe_iN, oEq_iN, ctOf, startD, List.map_cons, List.map_nil, List.length_cons, List.length_nil, List.cons_append, List.nil_append, List.append_nil, List.replicate, Nat.reduceAdd, Nat.reduceSub, Nat.sub_self, Nat.zero_add, List.getElem?_cons_zero, List.getElem?_cons_succ, List.getElem?_nil, List.set_cons_zero, List.set_cons_succ, ex_eq, ex_and, Option.some.injEq, exists_eq_left', exists_eq_left, exists_eq_right, D.bl.injEq, D.int.injEq, D.str.injEq, D.tup.injEq, D.lst.injEq, D.han.injEq, O.ins.injEq, O.lst.injEq, O.dct.injEq, atI_0, atI_1, atI_2, reduceIte, zip_tt, zip_ll, ty_n, ty_b, ty_i, ty_s, ty_t, ty_l, ty_f, kit_ii, kit_ib, kit_bb, kit_bi, kit_it, kit_tt, kit_ti, kit_tb, kit_lt, kit_li, kit_st, kit_si, kit_ss, kit_nt, kit_ni, kit_fi, kit_ft, kit_is, kit_ns, kit_bt, oLen_V, Int.toNat_natCast, cut_t0, cut_t1, cut_t2, cut_f1, cut_f2, cut_f3, m2_0, m2_1, m2_2, List.take_succ_cons, List.take_zero, List.drop_succ_cons, List.drop_zero, List.take_nil, List.drop_nil, decide_true, decide_false, Bool.not_true, Bool.not_false, if_true, if_false, Bool.false_eq_true, Int.cast_ofNat_Int, Int.reduceEq, Int.reduceLT, Int.reduceLE, Int.reduceToNat, Int.reduceNeg, Nat.reduceEqDiff, decide_eq_true_eq, true_and, and_true, List.cons.injEq, and_self, Int.reduceSub, Int.reduceAdd, Int.reduceMul])
/-! ### numbers -/
def frE (p : Int × Int) : D := .tup [.int p.1, .int p.2]
def isFr : D → Bool
  | .tup [.int a, .int b] => decide (0 < b) && decide (Int.gcd a b = 1)
  | _ => false
def okF : D → Prop
  | .tup [x, y] => okD x = true ∧ okD y = true
  | d => okD d = true
/-! ### vectors -/
theorem VecOk.mono {j k n : Nat} {v : List Int} (h : VecOk j n v) (e : j ≤ k) : VecOk k n v := ⟨h.1, fun x hx => (h.2 x hx).mono e⟩
/-! ### the dual rows -/
theorem seqOf_last (T : Sto) (l : List D) : seqOf (T ++ [.lst l]) (.han T.length) = some l := by
  unfold seqOf tupOf lstOf
  simp
/-! #### FM -/
theorem Bas.sqr {R : List (List Int)} (h : Bas R) : Sqr R.length R := ⟨h.1, h.2.1, rfl, fun v hv => (h.2.2.1 v hv).1⟩
def FrOk (n : Nat) (fs : List (Int × Int)) : Prop := fs.length = n ∧ ∀ p ∈ fs, 0 < p.2 ∧ Sm 100 p.1 ∧ Sm 100 p.2
def toFr : D → Int × Int
  | .tup [.int a, .int b] => (a, b)
  | _ => (0, 1)
def isT (R : List (List Int)) (v : List Int) : D → Bool
  | .tup ds => decide (ds.length = R.length) && ds.all isFr && R.all (fun u => decide (WP (ds.map toFr) u)) && !decide (WP (ds.map toFr) v)
  | _ => false
theorem fr_inv {d : D} (h : isFr d = true) : d = frE (toFr d) ∧ 0 < (toFr d).2 := by
  unfold isFr at h
  split at h
  · simp only [Bool.and_eq_true, decide_eq_true_eq] at h
    exact ⟨rfl, h.1⟩
  · cases h
theorem fr_all {ds : List D} (h : ∀ d ∈ ds, isFr d = true) : ds = (ds.map toFr).map frE := by
  rw [List.map_map]
  conv => lhs; rw [← List.map_id ds]
  apply List.map_congr_left
  intro d hd
  exact (fr_inv (h d hd)).1
/-! #### FN -/
theorem Mat.sqr {n B : Nat} {R : List (List Int)} (h : Mat n B R) (h1 : 1 ≤ n) (h3 : n ≤ 3) : Sqr n R := ⟨h1, h3, h.1, h.len⟩
theorem Mat.bas {n B : Nat} {R : List (List Int)} (h : Mat n B R) (h1 : 1 ≤ n) (h3 : n ≤ 3) (hB : B ≤ 1000000) (hd : detL R ≠ 0) : Bas R :=
  ⟨by rw [h.1]; exact h1, by rw [h.1]; exact h3, fun v hv => ⟨by rw [(h.2 v hv).1, h.1], fun x hx => Nat.le_trans ((h.2 v hv).2 x hx) hB⟩, hd⟩
/-! ### the town, with some draws left -/
def Tw (ns : List Int) (k : Nat) (S : Sto) : Prop := ∃ (c : Nat) (ts : List Int) (J : Sto), S = tw c ts J ∧ ns.length ≤ 63 ∧ ts.length = ns.length ∧ c + k < 1000000
theorem Tw.draw {ns : List Int} {k : Nat} {S : Sto} {limit : Int} {Q : QD} {X : XD} (t : Tw ns (k + 1) S) (h0 : 0 < limit) (hl : limit ≤ 1000000000) (q : ∀ (r : Int) (S' : Sto), 0 ≤ r → r < limit → Tw ns k S' → Q (.int r) S') : c__law_draw [.scr (ns.map .int), .han 0, .int limit] S Q X := by
  obtain ⟨c, ts, J, rfl, a, b, e⟩ := t
  exact draw_call ⟨a, b, by omega⟩ h0 hl fun r ts' r0 r1 h => q r _ r0 r1 ⟨c + 1, ts', J, rfl, a, h, by omega⟩
theorem Tw.gr {ns : List Int} {k : Nat} {S S' : Sto} (t : Tw ns k S) (g : Gr S S') : Tw ns k S' := by
  obtain ⟨c, ts, J, rfl, a, b, e⟩ := t
  obtain ⟨K, rfl⟩ := g
  exact ⟨c, ts, J ++ K, rfl, a, b, e⟩
theorem Tw.mono {ns : List Int} {k j : Nat} {S : Sto} (t : Tw ns k S) (h : j ≤ k) : Tw ns j S := by
  obtain ⟨c, ts, J, rfl, a, b, e⟩ := t
  exact ⟨c, ts, J, rfl, a, b, by omega⟩
theorem Tw.town {ns : List Int} {Q : QD} {X : XD} (hl : ns.length ≤ 63) (q : ∀ S, Tw ns 999999 S → Q (.han 0) S) : c__law_town [.scr (ns.map .int)] [] Q X :=
  ⟨ns, rfl, hl, rfl, q _ ⟨0, ns, [], rfl, hl, rfl, by omega⟩⟩
theorem Tw.pick {ns : List Int} {k : Nat} {S : Sto} {xs : List D} {Q : QD} {X : XD} (t : Tw ns (k + 1) S) (h0 : 0 < xs.length) (hl : xs.length ≤ 1000) (q : ∀ x ∈ xs, ∀ S', Tw ns k S' → Q x S') : c__law_pick [.scr (ns.map .int), .han 0, .lst xs] S Q X := by
  obtain ⟨c, ts, J, rfl, a, b, e⟩ := t
  exact ⟨ns, ts, c, J, xs, rfl, rfl, ⟨a, b, by omega⟩, h0, hl, fun x hx ts' hts => q x hx _ ⟨_, ts', J, rfl, a, hts, by omega⟩⟩
theorem Tw.basis {ns : List Int} {k : Nat} {S : Sto} {most : Nat} {Q : QD} {X : XD} (t : Tw ns (k + 31) S) (h0 : 1 ≤ most) (hl : most ≤ 1000000) (q : ∀ (n : Nat) (R : List (List Int)) (S' : Sto), 1 ≤ n → n ≤ 3 → Mat n most R → detL R ≠ 0 → Tw ns k S' → Q (.tup (R.map VE)) S') : c__law_basis [.scr (ns.map .int), .han 0, .int most] S Q X := by
  obtain ⟨c, ts, J, rfl, a, b, e⟩ := t
  exact ⟨ns, ts, c, J, most, rfl, rfl, ⟨a, b, by omega⟩, h0, hl, fun n R c2 ts2 J2 n1 n3 M hd hc hts => q n R _ n1 n3 M hd ⟨c2, ts2, _, rfl, a, hts, by omega⟩⟩
theorem Tw.basis_in {ns : List Int} {k : Nat} {S : Sto} {n most : Nat} {Q : QD} {X : XD} (t : Tw ns (k + 21) S) (hn1 : 1 ≤ n) (hn3 : n ≤ 3) (h0 : 1 ≤ most) (hl : most ≤ 1000000) (q : ∀ (R : List (List Int)) (S' : Sto), Mat n most R → detL R ≠ 0 → Tw ns k S' → Q (.tup (R.map VE)) S') : c__law_basis_in [.scr (ns.map .int), .han 0, .int n, .int most] S Q X := by
  obtain ⟨c, ts, J, rfl, a, b, e⟩ := t
  exact ⟨ns, ts, c, J, n, most, rfl, rfl, ⟨a, b, by omega⟩, hn1, hn3, h0, hl, fun R c2 ts2 J2 M hd hc hts => q R _ M hd ⟨c2, ts2, _, rfl, a, hts, by omega⟩⟩
theorem Tw.other {ns : List Int} {k : Nat} {S : Sto} {n B : Nat} {R : List (List Int)} {Q : QD} {X : XD} (t : Tw ns (k + 61) S) (hn1 : 1 ≤ n) (hn3 : n ≤ 3) (hM : Mat n B R) (hB : B ≤ 1000) (q : ∀ (T : List (List Int)) (S' : Sto), Mat n (729 * B) T → SameL n R T → Tw ns k S' → Q (.tup (T.map VE)) S') : c__law_other [.scr (ns.map .int), .han 0, .tup (R.map VE)] S Q X := by
  obtain ⟨c, ts, J, rfl, a, b, e⟩ := t
  exact ⟨ns, ts, c, J, n, B, R, rfl, rfl, ⟨a, b, by omega⟩, hn1, hn3, hM, hB, fun T c2 ts2 J2 M hs hc hts => q T _ M hs ⟨c2, ts2, _, rfl, a, hts, by omega⟩⟩
inductive All2 {α β : Type} (P : α → β → Prop) : List α → List β → Prop
  | nil : All2 P [] []
  | cons {a : α} {b : β} {l : List α} {m : List β} : P a b → All2 P l m → All2 P (a :: l) (b :: m)
theorem All2.len {α β : Type} {P : α → β → Prop} {l : List α} {m : List β} (h : All2 P l m) : m.length = l.length := by
  induction h with
  | nil => rfl
  | cons _ _ ih => simp [ih]
theorem All2.mem {α β : Type} {P : α → β → Prop} {l : List α} {m : List β} (h : All2 P l m) : ∀ b ∈ m, ∃ a ∈ l, P a b := by
  induction h with
  | nil => simp
  | cons p _ ih =>
    intro b hb
    rcases List.mem_cons.mp hb with rfl | hb
    · exact ⟨_, List.mem_cons_self, p⟩
    · obtain ⟨a, ha, q⟩ := ih b hb
      exact ⟨a, List.mem_cons_of_mem _ ha, q⟩
/-! ### the law's own judges -/
theorem FrOk.ne {n : Nat} {fs : List (Int × Int)} (h : FrOk n fs) : ∀ p ∈ fs, p.2 ≠ 0 := fun p hp => by have := (h.2 p hp).1; omega
def lowF (p : Int × Int) : Bool := decide (0 < p.2) && decide (Int.gcd p.1 p.2 = 1)
theorem isFr_low (p : Int × Int) : isFr (frE p) = lowF p := rfl
theorem sum_bd : ∀ (l : List Int) (B : Nat), (∀ x ∈ l, x.natAbs ≤ B) → l.sum.natAbs ≤ l.length * B
  | [], B, _ => by simp
  | a :: l, B, h => by
    have h1 := h a List.mem_cons_self
    have h2 := sum_bd l B fun x hx => h x (List.mem_cons_of_mem _ hx)
    rw [List.sum_cons, List.length_cons, Nat.add_mul]
    omega
theorem gt_bd {v : List Int} {B : Nat} (h : Bd B v) (i : Nat) : (gt v i).natAbs ≤ B := by
  by_cases e : i < v.length
  · rw [gt_lt e]; exact h _ (List.getElem_mem e)
  · rw [gt_ge (by omega)]; simp
theorem mix_bd {f : List Int} {R : List (List Int)} {a b : Nat} (hf : Bd a f) (hR : ∀ v ∈ R, Bd b v) : Bd (R.length * (a * b)) (mixV f R) := by
  intro x hx
  unfold mixV at hx
  obtain ⟨j, _, rfl⟩ := List.mem_map.mp hx
  have := sum_bd ((List.range R.length).map fun k => gt f k * gt (row R k) j) (a * b) (fun y hy => by
    obtain ⟨k, hk, rfl⟩ := List.mem_map.mp hy
    rw [Int.natAbs_mul]
    have hk' : k < R.length := by simpa using hk
    refine Nat.mul_le_mul (gt_bd hf k) (gt_bd ?_ j)
    rw [row_lt hk']
    exact hR _ (List.getElem_mem hk'))
  simpa using this
theorem mix_len (f : List Int) (R : List (List Int)) : (mixV f R).length = R.length := by simp [mixV]
theorem Bd.vec {n : Nat} {v : List Int} {B k : Nat} (hl : v.length = n) (h : Bd B v) (hk : B < 2 ^ k) : VecOk k n v := ⟨hl, fun x hx => Sm.of k (h x hx) hk⟩
/-! #### MI -/
/-! products, the dual grid -/
theorem dot_nil (v : List Int) : dot [] v = 0 := rfl
theorem dot_cons (a b : Int) (u v : List Int) : dot (a :: u) (b :: v) = a * b + dot u v := by simp [dot]
theorem dot_nil_r (u : List Int) : dot u [] = 0 := by simp [dot]
theorem dot_comm : ∀ (u v : List Int), dot u v = dot v u
  | [], v => by rw [dot_nil, dot_nil_r]
  | a :: u, [] => by rw [dot_nil, dot_nil_r]
  | a :: u, b :: v => by rw [dot_cons, dot_cons, dot_comm u v, Int.mul_comm]
theorem plusV_cons (a b k : Int) (u v : List Int) : plusV (a :: u) k (b :: v) = (a + k * b) :: plusV u k v := rfl
theorem dot_plus : ∀ (b u v : List Int) (k : Int), u.length = v.length → dot b (plusV u k v) = dot b u + k * dot b v
  | [], u, v, k, _ => by simp [dot_nil]
  | b :: bs, [], [], k, _ => by simp [plusV, dot_nil_r]
  | b :: bs, x :: u, y :: v, k, h => by
    rw [plusV_cons, dot_cons, dot_cons, dot_cons, dot_plus bs u v k (by simpa using h)]
    grind
def smul (k : Int) (v : List Int) : List Int := v.map fun x => k * x
theorem smul_len (k : Int) (v : List Int) : (smul k v).length = v.length := by simp [smul]
theorem mixV_len (f : List Int) (R : List (List Int)) : (mixV f R).length = R.length := by simp [mixV]
theorem det_smul {n : Nat} {R : List (List Int)} (hR : Sqr n R) (k : Int) : detL (R.map (smul k)) = k ^ n * detL R := by
  rcases hR.cases with ⟨rfl, a, rfl⟩ | ⟨rfl, a, b, c, d, rfl⟩ | ⟨rfl, a, b, c, d, e, f, g, h, i, rfl⟩
  · simp [detL, smul, Int.pow_succ]
  · simp [detL, smul]; grind
  · simp [detL, smul]; grind
theorem mem_row {R : List (List Int)} {r : List Int} : r ∈ R ↔ ∃ i, i < R.length ∧ r = row R i := by
  constructor
  · intro h
    obtain ⟨i, hi, rfl⟩ := List.getElem_of_mem h
    exact ⟨i, hi, (row_lt hi).symm⟩
  · rintro ⟨i, hi, rfl⟩
    rw [row_lt hi]; exact List.getElem_mem hi
theorem nf_det {n : Nat} {F : List (List Int)} (hF : Sqr n F) (h : NFs F) : 0 < detL F := by
  rcases hF.cases with ⟨rfl, a, rfl⟩ | ⟨rfl, a, b, c, d, rfl⟩ | ⟨rfl, a, b, c, d, e, f, g, i, j, rfl⟩
  · have := (h 0 (by simp)).2.1
    simpa [row, gt, detL] using this
  · have h0 := (h 0 (by simp)).2.1
    have h1 := h 1 (by simp)
    have hc := h1.1 0 (by omega)
    simp [row, gt] at h0 h1 hc
    simp only [detL, hc]
    have := Int.mul_pos h0 h1.2.1
    omega
  · have h0 := (h 0 (by simp)).2.1
    have h1 := h 1 (by simp)
    have h2 := h 2 (by simp)
    have z1 := h1.1 0 (by omega)
    have z2 := h2.1 0 (by omega)
    have z3 := h2.1 1 (by omega)
    simp [row, gt] at h0 h1 h2 z1 z2 z3
    simp only [detL, z1, z2, z3]
    have := Int.mul_pos h0 (Int.mul_pos h1.2.1 h2.2.1)
    grind
/-! #### MJ -/
/-! counting classes -/
theorem sub_len {α : Type} [DecidableEq α] : ∀ {X Y : List α}, X.Nodup → (∀ x ∈ X, x ∈ Y) → X.length ≤ Y.length
  | [], _, _, _ => Nat.zero_le _
  | x :: X, Y, hn, h => by
    have hx := h x List.mem_cons_self
    rw [List.nodup_cons] at hn
    have := sub_len (X := X) (Y := Y.erase x) hn.2 (fun y hy => by
      have ne : y ≠ x := fun e => hn.1 (e ▸ hy)
      exact (List.mem_erase_of_ne ne).mpr (h y (List.mem_cons_of_mem _ hy)))
    rw [List.length_erase_of_mem hx] at this
    have : 0 < Y.length := List.length_pos_of_mem hx
    rw [List.length_cons]
    omega
theorem nodup_map {α β : Type} {f : α → β} {X : List α} (hn : X.Nodup) (hi : ∀ a ∈ X, ∀ b ∈ X, f a = f b → a = b) : (X.map f).Nodup := by
  unfold List.Nodup at *
  rw [List.pairwise_map]
  exact hn.imp_of_mem fun ha hb hne e => hne (hi _ ha _ hb e)
theorem len_fm {α β γ : Type} (f : α → β → γ) (Y : List β) : ∀ X : List α, (X.flatMap fun a => Y.map (f a)).length = X.length * Y.length
  | [] => by simp
  | x :: X => by rw [List.flatMap_cons, List.length_append, len_fm f Y X, List.length_map, List.length_cons, Nat.add_mul]; omega
/-- all vectors with entries from 0 to below the given ones -/
def bx : List Nat → List (List Int)
  | [] => [[]]
  | p :: ps => (List.range p).flatMap fun (a : Nat) => (bx ps).map fun v => (a : Int) :: v
theorem bx_mem : ∀ (ps : List Nat) (v : List Int), v ∈ bx ps ↔ v.length = ps.length ∧ ∀ i, i < ps.length → 0 ≤ gt v i ∧ gt v i < ps.getD i 0
  | [], v => by
    simp only [bx, List.mem_singleton, List.length_nil, Nat.not_lt_zero, false_imp_iff, implies_true, and_true]
    exact List.length_eq_zero_iff.symm
  | p :: ps, [] => by
    simp [bx]
  | p :: ps, x :: v => by
    simp only [bx, List.mem_flatMap, List.mem_range, List.mem_map, List.cons.injEq, List.length_cons, Nat.add_right_cancel_iff]
    constructor
    · rintro ⟨a, ha, w, hw, rfl, rfl⟩
      obtain ⟨l, h⟩ := (bx_mem ps w).mp hw
      refine ⟨l, fun i hi => ?_⟩
      cases i with
      | zero => simp [gt]; omega
      | succ i => simpa [gt] using h i (by omega)
    · rintro ⟨l, h⟩
      have h0 := h 0 (by omega)
      simp [gt] at h0
      refine ⟨x.toNat, by omega, v, (bx_mem ps v).mpr ⟨l, fun i hi => ?_⟩, by omega, rfl⟩
      simpa [gt] using h (i + 1) (by omega)
def pv (F : List (List Int)) : List Nat := (List.range F.length).map fun i => (gt (row F i) i).toNat
theorem box_mem {n : Nat} {F : List (List Int)} (hF : Sqr n F) (h : NFs F) (v : List Int) : v ∈ bx (pv F) ↔ v.length = n ∧ ∀ i, i < n → 0 ≤ gt v i ∧ gt v i < gt (row F i) i := by
  have lF := hF.2.2.1
  rw [bx_mem]
  have lp : (pv F).length = n := by simp [pv, lF]
  rw [lp]
  refine and_congr_right fun _ => forall_congr' fun i => forall_congr' fun hi => ?_
  have e : (pv F).getD i 0 = (gt (row F i) i).toNat := by simp [pv, lF, hi]
  have := (h i (by omega)).2.1
  rw [e]
  omega
/-! the rest of a vector by a normal form -/
def rstep (F : List (List Int)) (w : List Int) (p : Nat) : List Int := plusV w (-((gt w p).fdiv (gt (row F p) p))) (row F p)
def restV (F : List (List Int)) (v : List Int) : List Int := (List.range F.length).foldl (rstep F) v
def sub (v w : List Int) : List Int := plusV v (-1) w
theorem sub_gt {v w : List Int} (h : v.length = w.length) (i : Nat) : gt (sub v w) i = gt v i - gt w i := by
  unfold sub; rw [gt_plus h]; omega
theorem sub_length {v w : List Int} (h : v.length = w.length) : (sub v w).length = v.length := plus_len h
theorem add_gt {v w : List Int} (h : v.length = w.length) (i : Nat) : gt (plusV v 1 w) i = gt v i + gt w i := by
  rw [gt_plus h]; omega
theorem rest_go {n : Nat} {F : List (List Int)} (hF : Sqr n F) (h : NFs F) {v : List Int} (hv : v.length = n) : ∀ p, p ≤ n →
    ((List.range p).foldl (rstep F) v).length = n ∧ (∀ i, i < p → 0 ≤ gt ((List.range p).foldl (rstep F) v) i ∧ gt ((List.range p).foldl (rstep F) v) i < gt (row F i) i) ∧ Lat n F (sub v ((List.range p).foldl (rstep F) v))
  | 0, _ => by
    refine ⟨hv, fun i hi => by omega, ?_⟩
    have : sub v v = List.replicate n 0 := by
      apply ext_gt (by rw [sub_length rfl]; simpa using hv)
      intro i _
      rw [sub_gt rfl, gt_zero]; omega
    show Lat n F (sub v v)
    rw [this]; exact .zero
  | p + 1, hp => by
    obtain ⟨l, r, m⟩ := rest_go hF h hv p (by omega)
    have lF := hF.2.2.1
    rw [List.range_succ, List.foldl_append, List.foldl_cons, List.foldl_nil]
    revert l r m
    generalize (List.range p).foldl (rstep F) v = w
    intro l r m
    have hrow : row F p ∈ F := mem_row.mpr ⟨p, by omega, rfl⟩
    have lr := hF.2.2.2 _ hrow
    obtain ⟨z, pos, _⟩ := h p (by omega)
    have eg : ∀ i, gt (rstep F w p) i = gt w i + -((gt w p).fdiv (gt (row F p) p)) * gt (row F p) i := fun i => by
      unfold rstep; rw [gt_plus (by omega)]
    have ll : (rstep F w p).length = n := by unfold rstep; rw [plus_len (by omega), l]
    refine ⟨ll, fun i hi => ?_, ?_⟩
    · rw [eg]
      by_cases e : i = p
      · subst e
        have f := fm_pos (gt w i) pos
        have := Int.mul_fdiv_add_fmod (gt w i) (gt (row F i) i)
        have e2 : gt w i + -((gt w i).fdiv (gt (row F i) i)) * gt (row F i) i = (gt w i).fmod (gt (row F i) i) := by grind
        rw [e2]; exact f
      · rw [z i (by omega)]
        have := r i (by omega)
        omega
    · have : sub v (rstep F w p) = plusV (sub v w) ((gt w p).fdiv (gt (row F p) p)) (row F p) := by
        have l1 : (sub v w).length = n := by rw [sub_length (by omega), hv]
        apply ext_gt
        · rw [sub_length (by omega), plus_len (by omega), l1, hv]
        · intro i _
          rw [sub_gt (by omega), gt_plus (by omega), sub_gt (by omega), eg]
          grind
      rw [this]
      exact .add _ m hrow
theorem rest_spec {n : Nat} {F : List (List Int)} (hF : Sqr n F) (h : NFs F) {v : List Int} (hv : v.length = n) : restV F v ∈ bx (pv F) ∧ Lat n F (sub v (restV F v)) := by
  have := rest_go hF h hv n (Nat.le_refl _)
  unfold restV
  rw [hF.2.2.1]
  exact ⟨(box_mem hF h _).mpr ⟨this.1, this.2.1⟩, this.2.2⟩
/-- a normal form of full dimension -/
structure NFull (n : Nat) (R F : List (List Int)) : Prop where
  len : Len n R
  nf : IsNF n R F
  sq : Sqr n F
  sh : NFs F
theorem NFull.same {n : Nat} {R F : List (List Int)} (h : NFull n R F) : SameL n R F := nf_same h.len h.nf
theorem NFull.dvd {n : Nat} {R F : List (List Int)} (h : NFull n R F) {v : List Int} (hv : Lat n R v) {q : Nat} (hq : q < n) (hz : zb q v) : gt (row F q) q ∣ gt v q := by
  have lF := h.sq.2.2.1
  have hs := h.sh
  obtain ⟨g, rfl, he⟩ := h.nf
  have hr : row (rowsOf n g) q ∈ rowsOf n g := mem_row.mpr ⟨q, by omega, rfl⟩
  obtain ⟨p, hp, e⟩ := mem_rowsOf.mp hr
  obtain ⟨f1, f2, f3, f4, f5, _⟩ := (he p hp).2 _ e
  have : p = q := by
    obtain ⟨z, pos, _⟩ := hs q (by omega)
    rcases Nat.lt_trichotomy p q with c | c | c
    · have := z p c; omega
    · exact c
    · have := f3 q c; omega
  subst this
  exact f5 v hv hz
theorem NFull.uniq {n : Nat} {R F : List (List Int)} (h : NFull n R F) {v w : List Int} (hv : v ∈ bx (pv F)) (hw : w ∈ bx (pv F)) (hl : Lat n R (sub v w)) : v = w := by
  obtain ⟨lv, bv⟩ := (box_mem h.sq h.sh v).mp hv
  obtain ⟨lw, bw⟩ := (box_mem h.sq h.sh w).mp hw
  have key : ∀ q, q ≤ n → zb q (sub v w) := by
    intro q
    induction q with
    | zero => intro _ i hi; omega
    | succ q ih =>
      intro hq i hi
      by_cases e : i = q
      · subst e
        have z := ih (by omega)
        obtain ⟨c, hc⟩ := h.dvd hl (by omega) z
        have b1 := bv i (by omega)
        have b2 := bw i (by omega)
        rw [sub_gt (by omega)] at hc ⊢
        have hp : 0 < gt (row F i) i := by omega
        have : c = 0 := by
          rcases Int.lt_trichotomy c 0 with q | q | q
          · have := Int.mul_le_mul_of_nonneg_left (show c ≤ -1 by omega) (Int.le_of_lt hp)
            omega
          · exact q
          · have := Int.mul_le_mul_of_nonneg_left (show 1 ≤ c by omega) (Int.le_of_lt hp)
            omega
        rw [hc, this]; simp
      · exact ih (by omega) i (by omega)
  apply ext_gt (by omega)
  intro i hi
  have := key n (Nat.le_refl _) i (by omega)
  rw [sub_gt (by omega)] at this
  omega
theorem NFull.rest {n : Nat} {R F : List (List Int)} (h : NFull n R F) {v : List Int} (hv : v.length = n) : restV F v ∈ bx (pv F) ∧ Lat n R (sub v (restV F v)) :=
  ⟨(rest_spec h.sq h.sh hv).1, (h.same _).mpr (rest_spec h.sq h.sh hv).2⟩
theorem NFull.blen {n : Nat} {R F : List (List Int)} (h : NFull n R F) {v : List Int} (hv : v ∈ bx (pv F)) : v.length = n := ((box_mem h.sq h.sh v).mp hv).1
theorem NFull.rest_len {n : Nat} {R F : List (List Int)} (h : NFull n R F) {v : List Int} (hv : v.length = n) : (restV F v).length = n := h.blen (h.rest hv).1
/-- the linear combinations that are needed: an equation by places -/
theorem lat_lin {n : Nat} {R : List (List Int)} (hR : Len n R) {a b v : List Int} (ha : Lat n R a) (hb : Lat n R b) (k : Int) (hv : v.length = n) (e : ∀ i, gt v i = gt a i + k * gt b i) : Lat n R v := by
  have la := ha.len hR
  have lb := hb.len hR
  have : v = plusV a k b := by
    apply ext_gt (by rw [plus_len (by omega)]; omega)
    intro i _
    rw [gt_plus (by omega)]; exact e i
  rw [this]; exact ha.comb hR k hb
theorem NFull.eq_rest {n : Nat} {R F : List (List Int)} (h : NFull n R F) {v w : List Int} (hv : v.length = n) (hw : w.length = n) : restV F v = restV F w ↔ Lat n R (sub v w) := by
  obtain ⟨a1, a2⟩ := h.rest hv
  obtain ⟨b1, b2⟩ := h.rest hw
  have lv := h.rest_len hv
  have lw := h.rest_len hw
  constructor
  · intro e
    rw [e] at a2
    refine lat_lin h.len a2 b2 (-1) (by rw [sub_length (by omega), hv]) fun i => ?_
    rw [sub_gt (by omega), sub_gt (by omega), sub_gt (by omega)]; omega
  · intro e
    refine h.uniq a1 b1 ?_
    have s1 : Lat n R (sub (restV F v) v) := lat_lin h.len .zero a2 (-1) (by rw [sub_length (by omega), lv]) fun i => by
      rw [sub_gt (by omega), sub_gt (by omega), gt_zero]; omega
    have s2 := s1.comb h.len 1 e
    refine lat_lin h.len s2 b2 1 (by rw [sub_length (by omega), lv]) fun i => ?_
    rw [sub_gt (by omega), add_gt (by rw [sub_length (by omega), sub_length (by omega)]; omega), sub_gt (by omega), sub_gt (by omega), sub_gt (by omega)]; omega
/-! #### MK -/
/-! each grid has a normal form -/
/-! the grid of all vectors in both -/
section
variable {n : Nat} {R T B : List (List Int)} (hR : Sqr n R) (hT : Sqr n T) (d1 : detL R ≠ 0) (d2 : detL T ≠ 0)
end
/-! #### ML -/
/-! the scaled dual -/
section
variable {n : Nat} {R : List (List Int)} (hR : Sqr n R) (hd : detL R ≠ 0)
end
/-! #### MM -/
/-! Is a vector generated by rows in normal form? -/
/-! #### FS -/
/-! ### sessions -/
structure SV where
  n : Nat
  cur : List (List Int)
  er : List D
  dn : List D
  un : List D
  e : Nat
  d : Nat
  u : Nat
structure Ses (S : Sto) (i : Nat) (s : SV) : Prop where
  ins : S[i]? = some (.ins "Session" (sesF (.int s.n) (.tup (s.cur.map VE)) (.han s.e) (.han s.d) (.han s.u)))
  her : S[s.e]? = some (.lst s.er)
  hdn : S[s.d]? = some (.lst s.dn)
  hun : S[s.u]? = some (.lst s.un)
  ed : s.e ≠ s.d
  eu : s.e ≠ s.u
  du : s.d ≠ s.u
/-- all but the places L stand as they were -/
def Frm (L : List Nat) (S S' : Sto) : Prop := S.length ≤ S'.length ∧ ∀ j, j < S.length → j ∉ L → S'[j]? = S[j]?
/-- what is always so -/
structure SOk (s : SV) : Prop where
  n1 : 1 ≤ s.n
  n3 : s.n ≤ 3
  len : Len s.n s.cur
  bd : ∀ u ∈ s.cur, Bd 1000000 u
  few : s.cur.length ≤ 8
  er : s.er.length ≤ 900
  dn : s.dn.length ≤ 900
/-! ### the methods that change -/
def addOp (v : List Int) : D := .tup [.str "add", VE v]
def remOp (j : Nat) : D := .tup [.str "remove", .int (j : Nat)]
def c_Session_contains : Ct := fun ds S Q X => ∃ i s d, ds = [.han i, d] ∧ Ses S i s ∧ SOk s ∧ okVecD d ∧
  if isVD s.n d = true then ∀ v, d = VE v → ∀ b : Bool, (b = true ↔ Lat s.n s.cur v) → Q (.bl b) S else X "InvalidVector" S
def c_Session_add : Ct := fun ds S Q X => ∃ i s d, ds = [.han i, d] ∧ Ses S i s ∧ SOk s ∧ okVecD d ∧
  if isVD s.n d = true then if s.cur.length = 8 then X "TooMany" S else ∀ v, d = VE v → isV s.n v = true → ∀ b : Bool, (b = false ↔ Lat s.n s.cur v) → ∀ S', Ses S' i ⟨s.n, s.cur ++ [v], s.er ++ [.tup (s.cur.map VE)], s.dn ++ [addOp v], [], s.e, s.d, S.length⟩ → Frm [i, s.e, s.d] S S' → Q (.bl b) S'
  else X "InvalidVector" S
def c_Session_remove : Ct := fun ds S Q X => ∃ i s x, ds = [.han i, x] ∧ Ses S i s ∧ SOk s ∧ okD x = true ∧
  if btw 0 (s.cur.length - 1) x = true then ∀ (j : Nat) (hj : j < s.cur.length), x = .int (j : Nat) → ∀ S', Ses S' i ⟨s.n, s.cur.eraseIdx j, s.er ++ [.tup (s.cur.map VE)], s.dn ++ [remOp j], [], s.e, s.d, S.length⟩ → Frm [i, s.e, s.d] S S' → Q (VE s.cur[j]) S'
  else X "InvalidNumber" S
/-! #### FX -/
/-! ### what a call ends with -/
/-! ### the class of an exception -/
/-! #### FV -/
/-! ### the town beside other things of the store -/
theorem Frm.refl (L : List Nat) (S : Sto) : Frm L S S := ⟨Nat.le_refl _, fun _ _ _ => rfl⟩
theorem Frm.mono {L M : List Nat} {S S' : Sto} (h : Frm L S S') (hm : ∀ j ∈ L, j ∈ M) : Frm M S S' := ⟨h.1, fun j hj nj => h.2 j hj fun q => nj (hm j q)⟩
theorem Frm.trans {L : List Nat} {S T U : Sto} (h : Frm L S T) (g : Frm L T U) : Frm L S U :=
  ⟨Nat.le_trans h.1 g.1, fun j hj nj => (g.2 j (Nat.lt_of_lt_of_le hj h.1) nj).trans (h.2 j hj nj)⟩
theorem Gr.frm {S T : Sto} (h : Gr S T) : Frm [] S T := by
  obtain ⟨J, rfl⟩ := h
  exact ⟨by simp, fun j hj _ => List.getElem?_append_left hj⟩
theorem Frm.at {L : List Nat} {S S' : Sto} (h : Frm L S S') {j : Nat} {o : O} (e : S[j]? = some o) (n : j ∉ L) : S'[j]? = some o :=
  (h.2 j (List.getElem?_eq_some_iff.mp e).1 n).trans e
theorem Tw.at0 {ns : List Int} {k : Nat} {S : Sto} (t : Tw ns k S) : 0 < S.length := by
  obtain ⟨c, ts, J, rfl, a, b, e⟩ := t
  simp [tw]
theorem Tw.frm {ns : List Int} {k : Nat} {S S' : Sto} (t : Tw ns k S) {L : List Nat} (f : Frm L S S') (h : 0 ∉ L) : Tw ns k S' := by
  have h1 := t.at0
  obtain ⟨c, ts, J, rfl, a, b, e⟩ := t
  have h0 := f.2 0 h1 h
  cases S' with
  | nil => simp [tw] at h0
  | cons o J' =>
    refine ⟨c, ts, J', ?_, a, b, e⟩
    simp [tw] at h0
    rw [h0]
theorem Tw.drawF {ns : List Int} {k : Nat} {S : Sto} {limit : Int} {Q : QD} {X : XD} (t : Tw ns (k + 1) S) (h0 : 0 < limit) (hl : limit ≤ 1000000000) (q : ∀ (r : Int) (S' : Sto), 0 ≤ r → r < limit → Tw ns k S' → Frm [0] S S' → S'.length = S.length → Q (.int r) S') : c__law_draw [.scr (ns.map .int), .han 0, .int limit] S Q X := by
  obtain ⟨c, ts, J, rfl, a, b, e⟩ := t
  refine draw_call ⟨a, b, by omega⟩ h0 hl fun r ts' r0 r1 h => q r _ r0 r1 ⟨c + 1, ts', J, rfl, a, h, by omega⟩ ⟨by simp [tw], fun j hj nj => ?_⟩ (by simp [tw])
  cases j with
  | zero => simp at nj
  | succ j => simp [tw]
theorem Tw.pickF {ns : List Int} {k : Nat} {S : Sto} {xs : List D} {Q : QD} {X : XD} (t : Tw ns (k + 1) S) (h0 : 0 < xs.length) (hl : xs.length ≤ 1000) (q : ∀ x ∈ xs, ∀ S', Tw ns k S' → Frm [0] S S' → S'.length = S.length → Q x S') : c__law_pick [.scr (ns.map .int), .han 0, .lst xs] S Q X := by
  obtain ⟨c, ts, J, rfl, a, b, e⟩ := t
  refine ⟨ns, ts, c, J, xs, rfl, rfl, ⟨a, b, by omega⟩, h0, hl, fun x hx ts' hts => q x hx _ ⟨_, ts', J, rfl, a, hts, by omega⟩ ⟨by simp [tw], fun j hj nj => ?_⟩ (by simp [tw])⟩
  cases j with
  | zero => simp at nj
  | succ j => simp [tw]
theorem Ses.frm {S S' : Sto} {i : Nat} {s : SV} (h : Ses S i s) {L : List Nat} (f : Frm L S S') (ni : i ∉ L) (ne : s.e ∉ L) (nd : s.d ∉ L) (nu : s.u ∉ L) : Ses S' i s :=
  ⟨f.at h.ins ni, f.at h.her ne, f.at h.hdn nd, f.at h.hun nu, h.ed, h.eu, h.du⟩
theorem Ses.id {S : Sto} {i : Nat} {s : SV} (h : Ses S i s) : i ≠ s.d := fun e => by have := h.ins; rw [e, h.hdn] at this; cases this
/-- the town and one session; at most m operations so far -/
structure TS (ns : List Int) (k m : Nat) (S : Sto) (i : Nat) (s : SV) : Prop where
  tw : Tw ns k S
  ses : Ses S i s
  ok : SOk s
  em : s.er.length ≤ m
  dm : s.dn.length ≤ m
  i0 : i ≠ 0
  e0 : s.e ≠ 0
  d0 : s.d ≠ 0
  u0 : s.u ≠ 0
theorem TS.mono {ns : List Int} {k j m : Nat} {S : Sto} {i : Nat} {s : SV} (t : TS ns k m S i s) (h : j ≤ k) : TS ns j m S i s := ⟨t.tw.mono h, t.ses, t.ok, t.em, t.dm, t.i0, t.e0, t.d0, t.u0⟩
theorem TS.frm {ns : List Int} {k m : Nat} {S S' : Sto} {i : Nat} {s : SV} (t : TS ns k m S i s) (f : Frm [] S S') : TS ns k m S' i s :=
  ⟨t.tw.frm f (by simp), t.ses.frm f (by simp) (by simp) (by simp) (by simp), t.ok, t.em, t.dm, t.i0, t.e0, t.d0, t.u0⟩
theorem TS.draw {ns : List Int} {k m : Nat} {S : Sto} {i : Nat} {s : SV} {limit : Int} {Q : QD} {X : XD} (t : TS ns (k + 1) m S i s) (h0 : 0 < limit) (hl : limit ≤ 1000000000) (q : ∀ (r : Int) (S' : Sto), 0 ≤ r → r < limit → TS ns k m S' i s → Q (.int r) S') : c__law_draw [.scr (ns.map .int), .han 0, .int limit] S Q X :=
  t.tw.drawF h0 hl fun r S' r0 r1 t' f _ => q r S' r0 r1 ⟨t', t.ses.frm f (by simpa using t.i0) (by simpa using t.e0) (by simpa using t.d0) (by simpa using t.u0), t.ok, t.em, t.dm, t.i0, t.e0, t.d0, t.u0⟩
theorem TS.pick {ns : List Int} {k m : Nat} {S : Sto} {i : Nat} {s : SV} {xs : List D} {Q : QD} {X : XD} (t : TS ns (k + 1) m S i s) (h0 : 0 < xs.length) (hl : xs.length ≤ 1000) (q : ∀ x ∈ xs, ∀ S', TS ns k m S' i s → Q x S') : c__law_pick [.scr (ns.map .int), .han 0, .lst xs] S Q X :=
  t.tw.pickF h0 hl fun x hx S' t' f _ => q x hx S' ⟨t', t.ses.frm f (by simpa using t.i0) (by simpa using t.e0) (by simpa using t.d0) (by simpa using t.u0), t.ok, t.em, t.dm, t.i0, t.e0, t.d0, t.u0⟩
theorem isV_bd {n : Int} {v : List Int} (h : isV n v = true) : (v.length : Int) = n ∧ Bd 1000000 v := by
  simp only [isV, Bool.and_eq_true, decide_eq_true_eq, List.all_eq_true] at h
  exact ⟨h.1, fun x hx => lim_iff.mp (h.2 x hx)⟩
theorem SOk.add {s : SV} (h : SOk s) {v : List Int} (hv : isV s.n v = true) (hl : s.cur.length < 8) {er dn un : List D} {e d u : Nat} (h1 : er.length ≤ 900) (h2 : dn.length ≤ 900) : SOk ⟨s.n, s.cur ++ [v], er, dn, un, e, d, u⟩ where
  n1 := h.n1
  n3 := h.n3
  len := fun r hr => by
    rcases List.mem_append.mp hr with q | q
    · exact h.len r q
    · have : r = v := by simpa using q
      subst this
      have := (isV_bd hv).1
      show r.length = s.n
      omega
  bd := fun r hr => by
    rcases List.mem_append.mp hr with q | q
    · exact h.bd r q
    · have : r = v := by simpa using q
      subst this
      exact (isV_bd hv).2
  few := by simp; omega
  er := h1
  dn := h2
theorem SOk.sub {s : SV} (h : SOk s) {C : List (List Int)} (hc : ∀ r ∈ C, r ∈ s.cur) (hl : C.length ≤ 8) {er dn un : List D} {e d u : Nat} (h1 : er.length ≤ 900) (h2 : dn.length ≤ 900) : SOk ⟨s.n, C, er, dn, un, e, d, u⟩ where
  n1 := h.n1
  n3 := h.n3
  len := fun r hr => h.len r (hc r hr)
  bd := fun r hr => h.bd r (hc r hr)
  few := hl
  er := h1
  dn := h2
theorem TS.next {ns : List Int} {k m : Nat} {S S' : Sto} {i : Nat} {s : SV} {C : List (List Int)} {x y : D} (t : TS ns k m S i s) (ok : SOk ⟨s.n, C, s.er ++ [x], s.dn ++ [y], [], s.e, s.d, S.length⟩) (h : Ses S' i ⟨s.n, C, s.er ++ [x], s.dn ++ [y], [], s.e, s.d, S.length⟩) (f : Frm [i, s.e, s.d] S S') :
    TS ns k (m + 1) S' i ⟨s.n, C, s.er ++ [x], s.dn ++ [y], [], s.e, s.d, S.length⟩ := by
  have := t.em; have := t.dm
  exact ⟨t.tw.frm f (by simp [t.i0.symm, t.e0.symm, t.d0.symm]), h, ok, by simp; omega, by simp; omega, t.i0, t.e0, t.d0, by have := t.tw.at0; show S.length ≠ 0; omega⟩
theorem TS.add {ns : List Int} {k m : Nat} {S : Sto} {i : Nat} {s : SV} {v : List Int} {Q : QD} {X : XD} (t : TS ns k m S i s) (hm : m < 900) (hv : isV s.n v = true) (hl : s.cur.length < 8)
    (q : ∀ (b : Bool) (S' : Sto) (s' : SV), (b = false ↔ Lat s.n s.cur v) → TS ns k (m + 1) S' i s' → s'.n = s.n → s'.cur = s.cur ++ [v] → Q (.bl b) S') : c_Session_add [.han i, VE v] S Q X := by
  have e1 := t.em; have e2 := t.dm; have n3 := t.ok.n3
  refine ⟨i, s, VE v, rfl, t.ses, t.ok, okVec_V (by have := (isV_bd hv).1; omega), ?_⟩
  rw [if_pos (by rw [isVD_V]; exact hv), if_neg (by omega)]
  intro v' ev hv' b hb S' h1 h2
  have ev' : v = v' := by
    have := congrArg toV ev
    rwa [toV_V, toV_V] at this
  subst ev'
  exact q b S' _ hb (t.next (t.ok.add hv hl (by simp; omega) (by simp; omega)) h1 h2) rfl rfl
theorem TS.remove {ns : List Int} {k m : Nat} {S : Sto} {i j : Nat} {s : SV} {Q : QD} {X : XD} (t : TS ns k m S i s) (hm : m < 900) (hj : j < s.cur.length)
    (q : ∀ (S' : Sto) (s' : SV), TS ns k (m + 1) S' i s' → s'.n = s.n → s'.cur = s.cur.eraseIdx j → Q (VE s.cur[j]) S') : c_Session_remove [.han i, .int (j : Nat)] S Q X := by
  have e1 := t.em; have e2 := t.dm
  refine ⟨i, s, _, rfl, t.ses, t.ok, rfl, ?_⟩
  rw [if_pos (by simp [btw]; omega)]
  intro j' hj' ej S' h1 h2
  have ej' : j = j' := by
    have : (j : Int) = j' := by injection ej
    omega
  subst ej'
  refine q S' _ (t.next (t.ok.sub (fun r hr => List.mem_of_mem_eraseIdx hr) ?_ (by simp; omega) (by simp; omega)) h1 h2) rfl rfl
  have := List.length_eraseIdx_le s.cur j
  have := t.ok.few
  omega
theorem TS.contains {ns : List Int} {k m : Nat} {S : Sto} {i : Nat} {s : SV} {v : List Int} {Q : QD} {X : XD} (t : TS ns k m S i s) (hv : isV s.n v = true)
    (q : ∀ b : Bool, (b = true ↔ Lat s.n s.cur v) → Q (.bl b) S) : c_Session_contains [.han i, VE v] S Q X := by
  have n3 := t.ok.n3
  refine ⟨i, s, VE v, rfl, t.ses, t.ok, okVec_V (by have := (isV_bd hv).1; omega), ?_⟩
  rw [if_pos (by rw [isVD_V]; exact hv)]
  intro v' ev b hb
  have ev' : v = v' := by
    have := congrArg toV ev
    rwa [toV_V, toV_V] at this
  subst ev'
  exact q b hb
/-! #### MN -/
/-! Short vectors: forms in two and three variables. -/
/-- the length of a vector (its product with itself) -/
abbrev nm (v : List Int) : Int := dot v v
/-- the form of two vectors -/
def fq2 (a b d x y : Int) : Int := a * x * x + b * y * y + 2 * d * x * y
def fq3 (a b c d e f x y z : Int) : Int := a * x * x + b * y * y + c * z * z + 2 * d * x * y + 2 * e * x * z + 2 * f * y * z
theorem sq_nn (x : Int) : 0 ≤ x * x := by
  rcases Int.le_total 0 x with h | h
  · exact Int.mul_nonneg h h
  · exact Int.mul_nonneg_of_nonpos_of_nonpos h h
theorem sq_pos {x : Int} (h : x ≠ 0) : 1 ≤ x * x := by
  have := sq_nn x
  rcases Int.lt_or_le 0 (x * x) with q | q
  · exact q
  · exfalso
    have : x * x = 0 := by omega
    rcases Int.mul_eq_zero.mp this with r | r <;> exact h r
/-- the nearest whole number to t / b -/
def nrst (t b : Int) : Int := (2 * t + b).fdiv (2 * b)
theorem nrst_spec (t : Int) {b : Int} (hb : 0 < b) : -b ≤ 2 * (t - nrst t b * b) ∧ 2 * (t - nrst t b * b) < b := by
  unfold nrst
  have h1 := Int.fmod_add_mul_fdiv (2 * t + b) (2 * b)
  have h2 := Int.fmod_nonneg_of_pos (2 * t + b) (show 0 < 2 * b by omega)
  have h3 := Int.fmod_lt_of_pos (2 * t + b) (show 0 < 2 * b by omega)
  have h4 : 2 * b * (2 * t + b).fdiv (2 * b) = 2 * ((2 * t + b).fdiv (2 * b) * b) := by grind
  rw [h4] at h1
  omega
/-- a times the form is a square and D y y -/
theorem fq2_mul (a b d x y : Int) : a * fq2 a b d x y = (a * x + d * y) * (a * x + d * y) + (a * b - d * d) * (y * y) := by
  unfold fq2; grind
theorem fq3_mul (a b c d e f x y z : Int) : (a * b - d * d) * (a * b - d * d) * fq3 a b c d e f x y z =
    (a * b - d * d) * (z * z) * (a * b * c + 2 * d * e * f - a * f * f - b * e * e - c * d * d) + fq2 a b d ((a * b - d * d) * x + z * (e * b - f * d)) ((a * b - d * d) * y + z * (f * a - e * d)) := by
  unfold fq2 fq3; grind
theorem le_of_mul {a b k : Int} (hk : 0 < k) (h : k * a ≤ k * b) : a ≤ b := Int.le_of_mul_le_mul_left h hk
theorem mul_mono {a b k : Int} (hk : 0 ≤ k) (h : a ≤ b) : k * a ≤ k * b := Int.mul_le_mul_of_nonneg_left h hk
/-- 3 a b <= 4 D -/
theorem d_low {a b d : Int} (ha : 0 < a) (hab : a ≤ b) (hd : (2 * d).natAbs ≤ a.natAbs) : 3 * (a * b) ≤ 4 * (a * b - d * d) := by
  have h1 : 4 * (d * d) ≤ a * a := by
    have h2 : (2 * d).natAbs * (2 * d).natAbs ≤ a.natAbs * a.natAbs := Nat.mul_le_mul hd hd
    have h3 : (((2 * d).natAbs * (2 * d).natAbs : Nat) : Int) ≤ ((a.natAbs * a.natAbs : Nat) : Int) := Int.ofNat_le.mpr h2
    rw [Int.natAbs_mul_self, Int.natAbs_mul_self] at h3
    have : 2 * d * (2 * d) = 4 * (d * d) := by grind
    omega
  have h4 : a * a ≤ a * b := mul_mono (by omega) hab
  omega
/-- the half of the first: a x x + 2 d x >= 0 -/
theorem half_ok {a d : Int} (ha : 0 < a) (hd : (2 * d).natAbs ≤ a.natAbs) (x : Int) : 0 ≤ a * x * x + 2 * d * x := by
  have h : a * x * x + 2 * d * x = x * (a * x + 2 * d) := by grind
  rw [h]
  have e : (2 * d).natAbs ≤ a.natAbs := hd
  rcases Int.lt_trichotomy x 0 with q | q | q
  · refine Int.mul_nonneg_of_nonpos_of_nonpos (by omega) ?_
    have : a * x ≤ a * (-1) := mul_mono (by omega) (by omega)
    omega
  · subst q; simp
  · refine Int.mul_nonneg (by omega) ?_
    have : a * 1 ≤ a * x := mul_mono (by omega) (by omega)
    omega
theorem fq2_last {a b d x y : Int} (ha : 0 < a) (hab : a ≤ b) (hd : (2 * d).natAbs ≤ a.natAbs) (hy : y ≠ 0) : b ≤ fq2 a b d x y := by
  have lo := d_low ha hab hd
  by_cases h1 : y = 1
  · subst h1
    have := half_ok ha hd x
    unfold fq2
    have e : a * x * x + b * 1 * 1 + 2 * d * x * 1 = b + (a * x * x + 2 * d * x) := by grind
    omega
  by_cases h2 : y = -1
  · subst h2
    have := half_ok ha hd (-x)
    unfold fq2
    have e : a * x * x + b * (-1) * (-1) + 2 * d * x * (-1) = b + (a * -x * -x + 2 * d * -x) := by grind
    omega
  have hy2 : 4 ≤ y * y := by
    rcases Int.lt_or_le y 0 with q | q
    · have : 2 * 2 ≤ (-y) * (-y) := Int.mul_le_mul (by omega) (by omega) (by omega) (by omega)
      have e : (-y) * (-y) = y * y := by grind
      omega
    · have : 2 * 2 ≤ y * y := Int.mul_le_mul (by omega) (by omega) (by omega) (by omega)
      omega
  refine le_of_mul ha ?_
  rw [fq2_mul]
  have s := sq_nn (a * x + d * y)
  have ab : 0 ≤ a * b := Int.mul_nonneg (by omega) (by omega)
  have h4 : (a * b - d * d) * 4 ≤ (a * b - d * d) * (y * y) := mul_mono (by omega) hy2
  omega
theorem fq2_first {a b d x : Int} (ha : 0 < a) (hx : x ≠ 0) : a ≤ fq2 a b d x 0 := by
  unfold fq2
  have := sq_pos hx
  have h : a * 1 ≤ a * (x * x) := mul_mono (by omega) this
  have e : a * x * x + b * 0 * 0 + 2 * d * x * 0 = a * (x * x) := by grind
  omega
theorem sq_le {x B : Int} (h1 : -B ≤ x) (h2 : x ≤ B) : x * x ≤ B * B := by
  rcases Int.le_total 0 x with q | q
  · exact Int.mul_le_mul h2 h2 q (by omega)
  · have : (-x) * (-x) ≤ B * B := Int.mul_le_mul (by omega) (by omega) (by omega) (by omega)
    have e : (-x) * (-x) = x * x := by grind
    omega
/-- of all numbers alike by B the one about 0 has the least square -/
theorem near_sq {B w w' k : Int} (hB : 0 < B) (h : w = w' + k * B) (h1 : -B ≤ 2 * w') (h2 : 2 * w' ≤ B) : w' * w' ≤ w * w := by
  rcases Int.lt_trichotomy k 0 with q | q | q
  · have : k * B ≤ (-1) * B := Int.mul_le_mul_of_nonneg_right (by omega) (by omega)
    have h3 : w' * w' ≤ (-w) * (-w) := sq_le (by omega) (by omega)
    have e : (-w) * (-w) = w * w := by grind
    omega
  · subst q
    have : w = w' := by omega
    rw [this]; omega
  · have : 1 * B ≤ k * B := Int.mul_le_mul_of_nonneg_right (by omega) (by omega)
    exact sq_le (by omega) (by omega)
section
variable {a b d : Int} (ha : 0 < a) (hD : 0 < a * b - d * d)
include ha hD
theorem fq2_nn {x y : Int} : 0 ≤ fq2 a b d x y := by
  refine le_of_mul ha ?_
  rw [fq2_mul]
  have h1 := sq_nn (a * x + d * y)
  have h2 : 0 ≤ (a * b - d * d) * (y * y) := Int.mul_nonneg (by omega) (sq_nn y)
  omega
/-- for a given Y, some X about -d Y / a -/
theorem best_x (u y : Int) : ∃ s : Int, -(a * (a * b - d * d)) ≤ 2 * (a * ((a * b - d * d) * s + u) + d * y) ∧ 2 * (a * ((a * b - d * d) * s + u) + d * y) ≤ a * (a * b - d * d) := by
  have h := nrst_spec (a * u + d * y) (Int.mul_pos ha hD)
  refine ⟨-nrst (a * u + d * y) (a * (a * b - d * d)), ?_⟩
  have e : a * ((a * b - d * d) * -nrst (a * u + d * y) (a * (a * b - d * d)) + u) + d * y = a * u + d * y - nrst (a * u + d * y) (a * (a * b - d * d)) * (a * (a * b - d * d)) := by grind
  rw [e]; omega
/-- the rounding of Babai -/
theorem babai (u v : Int) : ∃ s : Int, (-(a * (a * b - d * d)) ≤ 2 * (a * ((a * b - d * d) * s + u) + d * ((a * b - d * d) * -nrst v (a * b - d * d) + v)) ∧ 2 * (a * ((a * b - d * d) * s + u) + d * ((a * b - d * d) * -nrst v (a * b - d * d) + v)) ≤ a * (a * b - d * d)) ∧
    4 * (a * fq2 a b d ((a * b - d * d) * s + u) ((a * b - d * d) * -nrst v (a * b - d * d) + v)) ≤ (a * b - d * d) * (a * b - d * d) * (a * a + (a * b - d * d)) := by
  obtain ⟨s, h1, h2⟩ := best_x ha hD u ((a * b - d * d) * -nrst v (a * b - d * d) + v)
  refine ⟨s, ⟨h1, h2⟩, ?_⟩
  have h3 := nrst_spec v hD
  have e : (a * b - d * d) * -nrst v (a * b - d * d) + v = v - nrst v (a * b - d * d) * (a * b - d * d) := by grind
  rw [fq2_mul]
  generalize hY : (a * b - d * d) * -nrst v (a * b - d * d) + v = Y at *
  generalize hX : (a * b - d * d) * s + u = X at *
  rw [← e] at h3
  generalize hDD : a * b - d * d = DD at *
  have s1 : (2 * (a * X + d * Y)) * (2 * (a * X + d * Y)) ≤ (a * DD) * (a * DD) := sq_le h1 h2
  have s2 : (2 * Y) * (2 * Y) ≤ DD * DD := sq_le (by omega) (by omega)
  have s3 : DD * ((2 * Y) * (2 * Y)) ≤ DD * (DD * DD) := mul_mono (by omega) s2
  have e1 : (2 * (a * X + d * Y)) * (2 * (a * X + d * Y)) = 4 * ((a * X + d * Y) * (a * X + d * Y)) := by grind
  have e2 : DD * ((2 * Y) * (2 * Y)) = 4 * (DD * (Y * Y)) := by grind
  have e3 : DD * DD * (a * a + DD) = (a * DD) * (a * DD) + DD * (DD * DD) := by grind
  omega
end
/-- the determinant of the products -/
def g3 (a b c d e f : Int) : Int := a * b * c + 2 * d * e * f - a * f * f - b * e * e - c * d * d
theorem fq3_mul' (a b c d e f x y z : Int) : (a * b - d * d) * (a * b - d * d) * fq3 a b c d e f x y z =
    (a * b - d * d) * (z * z) * g3 a b c d e f + fq2 a b d ((a * b - d * d) * x + z * (e * b - f * d)) ((a * b - d * d) * y + z * (f * a - e * d)) := fq3_mul a b c d e f x y z
theorem pos_of_low {a b d : Int} (ha : 0 < a) (hab : a ≤ b) (hd : (2 * d).natAbs ≤ a.natAbs) : 0 < a * b - d * d := by
  have := d_low ha hab hd
  have : 0 < a * b := Int.mul_pos ha (by omega)
  omega
/-- the last vector is not much longer than its height -/
theorem height {a b c d e f : Int} (ha : 0 < a) (hab : a ≤ b) (hbc : b ≤ c) (hd : (2 * d).natAbs ≤ a.natAbs) (h : ∀ s t, c ≤ fq3 a b c d e f s t 1) : (a * b - d * d) * c ≤ 2 * g3 a b c d e f := by
  have hD := pos_of_low ha hab hd
  obtain ⟨s, _, hs⟩ := babai ha hD (1 * (e * b - f * d)) (1 * (f * a - e * d))
  have hc := h s (-nrst (1 * (f * a - e * d)) (a * b - d * d))
  have m := fq3_mul' a b c d e f s (-nrst (1 * (f * a - e * d)) (a * b - d * d)) 1
  generalize fq2 a b d ((a * b - d * d) * s + 1 * (e * b - f * d)) ((a * b - d * d) * -nrst (1 * (f * a - e * d)) (a * b - d * d) + 1 * (f * a - e * d)) = q at m hs
  generalize fq3 a b c d e f s (-nrst (1 * (f * a - e * d)) (a * b - d * d)) 1 = p at m hc
  generalize g3 a b c d e f = g at m ⊢
  have hDab : a * b - d * d ≤ a * b := by have := sq_nn d; omega
  generalize a * b - d * d = DD at *
  -- 4 q <= DD DD (a + b)
  have h1 : 4 * q ≤ DD * DD * (a + b) := by
    refine le_of_mul ha ?_
    have e1 : a * (4 * q) = 4 * (a * q) := by grind
    have e2 : a * (DD * DD * (a + b)) = DD * DD * (a * a + a * b) := by grind
    have : DD * DD * (a * a + DD) ≤ DD * DD * (a * a + a * b) := mul_mono (sq_nn DD) (by omega)
    omega
  have h2 : DD * DD * (a + b) ≤ DD * DD * (2 * c) := mul_mono (sq_nn DD) (by omega)
  have h3 : DD * DD * c ≤ DD * DD * p := mul_mono (sq_nn DD) hc
  refine le_of_mul hD ?_
  have e3 : DD * (1 * 1) * g = DD * g := by grind
  have e4 : DD * (DD * c) = DD * DD * c := by grind
  have e5 : DD * (2 * g) = 2 * (DD * g) := by grind
  have e6 : DD * DD * (2 * c) = 2 * (DD * DD * c) := by grind
  omega
theorem fq3_neg (a b c d e f x y z : Int) : fq3 a b c d e f x y z = fq3 a b c d e f (-x) (-y) (-z) := by
  unfold fq3; grind
/-- vectors with a last coefficient of 2 or more are longer by far -/
theorem fq3_far {a b c d e f x y z : Int} (ha : 0 < a) (hab : a ≤ b) (hbc : b ≤ c) (hd : (2 * d).natAbs ≤ a.natAbs) (h : ∀ s t, c ≤ fq3 a b c d e f s t 1) (hz : 4 ≤ z * z) : 2 * c ≤ fq3 a b c d e f x y z := by
  have hD := pos_of_low ha hab hd
  have hg := height ha hab hbc hd h
  have m := fq3_mul' a b c d e f x y z
  have n := fq2_nn ha hD (x := (a * b - d * d) * x + z * (e * b - f * d)) (y := (a * b - d * d) * y + z * (f * a - e * d))
  generalize fq2 a b d ((a * b - d * d) * x + z * (e * b - f * d)) ((a * b - d * d) * y + z * (f * a - e * d)) = q at m n
  generalize fq3 a b c d e f x y z = p at m ⊢
  generalize g3 a b c d e f = g at m hg
  generalize a * b - d * d = DD at *
  have hc : 0 < c := by omega
  have hg0 : 0 ≤ g := by
    have : 0 ≤ DD * c := Int.mul_nonneg (by omega) (by omega)
    omega
  have h1 : DD * 4 * g ≤ DD * (z * z) * g := Int.mul_le_mul_of_nonneg_right (mul_mono (by omega) hz) hg0
  have h2 : DD * (DD * c) ≤ DD * (2 * g) := mul_mono (by omega) hg
  refine le_of_mul (Int.mul_pos hD hD) ?_
  have e1 : DD * 4 * g = 4 * (DD * g) := by grind
  have e2 : DD * (2 * g) = 2 * (DD * g) := by grind
  have e3 : DD * DD * (2 * c) = 2 * (DD * (DD * c)) := by grind
  omega
theorem four_le {z : Int} (h0 : z ≠ 0) (h1 : z ≠ 1) (h2 : z ≠ -1) : 4 ≤ z * z := by
  rcases Int.lt_or_le z 0 with q | q
  · have : 2 * 2 ≤ (-z) * (-z) := Int.mul_le_mul (by omega) (by omega) (by omega) (by omega)
    have e : (-z) * (-z) = z * z := by grind
    omega
  · have : 2 * 2 ≤ z * z := Int.mul_le_mul (by omega) (by omega) (by omega) (by omega)
    omega
theorem fq3_last {a b c d e f x y z : Int} (ha : 0 < a) (hab : a ≤ b) (hbc : b ≤ c) (hd : (2 * d).natAbs ≤ a.natAbs) (h : ∀ s t, c ≤ fq3 a b c d e f s t 1) (hz : z ≠ 0) : c ≤ fq3 a b c d e f x y z := by
  by_cases h1 : z = 1
  · subst h1; exact h x y
  by_cases h2 : z = -1
  · subst h2
    rw [fq3_neg]
    exact h _ _
  have := fq3_far (x := x) (y := y) ha hab hbc hd h (four_le hz h1 h2)
  omega
/-- what is tried about the middle has the least of all -/
theorem window {a b c d e f : Int} (ha : 0 < a) (hab : a ≤ b) (hd : (2 * d).natAbs ≤ a.natAbs) (s t : Int) :
    ∃ i j : Int, (-2 ≤ i ∧ i ≤ 2) ∧ (-2 ≤ j ∧ j ≤ 2) ∧ fq3 a b c d e f (-nrst (e * b - f * d) (a * b - d * d) + i) (-nrst (f * a - e * d) (a * b - d * d) + j) 1 ≤ fq3 a b c d e f s t 1 := by
  have hD := pos_of_low ha hab hd
  have lo := d_low ha hab hd
  have hu := nrst_spec (e * b - f * d) hD
  have hv := nrst_spec (f * a - e * d) hD
  generalize hU : e * b - f * d = u at *
  generalize hV : f * a - e * d = v at *
  have red : ∀ s t s' t' : Int, fq2 a b d ((a * b - d * d) * s' + u) ((a * b - d * d) * t' + v) ≤ fq2 a b d ((a * b - d * d) * s + u) ((a * b - d * d) * t + v) → fq3 a b c d e f s' t' 1 ≤ fq3 a b c d e f s t 1 := by
    intro s t s' t' h
    refine le_of_mul (Int.mul_pos hD hD) ?_
    rw [fq3_mul', fq3_mul', hU, hV]
    simp only [Int.one_mul]
    omega
  have adb : d.natAbs * 2 ≤ a.natAbs := by omega
  -- some x for a y that is not great
  have inX : ∀ s Y : Int, (-(a * (a * b - d * d)) ≤ 2 * (a * ((a * b - d * d) * s + u) + d * Y)) → (2 * (a * ((a * b - d * d) * s + u) + d * Y) ≤ a * (a * b - d * d)) → -(a * b - d * d) ≤ Y → Y ≤ a * b - d * d → ∃ i, (-2 ≤ i ∧ i ≤ 2) ∧ s = -nrst u (a * b - d * d) + i := by
    intro s Y h1 h2 h3 h4
    refine ⟨s + nrst u (a * b - d * d), ?_, by omega⟩
    -- 2 |d Y| <= a D
    have dY : -(a * (a * b - d * d)) ≤ 2 * (d * Y) ∧ 2 * (d * Y) ≤ a * (a * b - d * d) := by
      have n1 : (d * Y).natAbs * 2 ≤ a.natAbs * (a * b - d * d).natAbs := by
        rw [Int.natAbs_mul, Nat.mul_right_comm]
        exact Nat.mul_le_mul adb (by omega)
      rw [← Int.natAbs_mul] at n1
      have : 0 < a * (a * b - d * d) := Int.mul_pos ha hD
      omega
    generalize a * b - d * d = DD at *
    have k1 : a * (2 * (DD * s + u)) ≤ a * (2 * DD) := by
      have e1 : a * (2 * (DD * s + u)) = 2 * (a * (DD * s + u) + d * Y) - 2 * (d * Y) := by grind
      have e2 : a * (2 * DD) = a * DD + a * DD := by grind
      omega
    have k2 : a * (2 * -DD) ≤ a * (2 * (DD * s + u)) := by
      have e1 : a * (2 * (DD * s + u)) = 2 * (a * (DD * s + u) + d * Y) - 2 * (d * Y) := by grind
      have e2 : a * (2 * -DD) = -(a * DD) - a * DD := by grind
      omega
    have k1 := le_of_mul ha k1
    have k2 := le_of_mul ha k2
    -- DD (s + nrst) = (DD s + u) - (u - nrst DD)
    have e3 : DD * (s + nrst u DD) = (DD * s + u) - (u - nrst u DD * DD) := by grind
    constructor
    · refine Int.le_of_lt_add_one (Int.lt_of_mul_lt_mul_left (a := DD) ?_ (by omega))
      have e4 : DD * (s + nrst u DD + 1) = DD * (s + nrst u DD) + DD := by grind
      have e5 : DD * -2 = -DD - DD := by grind
      omega
    · refine Int.le_of_lt_add_one (Int.lt_of_mul_lt_mul_left (a := DD) ?_ (by omega))
      have e5 : DD * (2 + 1) = DD + DD + DD := by grind
      omega
  by_cases hcase : (a * b - d * d) * (a * b - d * d) * (a * a + (a * b - d * d)) ≤ 4 * (a * fq2 a b d ((a * b - d * d) * s + u) ((a * b - d * d) * t + v))
  · -- Babai's own
    obtain ⟨s', ⟨h1, h2⟩, h3⟩ := babai ha hD u v
    have hY : (a * b - d * d) * -nrst v (a * b - d * d) + v = v - nrst v (a * b - d * d) * (a * b - d * d) := by grind
    obtain ⟨i, hi, e⟩ := inX s' _ h1 h2 (by rw [hY]; omega) (by rw [hY]; omega)
    refine ⟨i, 0, hi, by omega, ?_⟩
    rw [← e, Int.add_zero]
    refine red _ _ _ _ (le_of_mul ha ?_)
    omega
  · -- y is small; the best x for it
    have m := fq2_mul a b d ((a * b - d * d) * s + u) ((a * b - d * d) * t + v)
    obtain ⟨s', h1, h2⟩ := best_x ha hD u ((a * b - d * d) * t + v)
    have m' := fq2_mul a b d ((a * b - d * d) * s' + u) ((a * b - d * d) * t + v)
    have nsq : (a * ((a * b - d * d) * s' + u) + d * ((a * b - d * d) * t + v)) * (a * ((a * b - d * d) * s' + u) + d * ((a * b - d * d) * t + v)) ≤ (a * ((a * b - d * d) * s + u) + d * ((a * b - d * d) * t + v)) * (a * ((a * b - d * d) * s + u) + d * ((a * b - d * d) * t + v)) :=
      near_sq (B := a * (a * b - d * d)) (k := s - s') (Int.mul_pos ha hD) (by grind) h1 h2
    have sq0 := sq_nn (a * ((a * b - d * d) * s + u) + d * ((a * b - d * d) * t + v))
    have y1 : -(a * b - d * d) < (a * b - d * d) * t + v ∧ (a * b - d * d) * t + v < a * b - d * d := by
      have aab : a * a ≤ a * b := mul_mono (by omega) hab
      generalize (a * b - d * d) * t + v = Y at *
      generalize hDD : a * b - d * d = DD at *
      have k1 : 4 * (DD * (Y * Y)) < DD * DD * (a * a + DD) := by omega
      have k2 : DD * (4 * (Y * Y)) < DD * (DD * (a * a + DD)) := by
        have e1 : DD * (4 * (Y * Y)) = 4 * (DD * (Y * Y)) := by grind
        have e2 : DD * (DD * (a * a + DD)) = DD * DD * (a * a + DD) := by grind
        omega
      have k3 := Int.lt_of_mul_lt_mul_left k2 (by omega)
      have k4 : DD * (3 * (a * a + DD)) ≤ DD * (7 * DD) := mul_mono (by omega) (by omega)
      have k5 : DD * (3 * (a * a + DD)) = 3 * (DD * (a * a + DD)) := by grind
      have k6 : DD * (7 * DD) = 7 * (DD * DD) := by grind
      have k7 : 0 < DD * DD := Int.mul_pos hD hD
      have k8 : Y * Y < DD * DD := by omega
      constructor
      · rcases Int.lt_or_le (-DD) Y with q | q
        · exact q
        · exfalso
          have : DD * DD ≤ (-Y) * (-Y) := Int.mul_le_mul (by omega) (by omega) (by omega) (by omega)
          have e : (-Y) * (-Y) = Y * Y := by grind
          omega
      · rcases Int.lt_or_le Y DD with q | q
        · exact q
        · exfalso
          have : DD * DD ≤ Y * Y := Int.mul_le_mul (by omega) (by omega) (by omega) (by omega)
          omega
    obtain ⟨i, hi, e⟩ := inX s' _ h1 h2 (by omega) (by omega)
    refine ⟨i, t + nrst v (a * b - d * d), hi, ?_, ?_⟩
    · generalize a * b - d * d = DD at *
      have e3 : DD * (t + nrst v DD) = (DD * t + v) - (v - nrst v DD * DD) := by grind
      constructor
      · refine Int.le_of_lt_add_one (Int.lt_of_mul_lt_mul_left (a := DD) ?_ (by omega))
        have e4 : DD * (t + nrst v DD + 1) = DD * (t + nrst v DD) + DD := by grind
        have e5 : DD * -2 = -DD - DD := by grind
        omega
      · refine Int.le_of_lt_add_one (Int.lt_of_mul_lt_mul_left (a := DD) ?_ (by omega))
        have e5 : DD * (2 + 1) = DD + DD + DD := by grind
        omega
    · rw [← e, show -nrst v (a * b - d * d) + (t + nrst v (a * b - d * d)) = t by omega]
      refine red _ _ _ _ (le_of_mul ha ?_)
      omega
/-! #### MO -/
/-! Short vectors: two vectors made short, one vector made short by two. -/
theorem dot_plusr {u v w : List Int} (k : Int) (h : u.length = v.length) : dot w (plusV u k v) = dot w u + k * dot w v := dot_plus w u v k h
theorem dot_plusl {u v w : List Int} (k : Int) (h : u.length = v.length) : dot (plusV u k v) w = dot u w + k * dot v w := by
  rw [dot_comm, dot_plusr k h, dot_comm w u, dot_comm w v]
theorem nm_plus {u v : List Int} (k : Int) (h : u.length = v.length) : nm (plusV u k v) = nm u + 2 * k * dot u v + k * k * nm v := by
  unfold nm
  rw [dot_plusl k h, dot_plusr k h, dot_plusr k h, dot_comm v u]
  grind
theorem nm_nn : ∀ v : List Int, 0 ≤ nm v
  | [] => by simp [nm, dot]
  | a :: v => by
    have := nm_nn v
    unfold nm at *
    rw [dot_cons]
    have := sq_nn a
    omega
theorem ent_nm : ∀ {v : List Int} {x : Int}, x ∈ v → x * x ≤ nm v
  | a :: v, x, h => by
    have h1 := nm_nn v
    unfold nm at *
    rw [dot_cons]
    rcases List.mem_cons.mp h with rfl | h
    · omega
    · have := ent_nm h
      unfold nm at this
      have := sq_nn a
      omega
/-! ### by length -/
def leL (u v : List Int) : Bool := decide (nm u < nm v ∨ (nm u = nm v ∧ u ≤ v))
theorem lexle_trans {a b c : List Int} (h : a ≤ b) (g : b ≤ c) : a ≤ c := List.le_trans h g
theorem lexle_total (a b : List Int) : a ≤ b ∨ b ≤ a := List.le_total a b
theorem leL_trans (a b c : List Int) (h : leL a b = true) (g : leL b c = true) : leL a c = true := by
  unfold leL at *
  rw [decide_eq_true_eq] at *
  rcases h with h | ⟨h, h'⟩
  · rcases g with g | ⟨g, g'⟩ <;> exact .inl (by omega)
  · rcases g with g | ⟨g, g'⟩
    · exact .inl (by omega)
    · exact .inr ⟨by omega, lexle_trans h' g'⟩
theorem leL_total (a b : List Int) : (leL a b || leL b a) = true := by
  unfold leL
  rw [Bool.or_eq_true, decide_eq_true_eq, decide_eq_true_eq]
  rcases Int.lt_trichotomy (nm a) (nm b) with h | h | h
  · exact .inl (.inl h)
  · rcases lexle_total a b with q | q
    · exact .inl (.inr ⟨h, q⟩)
    · exact .inr (.inr ⟨h.symm, q⟩)
  · exact .inr (.inl h)
def byLen (R : List (List Int)) : List (List Int) := R.mergeSort leL
theorem byLen_perm (R : List (List Int)) : (byLen R).Perm R := List.mergeSort_perm R leL
theorem byLen_sorted (R : List (List Int)) : (byLen R).Pairwise fun u v => nm u ≤ nm v := by
  have h := List.pairwise_mergeSort (le := leL) leL_trans leL_total R
  refine h.imp fun {a b} q => ?_
  unfold leL at q
  rw [decide_eq_true_eq] at q
  rcases q with q | q <;> omega
theorem byLen_len (R : List (List Int)) : (byLen R).length = R.length := (byLen_perm R).length_eq
/-! ### two vectors -/
def stepV (p q : List Int) : List Int := plusV q (-(nrst (dot p q) (nm p))) p
def twoGo : Nat → List Int → List Int → List (List Int)
  | 0, p, q => [p, stepV p q]
  | k + 1, p, q => if nm p ≤ nm (stepV p q) then [p, stepV p q] else twoGo k (stepV p q) p
def dd (p q : List Int) : Int := nm p * nm q - dot p q * dot p q
theorem dd_comm (p q : List Int) : dd p q = dd q p := by unfold dd; rw [dot_comm]; grind
theorem step_len {p q : List Int} (h : p.length = q.length) : (stepV p q).length = q.length := plus_len h.symm
theorem step_dot {p q : List Int} (h : p.length = q.length) : dot p (stepV p q) = dot p q - nrst (dot p q) (nm p) * nm p := by
  unfold stepV
  rw [dot_plusr _ h.symm]
  unfold nm
  grind
theorem step_dd {p q : List Int} (h : p.length = q.length) : dd p (stepV p q) = dd p q := by
  unfold dd
  rw [step_dot h]
  unfold stepV
  rw [nm_plus _ h.symm, dot_comm q p]
  generalize nrst (dot p q) (nm p) = k
  generalize dot p q = d
  generalize nm p = a
  generalize nm q = b
  grind
theorem pos_of_dd {p q : List Int} (h : 0 < dd p q) : 0 < nm p ∧ 0 < nm q := by
  have h1 := nm_nn p
  have h2 := nm_nn q
  unfold dd at h
  have h3 := sq_nn (dot p q)
  constructor
  · rcases Int.lt_or_le 0 (nm p) with r | r
    · exact r
    · have : nm p = 0 := by omega
      rw [this] at h
      simp at h
      omega
  · rcases Int.lt_or_le 0 (nm q) with r | r
    · exact r
    · have : nm q = 0 := by omega
      rw [this] at h
      simp at h
      omega
theorem step_le {p q : List Int} (h : p.length = q.length) (hp : 0 < nm p) : nm (stepV p q) ≤ nm q := by
  have e := step_dd h
  have f := step_dot h
  unfold dd at e
  have n := nrst_spec (dot p q) hp
  have s := near_sq (B := nm p) (w := dot p q) (w' := dot p (stepV p q)) (k := nrst (dot p q) (nm p)) hp (by rw [f]; omega) (by rw [f]; omega) (by rw [f]; omega)
  refine le_of_mul hp ?_
  omega
theorem step_half {p q : List Int} (h : p.length = q.length) (hp : 0 < nm p) : (2 * dot p (stepV p q)).natAbs ≤ (nm p).natAbs := by
  have n := nrst_spec (dot p q) hp
  rw [step_dot h]
  omega
theorem same2_swap (m : Nat) {p q : List Int} (hp : p.length = m) (hq : q.length = m) : SameL m [p, q] [q, p] := by
  refine SameL.of (fun r hr => ?_) (fun r hr => ?_) (fun v hv => ?_) (fun v hv => ?_)
  · simp at hr; rcases hr with rfl | rfl <;> assumption
  · simp at hr; rcases hr with rfl | rfl <;> assumption
  · simp at hv; rcases hv with rfl | rfl
    · exact Lat.of_mem (by simp) hp
    · exact Lat.of_mem (by simp) hq
  · simp at hv; rcases hv with rfl | rfl
    · exact Lat.of_mem (by simp) hq
    · exact Lat.of_mem (by simp) hp
theorem same2_add (m : Nat) {p q : List Int} (hp : p.length = m) (hq : q.length = m) (k : Int) : SameL m [p, q] [p, plusV q k p] := by
  have hT : Len m [p, q] := fun r hr => by simp at hr; rcases hr with rfl | rfl <;> assumption
  have := same_add (T := [p, q]) hT (i := 1) (j := 0) (by simp) (by simp) (by simp) k
  simpa using this
structure Lag (m : Nat) (p q p' q' : List Int) : Prop where
  lp : p'.length = m
  lq : q'.length = m
  same : SameL m [p, q] [p', q']
  le : nm p' ≤ nm q'
  half : (2 * dot p' q').natAbs ≤ (nm p').natAbs
  det : dd p' q' = dd p q
  n1 : nm p' ≤ nm p
  n2 : nm q' ≤ nm q
theorem twoGo_ok {m : Nat} : ∀ (k : Nat) {p q : List Int}, p.length = m → q.length = m → nm p ≤ nm q → 0 < dd p q → (nm p).toNat ≤ k → ∃ p' q', twoGo k p q = [p', q'] ∧ Lag m p q p' q'
  | 0, p, q, hp, hq, hl, hd, hk => by
    have := (pos_of_dd hd).1
    omega
  | k + 1, p, q, hp, hq, hl, hd, hk => by
    have pos := (pos_of_dd hd).1
    have lpq : p.length = q.length := by omega
    have ls := step_len lpq
    have le := step_le lpq pos
    have half := step_half lpq pos
    have det := step_dd lpq
    have same : SameL m [p, q] [p, stepV p q] := same2_add m hp hq _
    unfold twoGo
    by_cases e : nm p ≤ nm (stepV p q)
    · rw [if_pos e]
      exact ⟨p, stepV p q, rfl, hp, by omega, same, e, half, det, Int.le_refl _, le⟩
    · rw [if_neg e]
      have hd2 : 0 < dd (stepV p q) p := by rw [dd_comm, det]; exact hd
      have n0 := nm_nn (stepV p q)
      obtain ⟨p', q', e1, L⟩ := twoGo_ok k (p := stepV p q) (q := p) (by omega) hp (by omega) hd2 (by omega)
      refine ⟨p', q', e1, L.lp, L.lq, ?_, L.le, L.half, by rw [L.det, dd_comm, det], by have := L.n1; omega, by have := L.n2; omega⟩
      exact (same.trans (same2_swap m hp (by omega))).trans L.same
/-- two vectors of the same grid that are as short as possible -/
def twoR (R : List (List Int)) : List (List Int) := match byLen R with
  | [p, q] => twoGo (nm p).toNat p q
  | _ => R
theorem perm2 {α : Type} {l : List α} {p q : α} (h : l.Perm [p, q]) : l = [p, q] ∨ l = [q, p] := by
  obtain ⟨a, b, rfl⟩ := len2 (h.length_eq)
  have ha : a = p ∨ a = q := by have := h.subset (List.mem_cons_self (a := a)); simpa using this
  rcases ha with rfl | rfl
  · have := (List.perm_cons a).mp h
    have : b = q := by simpa using this
    exact .inl (by rw [this])
  · have h2 := (List.perm_cons a).mp (h.trans (List.Perm.swap a p []))
    have : b = p := by simpa using h2
    exact .inr (by rw [this])
theorem twoR_ok {m : Nat} {p q : List Int} (hp : p.length = m) (hq : q.length = m) (hd : 0 < dd p q) (hs : nm p ≤ nm q) : ∃ p' q', twoR [p, q] = [p', q'] ∧ Lag m p q p' q' := by
  have h1 := perm2 (byLen_perm [p, q])
  have h2 := byLen_sorted [p, q]
  unfold twoR
  rcases h1 with h | h
  · rw [h]
    exact twoGo_ok _ hp hq hs hd (Nat.le_refl _)
  · rw [h] at h2 ⊢
    have h3 : nm q ≤ nm p := by simpa using h2
    obtain ⟨p', q', e, L⟩ := twoGo_ok _ hq hp h3 (by rw [dd_comm]; exact hd) (Nat.le_refl _)
    exact ⟨p', q', e, L.lp, L.lq, (same2_swap m hp hq).trans L.same, L.le, L.half, by rw [L.det, dd_comm], by have := L.n1; omega, by have := L.n2; omega⟩
/-! #### MP -/
/-! Short vectors: three vectors made short. -/
def combV (v : List Int) (s : Int) (p : List Int) (t : Int) (q : List Int) : List Int := plusV (plusV v s p) t q
theorem comb_len {v p q : List Int} {m : Nat} (hv : v.length = m) (hp : p.length = m) (hq : q.length = m) (s t : Int) : (combV v s p t q).length = m := by
  unfold combV
  have h1 : (plusV v s p).length = m := by rw [plus_len (by omega)]; exact hv
  rw [plus_len (by omega)]; exact h1
theorem gt_comb {v p q : List Int} {m : Nat} (hv : v.length = m) (hp : p.length = m) (hq : q.length = m) (s t : Int) (i : Nat) : gt (combV v s p t q) i = gt v i + s * gt p i + t * gt q i := by
  unfold combV
  have h1 : (plusV v s p).length = m := by rw [plus_len (by omega)]; exact hv
  rw [gt_plus (by omega), gt_plus (by omega)]
theorem comb_comb {v p q : List Int} {m : Nat} (hv : v.length = m) (hp : p.length = m) (hq : q.length = m) (x y i j : Int) : combV (combV v x p y q) i p j q = combV v (x + i) p (y + j) q := by
  have h1 := comb_len hv hp hq x y
  refine ext_gt (by rw [comb_len h1 hp hq, comb_len hv hp hq]) fun k _ => ?_
  rw [gt_comb h1 hp hq, gt_comb hv hp hq, gt_comb hv hp hq]
  grind
theorem nm_comb {v p q : List Int} {m : Nat} (hv : v.length = m) (hp : p.length = m) (hq : q.length = m) (s t : Int) : nm (combV v s p t q) = fq3 (nm p) (nm q) (nm v) (dot p q) (dot v p) (dot v q) s t 1 := by
  unfold combV
  have h1 : (plusV v s p).length = m := by rw [plus_len (by omega)]; exact hv
  rw [nm_plus _ (by omega), nm_plus _ (by omega), dot_plusl _ (by omega)]
  unfold fq3
  grind
def oneSt : List Int := [-2, -1, 0, 1, 2]
def steps25 : List (Int × Int) := oneSt.flatMap fun a => oneSt.map fun b => (a, b)
theorem mem_st {i : Int} (h1 : -2 ≤ i) (h2 : i ≤ 2) : i ∈ oneSt := by
  have : i = -2 ∨ i = -1 ∨ i = 0 ∨ i = 1 ∨ i = 2 := by omega
  rcases this with rfl | rfl | rfl | rfl | rfl <;> decide
theorem mem_steps {i j : Int} (h1 : -2 ≤ i) (h2 : i ≤ 2) (h3 : -2 ≤ j) (h4 : j ≤ 2) : (i, j) ∈ steps25 := by
  unfold steps25
  exact List.mem_flatMap.mpr ⟨i, mem_st h1 h2, List.mem_map.mpr ⟨j, mem_st h3 h4, rfl⟩⟩
/-- the middle -/
def midV (p q v : List Int) : List Int :=
  combV v (-nrst (dot v p * nm q - dot v q * dot p q) (nm p * nm q - dot p q * dot p q)) p (-nrst (dot v q * nm p - dot v p * dot p q) (nm p * nm q - dot p q * dot p q)) q
def triesV (p q v : List Int) : List (List Int) := steps25.map fun s => combV (midV p q v) s.1 p s.2 q
def closerV (p q v : List Int) : List Int := (byLen (triesV p q v)).headD v
theorem byLen_head {R : List (List Int)} {u : List Int} (hu : u ∈ R) (v : List Int) : (byLen R).headD v ∈ R ∧ nm ((byLen R).headD v) ≤ nm u := by
  have hp := byLen_perm R
  have hs := byLen_sorted R
  cases e : byLen R with
  | nil => rw [e] at hp; have := hp.symm.subset hu; simp at this
  | cons h tl =>
    rw [e] at hp hs
    refine ⟨hp.subset (by simp), ?_⟩
    have hm : u ∈ h :: tl := hp.symm.subset hu
    rcases List.mem_cons.mp hm with rfl | hm
    · exact Int.le_refl _
    · exact (List.pairwise_cons.mp hs).1 u hm
theorem closer_ok {m : Nat} {p q v : List Int} (hp : p.length = m) (hq : q.length = m) (hv : v.length = m) (pos : 0 < nm p) (le : nm p ≤ nm q) (half : (2 * dot p q).natAbs ≤ (nm p).natAbs) :
    (∃ s t, closerV p q v = combV v s p t q) ∧ ∀ s t, nm (closerV p q v) ≤ nm (combV v s p t q) := by
  have key : ∀ s t, ∃ u ∈ triesV p q v, nm u ≤ nm (combV v s p t q) := by
    intro s t
    obtain ⟨i, j, hi, hj, h⟩ := window (c := nm v) (e := dot v p) (f := dot v q) pos le half s t
    refine ⟨_, List.mem_map.mpr ⟨(i, j), mem_steps hi.1 hi.2 hj.1 hj.2, rfl⟩, ?_⟩
    rw [show midV p q v = combV v (-nrst (dot v p * nm q - dot v q * dot p q) (nm p * nm q - dot p q * dot p q)) p (-nrst (dot v q * nm p - dot v p * dot p q) (nm p * nm q - dot p q * dot p q)) q from rfl,
      comb_comb hv hp hq, nm_comb hv hp hq, nm_comb hv hp hq]
    exact h
  constructor
  · obtain ⟨u, hu, _⟩ := key 0 0
    have := (byLen_head hu v).1
    unfold closerV
    obtain ⟨s, _, e⟩ := List.mem_map.mp this
    refine ⟨-nrst (dot v p * nm q - dot v q * dot p q) (nm p * nm q - dot p q * dot p q) + s.1, -nrst (dot v q * nm p - dot v p * dot p q) (nm p * nm q - dot p q * dot p q) + s.2, ?_⟩
    rw [← e]
    exact comb_comb hv hp hq _ _ _ _
  · intro s t
    obtain ⟨u, hu, h⟩ := key s t
    have := (byLen_head hu v).2
    unfold closerV
    omega
/-! ### three vectors -/
def lastV (pair : List (List Int)) (v : List Int) : List Int := match pair with
  | [p, q] => if nm v ≤ nm (closerV p q v) then v else closerV p q v
  | _ => v
def redNext (R : List (List Int)) : List (List Int) := match R with
  | [p, q, r] => byLen (twoR [p, q] ++ [lastV (twoR [p, q]) r])
  | _ => R
def redGo : Nat → List (List Int) → List (List Int)
  | 0, R => R
  | k + 1, R => if (redNext R).map nm = R.map nm then redNext R else redGo k (redNext R)
/-- no vector of the grid with a coefficient at one of them is shorter than it -/
def Mk3 (p q r : List Int) : Prop := ∀ x y z : Int, (x ≠ 0 → nm p ≤ fq3 (nm p) (nm q) (nm r) (dot p q) (dot p r) (dot q r) x y z) ∧ (y ≠ 0 → nm q ≤ fq3 (nm p) (nm q) (nm r) (dot p q) (dot p r) (dot q r) x y z) ∧ (z ≠ 0 → nm r ≤ fq3 (nm p) (nm q) (nm r) (dot p q) (dot p r) (dot q r) x y z)
def Mk2 (p q : List Int) : Prop := ∀ x y : Int, (x ≠ 0 → nm p ≤ fq2 (nm p) (nm q) (dot p q) x y) ∧ (y ≠ 0 → nm q ≤ fq2 (nm p) (nm q) (dot p q) x y)
theorem Mk3.swap12 {p q r : List Int} (h : Mk3 p q r) : Mk3 q p r := fun x y z => by
  obtain ⟨h1, h2, h3⟩ := h y x z
  have e : fq3 (nm q) (nm p) (nm r) (dot q p) (dot q r) (dot p r) x y z = fq3 (nm p) (nm q) (nm r) (dot p q) (dot p r) (dot q r) y x z := by
    rw [dot_comm q p]; unfold fq3; grind
  rw [e]; exact ⟨h2, h1, h3⟩
theorem Mk3.swap23 {p q r : List Int} (h : Mk3 p q r) : Mk3 p r q := fun x y z => by
  obtain ⟨h1, h2, h3⟩ := h x z y
  have e : fq3 (nm p) (nm r) (nm q) (dot p r) (dot p q) (dot r q) x y z = fq3 (nm p) (nm q) (nm r) (dot p q) (dot p r) (dot q r) x z y := by
    rw [dot_comm r q]; unfold fq3; grind
  rw [e]; exact ⟨h1, h3, h2⟩
theorem Mk2.swap {p q : List Int} (h : Mk2 p q) : Mk2 q p := fun x y => by
  obtain ⟨h1, h2⟩ := h y x
  have e : fq2 (nm q) (nm p) (dot q p) x y = fq2 (nm p) (nm q) (dot p q) y x := by
    rw [dot_comm q p]; unfold fq2; grind
  rw [e]; exact ⟨h2, h1⟩
theorem mk2_of {p q : List Int} (pos : 0 < nm p) (le : nm p ≤ nm q) (half : (2 * dot p q).natAbs ≤ (nm p).natAbs) : Mk2 p q := fun x y => by
  refine ⟨fun hx => ?_, fun hy => fq2_last pos le half hy⟩
  by_cases hy : y = 0
  · subst hy; exact fq2_first pos hx
  · exact Int.le_trans le (fq2_last pos le half hy)
theorem mk3_of {p q r : List Int} (pos : 0 < nm p) (le : nm p ≤ nm q) (le2 : nm q ≤ nm r) (half : (2 * dot p q).natAbs ≤ (nm p).natAbs) (h : ∀ s t, nm r ≤ fq3 (nm p) (nm q) (nm r) (dot p q) (dot p r) (dot q r) s t 1) : Mk3 p q r := fun x y z => by
  by_cases hz : z = 0
  · subst hz
    have e : fq3 (nm p) (nm q) (nm r) (dot p q) (dot p r) (dot q r) x y 0 = fq2 (nm p) (nm q) (dot p q) x y := by unfold fq2 fq3; grind
    rw [e]
    obtain ⟨h1, h2⟩ := mk2_of pos le half x y
    exact ⟨h1, h2, fun h => absurd rfl h⟩
  · have k := fq3_last (x := x) (y := y) pos le le2 half h hz
    exact ⟨fun _ => by omega, fun _ => by omega, fun _ => k⟩
theorem perm3 {α : Type} {l : List α} {p q r : α} (h : l.Perm [p, q, r]) : l = [p, q, r] ∨ l = [p, r, q] ∨ l = [q, p, r] ∨ l = [q, r, p] ∨ l = [r, p, q] ∨ l = [r, q, p] := by
  obtain ⟨a, b, c, rfl⟩ := len3 (h.length_eq)
  have ha : a = p ∨ a = q ∨ a = r := by have := h.subset (List.mem_cons_self (a := a)); simpa using this
  rcases ha with rfl | rfl | rfl
  · rcases perm2 ((List.perm_cons a).mp h) with e | e <;> (rw [e]; simp)
  · have h2 := (List.perm_cons a).mp (h.trans (List.Perm.swap a p [r]))
    rcases perm2 h2 with e | e <;> (rw [e]; simp)
  · have h3 : [p, q, a].Perm [a, p, q] := ((List.Perm.swap a q []).cons p).trans (List.Perm.swap a p [q])
    have h2 := (List.perm_cons a).mp (h.trans h3)
    rcases perm2 h2 with e | e <;> (rw [e]; simp)
theorem Mk3.perm {p q r a b c : List Int} (h : Mk3 p q r) (hp : [a, b, c].Perm [p, q, r]) : Mk3 a b c := by
  rcases perm3 hp with e | e | e | e | e | e <;> cases e
  · exact h
  · exact h.swap23
  · exact h.swap12
  · exact h.swap12.swap23
  · exact h.swap23.swap12
  · exact h.swap12.swap23.swap12
/-- a short basis, by its products -/
def Red : List (List Int) → Prop
  | [p] => 0 < nm p
  | [p, q] => nm p ≤ nm q ∧ 0 < nm p ∧ Mk2 p q
  | [p, q, r] => nm p ≤ nm q ∧ nm q ≤ nm r ∧ 0 < nm p ∧ Mk3 p q r
  | _ => False
theorem lat_perm {m : Nat} {R T : List (List Int)} (hR : Len m R) (hp : T.Perm R) : SameL m R T := by
  have hT : Len m T := fun r hr => hR r (hp.subset hr)
  exact SameL.of hR hT (fun v hv => Lat.of_mem (hp.symm.subset hv) (hR v hv)) (fun v hv => Lat.of_mem (hp.subset hv) (hT v hv))
theorem lenm3 {m : Nat} {p q r : List Int} (hp : p.length = m) (hq : q.length = m) (hr : r.length = m) : Len m [p, q, r] := fun v hv => by simp at hv; rcases hv with rfl | rfl | rfl <;> assumption
theorem lenm2 {m : Nat} {p q : List Int} (hp : p.length = m) (hq : q.length = m) : Len m [p, q] := fun v hv => by simp at hv; rcases hv with rfl | rfl <;> assumption
theorem gram3 (a b c d e f g h i : Int) : g3 (nm [a, b, c]) (nm [d, e, f]) (nm [g, h, i]) (dot [a, b, c] [d, e, f]) (dot [a, b, c] [g, h, i]) (dot [d, e, f] [g, h, i]) = detL [[a, b, c], [d, e, f], [g, h, i]] * detL [[a, b, c], [d, e, f], [g, h, i]] := by
  simp only [nm, dot_cons, dot_nil, detL, g3]
  grind
theorem dd3 (a b c d e f : Int) : dd [a, b, c] [d, e, f] = (a * e - b * d) * (a * e - b * d) + (a * f - c * d) * (a * f - c * d) + (b * f - c * e) * (b * f - c * e) := by
  simp only [dd, nm, dot_cons, dot_nil]
  grind
theorem dd2 (a b c d : Int) : dd [a, b] [c, d] = detL [[a, b], [c, d]] * detL [[a, b], [c, d]] := by
  simp only [dd, nm, dot_cons, dot_nil, detL]
  grind
theorem sq_zero {x : Int} (h : x * x ≤ 0) : x = 0 := by
  rcases Int.lt_trichotomy x 0 with q | q | q
  · have := sq_pos (x := x) (by omega); omega
  · exact q
  · have := sq_pos (x := x) (by omega); omega
theorem dd_pos3 {p q r : List Int} (hp : p.length = 3) (hq : q.length = 3) (hr : r.length = 3) (hd : detL [p, q, r] ≠ 0) : 0 < dd p q := by
  obtain ⟨a, b, c, rfl⟩ := len3 hp
  obtain ⟨d, e, f, rfl⟩ := len3 hq
  obtain ⟨g, h, i, rfl⟩ := len3 hr
  rw [dd3]
  have s1 := sq_nn (a * e - b * d)
  have s2 := sq_nn (a * f - c * d)
  have s3 := sq_nn (b * f - c * e)
  rcases Int.lt_or_le 0 ((a * e - b * d) * (a * e - b * d) + (a * f - c * d) * (a * f - c * d) + (b * f - c * e) * (b * f - c * e)) with k | k
  · exact k
  · exfalso
    have z1 := sq_zero (x := a * e - b * d) (by omega)
    have z2 := sq_zero (x := a * f - c * d) (by omega)
    have z3 := sq_zero (x := b * f - c * e) (by omega)
    apply hd
    simp only [detL]
    grind
theorem same3_pair {m : Nat} {p q r p' q' : List Int} (hp : p.length = m) (hq : q.length = m) (hr : r.length = m) (hp' : p'.length = m) (hq' : q'.length = m) (h : SameL m [p, q] [p', q']) : SameL m [p, q, r] [p', q', r] := by
  have l1 : Len m [p, q, r] := fun v hv => by simp at hv; rcases hv with rfl | rfl | rfl <;> assumption
  have l2 : Len m [p', q', r] := fun v hv => by simp at hv; rcases hv with rfl | rfl | rfl <;> assumption
  have up : ∀ v, Lat m [p', q'] v → Lat m [p', q', r] v := fun v hv => hv.mono l2 fun u hu => Lat.of_mem (by simp at hu ⊢; rcases hu with rfl | rfl <;> simp) (by simp at hu; rcases hu with rfl | rfl <;> assumption)
  have up2 : ∀ v, Lat m [p, q] v → Lat m [p, q, r] v := fun v hv => hv.mono l1 fun u hu => Lat.of_mem (by simp at hu ⊢; rcases hu with rfl | rfl <;> simp) (by simp at hu; rcases hu with rfl | rfl <;> assumption)
  refine SameL.of l1 l2 (fun v hv => ?_) (fun v hv => ?_)
  · simp at hv
    rcases hv with rfl | rfl | rfl
    · exact up _ ((h _).mp (Lat.of_mem (by simp) hp))
    · exact up _ ((h _).mp (Lat.of_mem (by simp) hq))
    · exact Lat.of_mem (by simp) hr
  · simp at hv
    rcases hv with rfl | rfl | rfl
    · exact up2 _ ((h _).mpr (Lat.of_mem (by simp) hp'))
    · exact up2 _ ((h _).mpr (Lat.of_mem (by simp) hq'))
    · exact Lat.of_mem (by simp) hr
theorem same3_last {m : Nat} {p q r : List Int} (hp : p.length = m) (hq : q.length = m) (hr : r.length = m) (s t : Int) : SameL m [p, q, r] [p, q, combV r s p t q] := by
  have l1 : Len m [p, q, r] := fun v hv => by simp at hv; rcases hv with rfl | rfl | rfl <;> assumption
  have h1 := same_add (T := [p, q, r]) l1 (i := 2) (j := 0) (by simp) (by simp) (by simp) s
  have e1 : ([p, q, r].set 2 (plusV [p, q, r][2] s [p, q, r][0])) = [p, q, plusV r s p] := by simp
  rw [e1] at h1
  have lr : (plusV r s p).length = m := by rw [plus_len (by omega)]; exact hr
  have l2 : Len m [p, q, plusV r s p] := fun v hv => by simp at hv; rcases hv with rfl | rfl | rfl <;> assumption
  have h2 := same_add (T := [p, q, plusV r s p]) l2 (i := 2) (j := 1) (by simp) (by simp) (by simp) t
  have e2 : ([p, q, plusV r s p].set 2 (plusV [p, q, plusV r s p][2] t [p, q, plusV r s p][1])) = [p, q, combV r s p t q] := by simp [combV]
  rw [e2] at h2
  exact h1.trans h2
/-- one turn: what comes of it -/
structure Turn (p q r p' q' r' : List Int) : Prop where
  lag : Lag 3 p q p' q'
  lr : r'.length = 3
  pos : 0 < nm p'
  same : SameL 3 [p, q, r] [p', q', r']
  le : nm r' ≤ nm r
  fin : nm r' = nm r → ∀ s t, nm r' ≤ nm (combV r' s p' t q')
theorem turn_ok {p q r : List Int} (hp : p.length = 3) (hq : q.length = 3) (hr : r.length = 3) (hd : detL [p, q, r] ≠ 0) (h1 : nm p ≤ nm q) : ∃ p' q' r', redNext [p, q, r] = byLen [p', q', r'] ∧ Turn p q r p' q' r' := by
  have hdd := dd_pos3 hp hq hr hd
  obtain ⟨p', q', e, L⟩ := twoR_ok hp hq hdd h1
  have pos : 0 < nm p' := (pos_of_dd (by rw [L.det]; exact hdd)).1
  obtain ⟨⟨s, t, ec⟩, hc⟩ := closer_ok L.lp L.lq hr pos L.le L.half
  have same1 := same3_pair hp hq hr L.lp L.lq L.same
  by_cases hl : nm r ≤ nm (closerV p' q' r)
  · refine ⟨p', q', r, ?_, L, hr, pos, same1, Int.le_refl _, fun _ s t => Int.le_trans hl (hc s t)⟩
    show byLen (twoR [p, q] ++ [lastV (twoR [p, q]) r]) = _
    rw [e]
    show byLen ([p', q'] ++ [if nm r ≤ nm (closerV p' q' r) then r else closerV p' q' r]) = _
    rw [if_pos hl]; rfl
  · refine ⟨p', q', closerV p' q' r, ?_, L, ?_, pos, ?_, by omega, fun h => by omega⟩
    · show byLen (twoR [p, q] ++ [lastV (twoR [p, q]) r]) = _
      rw [e]
      show byLen ([p', q'] ++ [if nm r ≤ nm (closerV p' q' r) then r else closerV p' q' r]) = _
      rw [if_neg hl]; rfl
    · rw [ec]; exact comb_len hr L.lp L.lq s t
    · rw [ec]; exact same1.trans (same3_last L.lp L.lq hr s t)
/-- the sum of the lengths -/
def sumN (R : List (List Int)) : Int := (R.map nm).sum
theorem sum3 (p q r : List Int) : sumN [p, q, r] = nm p + nm q + nm r := by simp [sumN]; omega
theorem byLen3 {p q r : List Int} : ∃ a b c, byLen [p, q, r] = [a, b, c] ∧ [a, b, c].Perm [p, q, r] ∧ nm a ≤ nm b ∧ nm b ≤ nm c := by
  have h1 := byLen_perm [p, q, r]
  have h2 := byLen_sorted [p, q, r]
  obtain ⟨a, b, c, e⟩ := len3 (byLen_len [p, q, r])
  rw [e] at h1 h2
  refine ⟨a, b, c, e, h1, ?_, ?_⟩
  · exact (List.pairwise_cons.mp h2).1 b (by simp)
  · exact (List.pairwise_cons.mp (List.pairwise_cons.mp h2).2).1 c (by simp)
theorem perm_sum {a b c p q r : List Int} (h : [a, b, c].Perm [p, q, r]) : nm a + nm b + nm c = nm p + nm q + nm r := by
  rcases perm3 h with e | e | e | e | e | e <;> cases e <;> omega
theorem perm_nm {a b c p q r : List Int} (h : [a, b, c].Perm [p, q, r]) (h1 : nm a ≤ nm b) (h2 : nm b ≤ nm c) (h3 : nm p ≤ nm q) (h4 : nm q ≤ nm r) : nm a = nm p ∧ nm b = nm q ∧ nm c = nm r := by
  rcases perm3 h with e | e | e | e | e | e <;> cases e <;> omega
theorem det_of_same {n : Nat} {R T : List (List Int)} (hR : Sqr n R) (hT : Sqr n T) (h : SameL n R T) (hd : detL R ≠ 0) : detL T ≠ 0 := by
  have := det_same hR hT h
  omega
theorem len_perm3 {m : Nat} {a b c p q r : List Int} (h : [a, b, c].Perm [p, q, r]) (hp : p.length = m) (hq : q.length = m) (hr : r.length = m) : a.length = m ∧ b.length = m ∧ c.length = m := by
  rcases perm3 h with e | e | e | e | e | e <;> cases e <;> simp [*]
theorem sqr3 {p q r : List Int} (hp : p.length = 3) (hq : q.length = 3) (hr : r.length = 3) : Sqr 3 [p, q, r] := ⟨by omega, by omega, rfl, fun v hv => by simp at hv; rcases hv with rfl | rfl | rfl <;> assumption⟩
theorem redGo_ok : ∀ (k : Nat) {p q r : List Int}, p.length = 3 → q.length = 3 → r.length = 3 → detL [p, q, r] ≠ 0 → nm p ≤ nm q → nm q ≤ nm r → (nm p + nm q + nm r).toNat < k →
    ∃ a b c, redGo k [p, q, r] = [a, b, c] ∧ a.length = 3 ∧ b.length = 3 ∧ c.length = 3 ∧ SameL 3 [p, q, r] [a, b, c] ∧ Red [a, b, c] ∧ nm a + nm b + nm c ≤ nm p + nm q + nm r
  | 0, _, _, _, _, _, _, _, _, _, h => by omega
  | k + 1, p, q, r, hp, hq, hr, hd, h1, h2, hk => by
    obtain ⟨p', q', r', e, T⟩ := turn_ok hp hq hr hd h1
    obtain ⟨a, b, c, e2, perm, s1, s2⟩ := byLen3 (p := p') (q := q') (r := r')
    obtain ⟨la, lb, lc⟩ := len_perm3 perm T.lag.lp T.lag.lq T.lr
    have same : SameL 3 [p, q, r] [a, b, c] := T.same.trans (lat_perm (lenm3 T.lag.lp T.lag.lq T.lr) perm)
    have ps := perm_sum perm
    have n1 := T.lag.n1
    have n2 := T.lag.n2
    have n3 := T.le
    unfold redGo
    rw [e, e2]
    by_cases eq : ([a, b, c].map nm) = [p, q, r].map nm
    · rw [if_pos eq]
      simp only [List.map_cons, List.map_nil, List.cons.injEq, and_true] at eq
      obtain ⟨q1, fq2, fq3⟩ := eq
      have z1 : nm p' = nm p := by omega
      have z2 : nm q' = nm q := by omega
      have z3 : nm r' = nm r := by omega
      have fin := T.fin z3
      refine ⟨a, b, c, rfl, la, lb, lc, same, ⟨s1, s2, ?_, ?_⟩, by omega⟩
      · have := T.pos; omega
      · refine Mk3.perm (mk3_of T.pos T.lag.le (by omega) T.lag.half fun s t => ?_) perm
        have := fin s t
        rw [nm_comb T.lr T.lag.lp T.lag.lq, dot_comm r' p', dot_comm r' q'] at this
        exact this
    · rw [if_neg eq]
      have lt : nm a + nm b + nm c < nm p + nm q + nm r := by
        rcases Int.lt_or_le (nm a + nm b + nm c) (nm p + nm q + nm r) with k | k
        · exact k
        · exfalso
          apply eq
          obtain ⟨y1, y2, y3⟩ := perm_nm perm s1 s2 T.lag.le (by omega)
          simp only [List.map_cons, List.map_nil, List.cons.injEq, and_true]
          exact ⟨by omega, by omega, by omega⟩
      have nn1 := nm_nn a
      have nn2 := nm_nn b
      have nn3 := nm_nn c
      have da := det_of_same (sqr3 hp hq hr) (sqr3 la lb lc) same hd
      obtain ⟨a', b', c', f1, f2, f3, f4, f5, f6, f7⟩ := redGo_ok k la lb lc da s1 s2 (by omega)
      exact ⟨a', b', c', f1, f2, f3, f4, same.trans f5, f6, by omega⟩
/-- the program's short basis -/
def redB (R : List (List Int)) : List (List Int) := match byLen R with
  | [p] => [p]
  | [p, q] => byLen (twoR [p, q])
  | T => redGo (sumN T).toNat.succ T
theorem redB_ok {n : Nat} {R : List (List Int)} (hR : Sqr n R) (hd : detL R ≠ 0) : Sqr n (redB R) ∧ SameL n R (redB R) ∧ Red (redB R) ∧ sumN (redB R) ≤ sumN R := by
  rcases hR.cases with ⟨rfl, a, rfl⟩ | ⟨rfl, a, b, c, d, rfl⟩ | ⟨rfl, a, b, c, d, e, f, g, h, i, rfl⟩
  · have e : byLen [[a]] = [[a]] := by simp [byLen]
    unfold redB
    rw [e]
    refine ⟨hR, SameL.refl _ _, ?_, Int.le_refl _⟩
    show 0 < nm [a]
    have : nm [a] = a * a := by simp [nm, dot]
    rw [this]
    exact sq_pos (fun z => hd (by simpa [detL] using z))
  · have hp : ([a, b] : List Int).length = 2 := rfl
    have hq : ([c, d] : List Int).length = 2 := rfl
    have ddp : 0 < dd [a, b] [c, d] := by rw [dd2]; exact sq_pos hd
    have key : ∀ p q : List Int, p.length = 2 → q.length = 2 → 0 < dd p q → nm p ≤ nm q → ∃ T, byLen (twoR [p, q]) = T ∧ Sqr 2 T ∧ SameL 2 [p, q] T ∧ Red T ∧ sumN T ≤ nm p + nm q := by
      intro p q hp hq hdd hl
      obtain ⟨p', q', e, L⟩ := twoR_ok hp hq hdd hl
      rw [e]
      have pos : 0 < nm p' := (pos_of_dd (by rw [L.det]; exact hdd)).1
      have m2 := mk2_of pos L.le L.half
      have n1 := L.n1
      have n2 := L.n2
      have le := L.le
      have srt := byLen_sorted [p', q']
      rcases perm2 (byLen_perm [p', q']) with e2 | e2
      · rw [e2]
        exact ⟨_, rfl, ⟨by omega, by omega, rfl, lenm2 L.lp L.lq⟩, L.same, ⟨L.le, pos, m2⟩, by simp [sumN]; omega⟩
      · rw [e2] at srt ⊢
        have s : nm q' ≤ nm p' := by simpa using srt
        exact ⟨_, rfl, ⟨by omega, by omega, rfl, lenm2 L.lq L.lp⟩, L.same.trans (same2_swap 2 L.lp L.lq), ⟨s, by omega, m2.swap⟩, by simp [sumN]; omega⟩
    have srt := byLen_sorted [[a, b], [c, d]]
    have es : sumN [[a, b], [c, d]] = nm [a, b] + nm [c, d] := by simp [sumN]
    rw [es]
    unfold redB
    rcases perm2 (byLen_perm [[a, b], [c, d]]) with e2 | e2
    · rw [e2] at srt ⊢
      obtain ⟨T, e3, h1, h2, h3, h4⟩ := key _ _ hp hq ddp (by simpa using srt)
      show Sqr 2 (byLen (twoR [[a, b], [c, d]])) ∧ SameL 2 _ (byLen (twoR [[a, b], [c, d]])) ∧ Red (byLen (twoR [[a, b], [c, d]])) ∧ sumN (byLen (twoR [[a, b], [c, d]])) ≤ _
      rw [e3]
      exact ⟨h1, h2, h3, h4⟩
    · rw [e2] at srt ⊢
      obtain ⟨T, e3, h1, h2, h3, h4⟩ := key _ _ hq hp (by rw [dd_comm]; exact ddp) (by simpa using srt)
      show Sqr 2 (byLen (twoR [[c, d], [a, b]])) ∧ SameL 2 _ (byLen (twoR [[c, d], [a, b]])) ∧ Red (byLen (twoR [[c, d], [a, b]])) ∧ sumN (byLen (twoR [[c, d], [a, b]])) ≤ _
      rw [e3]
      exact ⟨h1, (same2_swap 2 hp hq).trans h2, h3, by omega⟩
  · obtain ⟨p, q, r, e2, perm, s1, s2⟩ := byLen3 (p := [a, b, c]) (q := [d, e, f]) (r := [g, h, i])
    obtain ⟨lp, lq, lr⟩ := len_perm3 (m := 3) perm rfl rfl rfl
    have same : SameL 3 [[a, b, c], [d, e, f], [g, h, i]] [p, q, r] := lat_perm hR.2.2.2 perm
    have hd2 := det_of_same hR (sqr3 lp lq lr) same hd
    have ps := perm_sum perm
    unfold redB
    rw [e2]
    show Sqr 3 (redGo (sumN [p, q, r]).toNat.succ [p, q, r]) ∧ SameL 3 _ (redGo (sumN [p, q, r]).toNat.succ [p, q, r]) ∧ Red (redGo (sumN [p, q, r]).toNat.succ [p, q, r]) ∧ sumN (redGo (sumN [p, q, r]).toNat.succ [p, q, r]) ≤ _
    obtain ⟨x, y, z, f1, f2, f3, f4, f5, f6, f7⟩ := redGo_ok (sumN [p, q, r]).toNat.succ lp lq lr hd2 s1 s2 (by rw [sum3]; omega)
    rw [f1]
    exact ⟨sqr3 f2 f3 f4, same.trans f5, f6, by rw [sum3, sum3]; omega⟩
/-! #### FY -/
/-! ### sorted, on vectors -/
/-! ### lengths -/
/-! ### two vectors -/
def BB : Int := 17592186044416
theorem ent_sm {v : List Int} (h : nm v ≤ BB) : ∀ x ∈ v, Sm 23 x := fun x hx => by
  have h1 := ent_nm hx
  unfold BB at h
  unfold Sm
  rcases Nat.lt_or_ge x.natAbs (2 ^ 23) with q | q
  · exact q
  · exfalso
    have h2 : 2 ^ 23 * 2 ^ 23 ≤ x.natAbs * x.natAbs := Nat.mul_le_mul q q
    have h3 : (((2 ^ 23 * 2 ^ 23 : Nat)) : Int) ≤ ((x.natAbs * x.natAbs : Nat) : Int) := Int.ofNat_le.mpr h2
    rw [Int.natAbs_mul_self] at h3
    have h4 : ((2 ^ 23 * 2 ^ 23 : Nat) : Int) = 70368744177664 := by decide
    omega
theorem sm_nrst {j k : Nat} {t b : Int} (hb : 0 < b) (st : Sm j t) (sb : Sm k b) : Sm (max j k + 8) (nrst t b) := by
  unfold nrst
  have h := fd_le2 (2 * t + b) (b := 2 * b) (by omega)
  have s1 := st.mono (Nat.le_max_left j k)
  have s2 := sb.mono (Nat.le_max_right j k)
  unfold Sm at *
  have e : 2 ^ (max j k + 8) = 256 * 2 ^ max j k := by rw [Nat.pow_add, Nat.mul_comm]
  rw [e]
  omega
/-! ### comprehensions with two fors -/
/-! ### one vector by two -/
theorem VecOk.plus {j k l n : Nat} {u v : List Int} {c : Int} (hu : VecOk j n u) (sc : Sm k c) (hv : VecOk l n v) : VecOk (max j (k + l) + 1) n (plusV u c v) := by
  refine ⟨by rw [plus_len (by rw [hu.1, hv.1])]; exact hu.1, fun x hx => ?_⟩
  obtain ⟨a, ha, b, hb, rfl⟩ := mem_plus hx
  exact (hu.2 a ha).add (sc.mul (hv.2 b hb))
/-! ### the short basis -/
theorem sum_ent {R : List (List Int)} : ∀ v ∈ R, nm v ≤ sumN R := by
  induction R with
  | nil => intro v hv; simp at hv
  | cons a R ih =>
    intro v hv
    have h1 : ∀ R : List (List Int), 0 ≤ sumN R := by
      intro R
      induction R with
      | nil => simp [sumN]
      | cons b R ih => have := nm_nn b; simp [sumN] at ih ⊢; omega
    have h2 := nm_nn a
    have h3 := h1 R
    have e : sumN (a :: R) = nm a + sumN R := by simp [sumN]
    rcases List.mem_cons.mp hv with rfl | hv
    · omega
    · have := ih v hv; omega
theorem bas_sum {R : List (List Int)} (h : Bas R) : sumN R ≤ BB := by
  have h3 := h.2.1
  have hv : ∀ v ∈ R, nm v ≤ 3000000000000 := fun v hv => by
    obtain ⟨l, b⟩ := h.2.2.1 v hv
    have e : ∀ x ∈ v, x * x ≤ 1000000000000 := fun x hx => by
      have hb := b x hx
      have := sq_le (x := x) (B := 1000000) (by omega) (by omega)
      omega
    rcases lenC l h.1 h3 with ⟨a, rfl, _⟩ | ⟨a, c, rfl, _⟩ | ⟨a, c, d, rfl, _⟩
    · rw [mem1] at e; unfold nm; rw [dot_cons, dot_nil]; omega
    · rw [mem2] at e; unfold nm; rw [dot_cons, dot_cons, dot_nil]; omega
    · rw [mem3] at e; unfold nm; rw [dot_cons, dot_cons, dot_cons, dot_nil]; omega
  unfold BB
  rcases lenC (l := R) rfl h.1 h3 with ⟨a, e, _⟩ | ⟨a, c, e, _⟩ | ⟨a, c, d, e, _⟩
  · rw [e] at hv ⊢; rw [mem1] at hv; simp [sumN]; omega
  · rw [e] at hv ⊢; rw [mem2] at hv; simp [sumN]; omega
  · rw [e] at hv ⊢; rw [mem3] at hv; simp [sumN]; omega
/-- the last of the least lengths -/
def lastN (R : List (List Int)) : Int := nm ((redB R).getLastD [])
/-! #### MQ -/
/-! Short vectors: the lengths of a short basis belong to the grid. -/
/-! #### FZ -/
/-! ### tuples of vectors of any size -/
def isRow (n : Int) : D → Bool
  | .tup es => decide ((es.length : Int) = n) && es.all isI
  | _ => false
def isAVD (n : Int) : D → Bool
  | .tup rs => decide ((rs.length : Int) = n) && rs.all (isRow n)
  | _ => false
theorem isRow_t (n : Int) (es : List D) : isRow n (.tup es) = (decide ((es.length : Int) = n) && es.all isI) := rfl
theorem isAVD_t (n : Int) (rs : List D) : isAVD n (.tup rs) = (decide ((rs.length : Int) = n) && rs.all (isRow n)) := rfl
def c_are_vectors : Ct := fun ds S Q _ => ∃ n d, ds = [.int n, d] ∧ okBasD d ∧ Q (.bl (isAVD n d)) S
/-- are_vectors -/
def N_are_vectors : List Str := ["n", "value", "row", "entry"]
def b_are_vectors : DB := (DB.cons (DS.iff (DT.bool (DW.cons (DT.not (DT.val (DE.isTuple (DE.var 1)))) (DW.one .Or (DT.cmp .NotEq (DE.len (DA.cons (DE.var 1) DA.nil)) (DE.var 0))))) (DB.cons (DS.ret (DE.con (.bl false)))
  DB.nil) DB.nil)
  (DB.cons (DS.for (DG.nm 2) (DI.seq (DE.var 1)) (DB.cons (DS.iff (DT.bool (DW.cons (DT.not (DT.val (DE.isTuple (DE.var 2)))) (DW.cons (DT.cmp .NotEq (DE.len (DA.cons (DE.var 2) DA.nil)) (DE.var 0)) (DW.one .Or (DT.not (DT.val (DE.all (DA.cons (DE.lst (DL.comp [("entry", 3)] (DG.nm 3) (DI.seq (DE.var 2)) DF.no (DE.call "is_integer" c_is_integer (DA.cons (DE.var 3) DA.nil)))) DA.nil)))))))) (DB.cons (DS.ret (DE.con (.bl false)))
  DB.nil) DB.nil)
  DB.nil))
  (DB.cons (DS.ret (DE.con (.bl true)))
  DB.nil)))
theorem w_are_vectors {ds : List D} {S : Sto} {Q : QD} {X : XD} (h : c_are_vectors ds S Q X) : ctOf N_are_vectors.length b_are_vectors ds S Q X := by
  obtain ⟨n, d, rfl, hd, h⟩ := h
  unfold b_are_vectors N_are_vectors
  cases d with
  | tup rs =>
    obtain ⟨hl, hr⟩ := hd
    walk_at "wpf"
    rw [isAVD_t] at h
    by_cases e : (rs.length : Int) = n
    · rw [if_neg (by simp [e])]
      refine forGo_inv (fun ds env T => ∃ (pre post : List D) (a2 a3 : Option D), rs = pre ++ post ∧ ds = post ∧ pre.all (isRow n) = true ∧ env = [some (.int n), some (.tup rs), a2, a3] ∧ T = S) ?_ ?_ _ _ _ ⟨[], rs, none, none, rfl, rfl, rfl, rfl, rfl⟩
      · rintro d1 ds1 env1 S1 ⟨pre, post, a2, a3, he, rfl, hp, rfl, rfl⟩
        refine ⟨trivial, _, rfl, fun nx hnx => ?_⟩
        have hm : d1 ∈ rs := by rw [he]; simp
        have hv := hr d1 hm
        have bad : isRow n d1 = false → Q (.bl false) S1 := fun hb => by
          have : (decide ((rs.length : Int) = n) && rs.all (isRow n)) = false := by
            rw [he, List.all_append, List.all_cons, hb]; simp
          rw [this] at h
          exact h
        have good : isRow n d1 = true → nx [some (.int n), some (.tup rs), some d1, a3] S1 := fun hg =>
          hnx _ _ ⟨pre ++ [d1], ds1, _, _, by rw [he]; simp, rfl, by rw [List.all_append, hp]; simp [hg], rfl, rfl⟩
        cases d1 with
        | tup es =>
          obtain ⟨el, eo⟩ := hv
          walk_at "wpf"
          by_cases e2 : (es.length : Int) = n
          · simp only [e2, decide_true, Bool.not_true, Bool.false_eq_true, if_false]
            refine ⟨szLe (by omega), compGo_allD (fun x => .bl (isI x)) es (fun x hx => ⟨_, rfl, fun Qd hq => ?_⟩) ?_⟩
            · walk_at "wpf"
              exact ⟨x, rfl, eo x hx, hq⟩
            have e3 : (es.map fun x => D.bl (isI x)) = (es.map isI).map .bl := by simp
            rw [e3]
            refine oAll_l _ _ _ ⟨_, rfl, ?_⟩
            have e4 : (es.map isI).all id = es.all isI := by rw [List.all_map]; rfl
            rw [e4]
            cases e5 : es.all isI with
            | true =>
              simp only [Bool.not_true, Bool.false_eq_true, if_false]
              exact good (by rw [isRow_t, e5]; simp [e2])
            | false =>
              simp only [Bool.not_false, if_true]
              exact bad (by rw [isRow_t, e5]; simp)
          · simp only [e2, decide_false, Bool.not_false, if_true]
            exact bad (by rw [isRow_t]; simp [e2])
        | _ =>
          first
          | (exfalso; simp [okVecD, okD] at hv; done)
          | (walk_at "wpf"; exact bad rfl)
      · rintro env1 S1 ⟨pre, post, a2, a3, he, rfl, hp, rfl, rfl⟩
        refine ⟨trivial, ?_⟩
        walk_at "wpf"
        rw [List.append_nil] at he
        have : (decide ((rs.length : Int) = n) && rs.all (isRow n)) = true := by rw [he, hp, ← he]; simp [e]
        rw [this] at h
        exact h
    · rw [if_pos (by simp [e])]
      have : (decide ((rs.length : Int) = n) && rs.all (isRow n)) = false := by simp [e]
      rw [this] at h
      exact h
  | _ =>
    first
    | (exfalso; simp [okBasD, okD] at hd; done)
    | (walk_at "wpf"; exact h)
/-- the rows of a value -/
def toM : D → List (List Int)
  | .tup rs => rs.map toV
  | _ => []
theorem toM_M (T : List (List Int)) : toM (.tup (T.map VE)) = T := by
  show (T.map VE).map toV = T
  rw [List.map_map]
  have : (toV ∘ VE) = id := by funext v; exact toV_V v
  rw [this]; simp
theorem isRow_inv {n : Int} {d : D} (h : isRow n d = true) : d = VE (toV d) ∧ ((toV d).length : Int) = n := by
  cases d with
  | tup es =>
    simp only [isRow, Bool.and_eq_true, decide_eq_true_eq, List.all_eq_true] at h
    refine ⟨?_, by show ((es.map toI).length : Int) = n; rw [List.length_map]; exact h.1⟩
    show D.tup es = .tup ((es.map toI).map .int)
    rw [List.map_map]
    congr 1
    have : es.map (D.int ∘ toI) = es.map id := List.map_congr_left fun x hx => by
      have := h.2 x hx
      cases x <;> simp [isI] at this <;> rfl
    rw [this]; simp
  | _ => simp [isRow] at h
theorem isAV_inv {n : Nat} {d : D} (h : isAVD n d = true) : d = .tup ((toM d).map VE) ∧ (toM d).length = n ∧ Len n (toM d) := by
  cases d with
  | tup rs =>
    simp only [isAVD, Bool.and_eq_true, decide_eq_true_eq, List.all_eq_true] at h
    refine ⟨?_, by show (rs.map toV).length = n; rw [List.length_map]; omega, fun r hr => ?_⟩
    · show D.tup rs = .tup ((rs.map toV).map VE)
      rw [List.map_map]
      congr 1
      have : rs.map (VE ∘ toV) = rs.map id := List.map_congr_left fun x hx => ((isRow_inv (h.2 x hx)).1).symm
      rw [this]; simp
    · obtain ⟨x, hx, rfl⟩ := List.mem_map.mp hr
      have := (isRow_inv (h.2 x hx)).2
      omega
  | _ => simp [isAVD] at h
theorem isRow_V (n : Int) (v : List Int) : isRow n (VE v) = decide ((v.length : Int) = n) := by
  simp only [isRow, VE_eq, List.length_map, List.all_map]
  have : (v.all (isI ∘ D.int)) = true := by rw [List.all_eq_true]; intro x _; rfl
  rw [this]; simp
theorem isAV_M (n : Nat) (T : List (List Int)) : isAVD n (.tup (T.map VE)) = true ↔ T.length = n ∧ Len n T := by
  rw [isAVD_t, List.length_map, List.all_map, Bool.and_eq_true, decide_eq_true_eq, List.all_eq_true]
  constructor
  · rintro ⟨h1, h2⟩
    exact ⟨by omega, fun r hr => by
      have := h2 r hr
      rw [Function.comp_apply, isRow_V, decide_eq_true_eq] at this
      omega⟩
  · rintro ⟨h1, h2⟩
    exact ⟨by omega, fun r hr => by
      rw [Function.comp_apply, isRow_V, decide_eq_true_eq, h2 r hr]⟩
/-- a value is another basis of the grid -/
def isOB (R : List (List Int)) (d : D) : Bool := isAVD R.length d && decide (Spans R (toM d))
/-- a value whose whole numbers are not great -/
def okOB (k : Nat) (d : D) : Prop := okBasD d ∧ ∀ v ∈ toM d, ∀ x ∈ v, Sm k x
/-! ### the functions of short bases -/
theorem red_vec {R : List (List Int)} (h : Bas R) : ∀ v ∈ redB R, VecOk 23 R.length v := fun v hv => by
  obtain ⟨h1, h2, h3, h4⟩ := redB_ok h.sqr h.2.2.2
  exact ⟨h1.2.2.2 v hv, ent_sm (Int.le_trans (sum_ent v hv) (Int.le_trans h4 (bas_sum h)))⟩
theorem redB_len {R : List (List Int)} (h : Bas R) : (redB R).length = R.length := (redB_ok h.sqr h.2.2.2).1.2.2.1
/-! #### MR -/
/-! All vectors up to a length: what the program lists. -/
/-- the whole root -/
def isq : Nat → Nat
  | 0 => 0
  | n + 1 => if (isq n + 1) * (isq n + 1) ≤ n + 1 then isq n + 1 else isq n
theorem isq_spec : ∀ n : Nat, isq n * isq n ≤ n ∧ n < (isq n + 1) * (isq n + 1)
  | 0 => by decide
  | n + 1 => by
    obtain ⟨h1, h2⟩ := isq_spec n
    unfold isq
    by_cases e : (isq n + 1) * (isq n + 1) ≤ n + 1
    · rw [if_pos e]
      refine ⟨e, ?_⟩
      have : (isq n + 1) * (isq n + 1) < (isq n + 1 + 1) * (isq n + 1 + 1) := Nat.mul_lt_mul_of_lt_of_le (by omega) (by omega) (by omega)
      omega
    · rw [if_neg e]
      exact ⟨by omega, by omega⟩
theorem sq_mono {a b : Nat} (h : a * a < (b + 1) * (b + 1)) : a ≤ b := by
  rcases Nat.lt_or_ge b a with q | q
  · exfalso
    have := Nat.mul_le_mul (show b + 1 ≤ a by omega) (show b + 1 ≤ a by omega)
    omega
  · exact q
theorem isq_le {n k : Nat} (h : n < (k + 1) * (k + 1)) : isq n ≤ k := sq_mono (by have := (isq_spec n).1; omega)
theorem le_isq {n : Nat} {x : Int} (h : x * x ≤ (n : Int)) : x.natAbs ≤ isq n := by
  apply sq_mono
  have h1 := (isq_spec n).2
  have h2 : ((x.natAbs * x.natAbs : Nat) : Int) ≤ (n : Int) := by rw [Int.natAbs_mul_self]; exact h
  have h3 : x.natAbs * x.natAbs ≤ n := Int.ofNat_le.mp h2
  omega
/-- from 0 outward -/
def outw (k : Nat) : List Int := 0 :: (List.range k).flatMap fun i => [((i : Nat) : Int) + 1, -(((i : Nat) : Int) + 1)]
theorem mem_outw {k : Nat} {x : Int} : x ∈ outw k ↔ x.natAbs ≤ k := by
  unfold outw
  rw [List.mem_cons, List.mem_flatMap]
  constructor
  · rintro (rfl | ⟨i, hi, hx⟩)
    · simp
    · have := List.mem_range.mp hi
      simp at hx
      rcases hx with rfl | rfl <;> omega
  · intro h
    by_cases e : x = 0
    · exact .inl e
    · refine .inr ⟨x.natAbs - 1, List.mem_range.mpr (by omega), ?_⟩
      simp
      omega
theorem outw_nodup (k : Nat) : (outw k).Nodup := by
  unfold outw
  rw [List.nodup_cons]
  constructor
  · intro h
    rw [List.mem_flatMap] at h
    obtain ⟨i, _, hx⟩ := h
    simp at hx
    omega
  · induction k with
    | zero => simp
    | succ k ih =>
      rw [List.range_succ, List.flatMap_append, List.nodup_append]
      refine ⟨ih, ?_, ?_⟩
      · simp; omega
      · intro a ha b hb
        rw [List.mem_flatMap] at ha
        obtain ⟨i, hi, hx⟩ := ha
        have := List.mem_range.mp hi
        simp at hx hb
        omega
/-! ### the table of products and its minors -/
def dropAt {α : Type} (p : Option Nat) (l : List α) : List α := match p with
  | none => l
  | some i => l.eraseIdx i
def minG (p : Option Nat) (G : List (List Int)) : List (List Int) := (dropAt p G).map (dropAt p)
def detM (G : List (List Int)) : Int := if G = [] then 1 else detL G
def gram (T : List (List Int)) : List (List Int) := T.map fun u => T.map fun v => dot u v
def bnd (T : List (List Int)) (L : Int) (i : Nat) : Nat := isq ((L * detM (minG (some i) (gram T))).fdiv (detM (gram T))).toNat
/-- where the innermost loop starts -/
def startV (T : List (List Int)) (c b : Int) : List Int :=
  let z := List.replicate T.length 0
  let s := if 2 < T.length then plusV z c (row T 2) else z
  if 1 < T.length then plusV s b (row T 1) else s
def rngC (T : List (List Int)) (L : Int) (i : Nat) : List Int := if i < T.length then outw (bnd T L i) else [0]
def inV (T : List (List Int)) (L : Int) (s : List Int) (As : List Int) : List (List Int) := (As.map fun a => plusV s a (row T 0)).filter fun v => decide (nm v ≤ L)
def listV (T : List (List Int)) (L : Int) : List (List Int) := (rngC T L 2).flatMap fun c => (rngC T L 1).flatMap fun b => inV T L (startV T c b) (rngC T L 0)
/-! #### GA -/
/-! ### roots -/
/-! ### minors of a table of products -/
/-! #### GB -/
/-! ### from 0 outward -/
/-! ### the bounds of the coefficients -/
/-- a basis whose table of products can be used -/
structure GOk (n : Nat) (T : List (List Int)) : Prop where
  n1 : 1 ≤ n
  n3 : n ≤ 3
  len : T.length = n
  vec : ∀ v ∈ T, VecOk 40 n v
  pos : 0 < detM (gram T)
  nn : ∀ i, i < n → 0 ≤ detM (minG (some i) (gram T))
/-! ### all vectors up to a length -/
theorem GOk.plus {n : Nat} {T : List (List Int)} (g : GOk n T) {i : Nat} (hi : i < n) : VecOk 40 n (row T i) := by
  rw [row_lt (by rw [g.len]; exact hi)]
  exact g.vec _ (List.getElem_mem _)
/-! #### MS -/
/-! All vectors up to a length: what is listed is all, and each once. -/
theorem crm_z {a b c d e f x y z : Int} (ha : 0 < a) (hD : 0 < a * b - d * d) : z * z * g3 a b c d e f ≤ fq3 a b c d e f x y z * (a * b - d * d) := by
  have m := fq3_mul' a b c d e f x y z
  have n := fq2_nn ha hD (x := (a * b - d * d) * x + z * (e * b - f * d)) (y := (a * b - d * d) * y + z * (f * a - e * d))
  generalize fq2 a b d ((a * b - d * d) * x + z * (e * b - f * d)) ((a * b - d * d) * y + z * (f * a - e * d)) = q at m n
  generalize fq3 a b c d e f x y z = p at m ⊢
  generalize g3 a b c d e f = g at m ⊢
  generalize a * b - d * d = DD at *
  refine le_of_mul hD ?_
  have e1 : DD * (z * z * g) = DD * (z * z) * g := by grind
  have e2 : DD * (p * DD) = DD * DD * p := by grind
  omega
theorem crm_x {a b c d e f x y z : Int} (hb : 0 < b) (hD : 0 < b * c - f * f) : x * x * g3 a b c d e f ≤ fq3 a b c d e f x y z * (b * c - f * f) := by
  have := crm_z (a := b) (b := c) (c := a) (d := f) (e := d) (f := e) (x := y) (y := z) (z := x) hb hD
  have e1 : g3 b c a f d e = g3 a b c d e f := by unfold g3; grind
  have e2 : fq3 b c a f d e y z x = fq3 a b c d e f x y z := by unfold fq3; grind
  rw [e1, e2] at this
  exact this
theorem crm_y {a b c d e f x y z : Int} (ha : 0 < a) (hD : 0 < a * c - e * e) : y * y * g3 a b c d e f ≤ fq3 a b c d e f x y z * (a * c - e * e) := by
  have := crm_z (a := a) (b := c) (c := b) (d := e) (e := d) (f := f) (x := x) (y := z) (z := y) ha hD
  have e1 : g3 a c b e d f = g3 a b c d e f := by unfold g3; grind
  have e2 : fq3 a c b e d f x z y = fq3 a b c d e f x y z := by unfold fq3; grind
  rw [e1, e2] at this
  exact this
/-- a coefficient is within the bound -/
theorem in_bnd {x W N L m : Int} (hW : 0 < W) (hm : 0 ≤ m) (h : x * x * W ≤ N * m) (hN : N ≤ L) : x ∈ outw (isq ((L * m).fdiv W).toNat) := by
  rw [mem_outw]
  apply le_isq
  have h1 : N * m ≤ L * m := Int.mul_le_mul_of_nonneg_right hN hm
  have h2 : x * x ≤ (L * m).fdiv W := by
    rw [Int.fdiv_eq_ediv_of_nonneg _ (by omega), Int.le_ediv_iff_mul_le hW]
    omega
  have := sq_nn x
  omega
/-! ### one, two and three vectors -/
theorem gram1 (p : List Int) : detM (gram [p]) = nm p := by simp [detM, gram, detL]
theorem gram2 (p q : List Int) : detM (gram [p, q]) = nm p * nm q - dot p q * dot q p := by simp [detM, gram, detL]
theorem gram3' (p q r : List Int) : detM (gram [p, q, r]) = g3 (nm p) (nm q) (nm r) (dot p q) (dot p r) (dot q r) := by
  simp only [detM, gram, List.map_cons, List.map_nil]
  rw [if_neg (by simp)]
  simp only [detL, g3]
  rw [dot_comm q p, dot_comm r p, dot_comm r q]
  grind
theorem min10 (p : List Int) : detM (minG (some 0) (gram [p])) = 1 := by simp [detM, gram, minG, dropAt]
theorem min20 (p q : List Int) : detM (minG (some 0) (gram [p, q])) = nm q := by simp [detM, gram, minG, dropAt, detL]
theorem min21 (p q : List Int) : detM (minG (some 1) (gram [p, q])) = nm p := by simp [detM, gram, minG, dropAt, detL]
theorem min30 (p q r : List Int) : detM (minG (some 0) (gram [p, q, r])) = nm q * nm r - dot q r * dot q r := by
  simp [detM, gram, minG, dropAt, detL, dot_comm r q]
theorem min31 (p q r : List Int) : detM (minG (some 1) (gram [p, q, r])) = nm p * nm r - dot p r * dot p r := by
  simp [detM, gram, minG, dropAt, detL, dot_comm r p]
theorem min32 (p q r : List Int) : detM (minG (some 2) (gram [p, q, r])) = nm p * nm q - dot p q * dot p q := by
  simp [detM, gram, minG, dropAt, detL, dot_comm q p]
theorem det3_rot {p q r : List Int} (hp : p.length = 3) (hq : q.length = 3) (hr : r.length = 3) : detL [q, r, p] = detL [p, q, r] ∧ detL [p, r, q] = -detL [p, q, r] := by
  obtain ⟨a, b, c, rfl⟩ := len3 hp
  obtain ⟨d, e, f, rfl⟩ := len3 hq
  obtain ⟨g, h, i, rfl⟩ := len3 hr
  simp only [detL]
  constructor <;> grind
/-- the numbers of a table of products of independent vectors -/
theorem gram_pos {n : Nat} {T : List (List Int)} (hT : Sqr n T) (hd : detL T ≠ 0) : 0 < detM (gram T) ∧ ∀ i, i < n → 0 < detM (minG (some i) (gram T)) := by
  rcases hT.cases with ⟨rfl, a, rfl⟩ | ⟨rfl, a, b, c, d, rfl⟩ | ⟨rfl, a, b, c, d, e, f, g, h, i, rfl⟩
  · have pos : 0 < nm [a] := by
      have : nm [a] = a * a := by simp [nm, dot]
      rw [this]; exact sq_pos hd
    refine ⟨by rw [gram1]; exact pos, fun i hi => ?_⟩
    have : i = 0 := by omega
    subst this
    rw [min10]; decide
  · have ddp : 0 < dd [a, b] [c, d] := by rw [dd2]; exact sq_pos hd
    have pq := pos_of_dd ddp
    refine ⟨by rw [gram2, dot_comm [c, d]]; exact ddp, fun i hi => ?_⟩
    have : i = 0 ∨ i = 1 := by omega
    rcases this with rfl | rfl
    · rw [min20]; exact pq.2
    · rw [min21]; exact pq.1
  · have r3 := det3_rot (p := [a, b, c]) (q := [d, e, f]) (r := [g, h, i]) rfl rfl rfl
    have d1 := dd_pos3 (p := [a, b, c]) (q := [d, e, f]) (r := [g, h, i]) rfl rfl rfl hd
    have d2 := dd_pos3 (p := [d, e, f]) (q := [g, h, i]) (r := [a, b, c]) rfl rfl rfl (by rw [r3.1]; exact hd)
    have d3 := dd_pos3 (p := [a, b, c]) (q := [g, h, i]) (r := [d, e, f]) rfl rfl rfl (by rw [r3.2]; omega)
    refine ⟨by rw [gram3', gram3]; exact sq_pos hd, fun k hk => ?_⟩
    have : k = 0 ∨ k = 1 ∨ k = 2 := by omega
    rcases this with rfl | rfl | rfl
    · rw [min30]; exact d2
    · rw [min31]; exact d3
    · rw [min32]; exact d1
theorem mem_list {T : List (List Int)} {L : Int} {v : List Int} : v ∈ listV T L ↔ ∃ c ∈ rngC T L 2, ∃ b ∈ rngC T L 1, ∃ a ∈ rngC T L 0, v = plusV (startV T c b) a (row T 0) ∧ nm v ≤ L := by
  unfold listV inV
  simp only [List.mem_flatMap, List.mem_filter, List.mem_map, decide_eq_true_eq]
  constructor
  · rintro ⟨c, hc, b, hb, ⟨a, ha, rfl⟩, hn⟩
    exact ⟨c, hc, b, hb, a, ha, rfl, hn⟩
  · rintro ⟨c, hc, b, hb, a, ha, rfl, hn⟩
    exact ⟨c, hc, b, hb, ⟨a, ha, rfl⟩, hn⟩
theorem lc1 (p : Int) (a b c : Int) : plusV (startV [[p]] c b) a (row [[p]] 0) = [a * p] := by simp [startV, plusV, row]
theorem lc2 (p1 p2 q1 q2 : Int) (a b c : Int) : plusV (startV [[p1, p2], [q1, q2]] c b) a (row [[p1, p2], [q1, q2]] 0) = [a * p1 + b * q1, a * p2 + b * q2] := by
  simp [startV, plusV, row, List.replicate]; omega
theorem lc3 (p1 p2 p3 q1 q2 q3 r1 r2 r3 : Int) (a b c : Int) : plusV (startV [[p1, p2, p3], [q1, q2, q3], [r1, r2, r3]] c b) a (row [[p1, p2, p3], [q1, q2, q3], [r1, r2, r3]] 0) = [a * p1 + b * q1 + c * r1, a * p2 + b * q2 + c * r2, a * p3 + b * q3 + c * r3] := by
  simp [startV, plusV, row, List.replicate]; omega
theorem listV_mem {n : Nat} {T : List (List Int)} (hT : Sqr n T) (hd : detL T ≠ 0) (L : Int) (v : List Int) : v ∈ listV T L ↔ Lat n T v ∧ nm v ≤ L := by
  obtain ⟨gp, mp⟩ := gram_pos hT hd
  rw [mem_list]
  rcases hT.cases with ⟨rfl, p, rfl⟩ | ⟨rfl, p1, p2, q1, q2, rfl⟩ | ⟨rfl, p1, p2, p3, q1, q2, q3, r1, r2, r3, rfl⟩
  · constructor
    · rintro ⟨c, _, b, _, a, _, rfl, hn⟩
      rw [lc1] at hn ⊢
      exact ⟨lat1.mpr ⟨a, rfl⟩, hn⟩
    · rintro ⟨hl, hn⟩
      obtain ⟨x, rfl⟩ := len1 (hl.len hT.2.2.2)
      obtain ⟨k, rfl⟩ := lat1.mp hl
      refine ⟨0, by simp [rngC], 0, by simp [rngC], k, ?_, by rw [lc1], hn⟩
      show k ∈ outw (bnd [[p]] L 0)
      unfold bnd
      have e : nm [k * p] = k * k * nm [p] := by simp [nm, dot]; grind
      rw [min10, gram1]
      rw [gram1] at gp
      exact in_bnd (N := nm [k * p]) gp (by omega) (by rw [e]; omega) hn
  · constructor
    · rintro ⟨c, _, b, _, a, _, rfl, hn⟩
      rw [lc2] at hn ⊢
      exact ⟨lat2.mpr ⟨a, b, rfl, rfl⟩, hn⟩
    · rintro ⟨hl, hn⟩
      obtain ⟨x, y, rfl⟩ := len2 (hl.len hT.2.2.2)
      obtain ⟨k, l, rfl, rfl⟩ := lat2.mp hl
      have m0 := mp 0 (by omega)
      have m1 := mp 1 (by omega)
      rw [min20] at m0
      rw [min21] at m1
      rw [gram2, dot_comm [q1, q2]] at gp
      have e : nm [k * p1 + l * q1, k * p2 + l * q2] = fq2 (nm [p1, p2]) (nm [q1, q2]) (dot [p1, p2] [q1, q2]) k l := by simp only [nm, dot_cons, dot_nil, fq2]; grind
      have e' : fq2 (nm [p1, p2]) (nm [q1, q2]) (dot [p1, p2] [q1, q2]) k l = fq2 (nm [q1, q2]) (nm [p1, p2]) (dot [p1, p2] [q1, q2]) l k := by unfold fq2; grind
      refine ⟨0, by simp [rngC], l, ?_, k, ?_, by rw [lc2], hn⟩
      · show l ∈ outw (bnd [[p1, p2], [q1, q2]] L 1)
        unfold bnd
        rw [min21, gram2, dot_comm [q1, q2]]
        refine in_bnd (N := nm [k * p1 + l * q1, k * p2 + l * q2]) gp (by omega) ?_ hn
        rw [e]
        have := fq2_mul (nm [p1, p2]) (nm [q1, q2]) (dot [p1, p2] [q1, q2]) k l
        have s := sq_nn (nm [p1, p2] * k + dot [p1, p2] [q1, q2] * l)
        rw [Int.mul_comm (fq2 _ _ _ _ _), this, Int.mul_comm (l * l)]
        omega
      · show k ∈ outw (bnd [[p1, p2], [q1, q2]] L 0)
        unfold bnd
        rw [min20, gram2, dot_comm [q1, q2]]
        refine in_bnd (N := nm [k * p1 + l * q1, k * p2 + l * q2]) gp (by omega) ?_ hn
        rw [e, e']
        have := fq2_mul (nm [q1, q2]) (nm [p1, p2]) (dot [p1, p2] [q1, q2]) l k
        have s := sq_nn (nm [q1, q2] * l + dot [p1, p2] [q1, q2] * k)
        rw [Int.mul_comm (fq2 _ _ _ _ _), this, Int.mul_comm (k * k), Int.mul_comm (nm [q1, q2]) (nm [p1, p2])]
        omega
  · constructor
    · rintro ⟨c, _, b, _, a, _, rfl, hn⟩
      rw [lc3] at hn ⊢
      exact ⟨lat3.mpr ⟨a, b, c, rfl, rfl, rfl⟩, hn⟩
    · rintro ⟨hl, hn⟩
      obtain ⟨x, y, z, rfl⟩ := len3 (hl.len hT.2.2.2)
      obtain ⟨k, l, m, rfl, rfl, rfl⟩ := lat3.mp hl
      have m0 := mp 0 (by omega)
      have m1 := mp 1 (by omega)
      have m2 := mp 2 (by omega)
      rw [min30] at m0
      rw [min31] at m1
      rw [min32] at m2
      rw [gram3'] at gp
      have pp := (pos_of_dd m2).1
      have qq := (pos_of_dd m2).2
      have e : nm [k * p1 + l * q1 + m * r1, k * p2 + l * q2 + m * r2, k * p3 + l * q3 + m * r3] = fq3 (nm [p1, p2, p3]) (nm [q1, q2, q3]) (nm [r1, r2, r3]) (dot [p1, p2, p3] [q1, q2, q3]) (dot [p1, p2, p3] [r1, r2, r3]) (dot [q1, q2, q3] [r1, r2, r3]) k l m := by
        simp only [nm, dot_cons, dot_nil, fq3]; grind
      refine ⟨m, ?_, l, ?_, k, ?_, by rw [lc3], hn⟩
      · show m ∈ outw (bnd [[p1, p2, p3], [q1, q2, q3], [r1, r2, r3]] L 2)
        unfold bnd
        rw [min32, gram3']
        refine in_bnd (N := nm [k * p1 + l * q1 + m * r1, k * p2 + l * q2 + m * r2, k * p3 + l * q3 + m * r3]) gp (by omega) ?_ hn
        rw [e]
        exact crm_z pp m2
      · show l ∈ outw (bnd [[p1, p2, p3], [q1, q2, q3], [r1, r2, r3]] L 1)
        unfold bnd
        rw [min31, gram3']
        refine in_bnd (N := nm [k * p1 + l * q1 + m * r1, k * p2 + l * q2 + m * r2, k * p3 + l * q3 + m * r3]) gp (by omega) ?_ hn
        rw [e]
        exact crm_y pp m1
      · show k ∈ outw (bnd [[p1, p2, p3], [q1, q2, q3], [r1, r2, r3]] L 0)
        unfold bnd
        rw [min30, gram3']
        refine in_bnd (N := nm [k * p1 + l * q1 + m * r1, k * p2 + l * q2 + m * r2, k * p3 + l * q3 + m * r3]) gp (by omega) ?_ hn
        rw [e]
        exact crm_x qq m0
theorem lc_inj {n : Nat} {T : List (List Int)} (hT : Sqr n T) (hd : detL T ≠ 0) {a b c a' b' c' : Int} (h : plusV (startV T c b) a (row T 0) = plusV (startV T c' b') a' (row T 0)) : a = a' ∧ (1 < n → b = b') ∧ (2 < n → c = c') := by
  rcases hT.cases with ⟨rfl, p, rfl⟩ | ⟨rfl, p1, p2, q1, q2, rfl⟩ | ⟨rfl, p1, p2, p3, q1, q2, q3, r1, r2, r3, rfl⟩
  · rw [lc1, lc1] at h
    have := congrArg (wc [[p]]) h
    rw [wc1 hd, wc1 hd] at this
    simp at this
    exact ⟨this, by omega, by omega⟩
  · rw [lc2, lc2] at h
    have := congrArg (wc [[p1, p2], [q1, q2]]) h
    rw [wc2 hd, wc2 hd] at this
    simp at this
    exact ⟨this.1, fun _ => this.2, by omega⟩
  · rw [lc3, lc3] at h
    have := congrArg (wc [[p1, p2, p3], [q1, q2, q3], [r1, r2, r3]]) h
    rw [wc3 hd, wc3 hd] at this
    simp at this
    exact ⟨this.1, fun _ => this.2.1, fun _ => this.2.2⟩
theorem rng_nodup (T : List (List Int)) (L : Int) (i : Nat) : (rngC T L i).Nodup := by
  unfold rngC
  by_cases e : i < T.length
  · rw [if_pos e]; exact outw_nodup _
  · rw [if_neg e]; simp
theorem rng_one {T : List (List Int)} {L : Int} {i : Nat} {x y : Int} (h : ¬ i < T.length) (hx : x ∈ rngC T L i) (hy : y ∈ rngC T L i) : x = y := by
  unfold rngC at hx hy
  rw [if_neg h] at hx hy
  simp at hx hy
  omega
theorem pair_mem {α : Type} {R S : α → α → Prop} {l : List α} (h : l.Pairwise R) (k : ∀ a ∈ l, ∀ b ∈ l, R a b → S a b) : l.Pairwise S := by
  induction h with
  | nil => exact .nil
  | cons h1 _ ih =>
    rename_i a l _
    exact .cons (fun b hb => k a (by simp) b (by simp [hb]) (h1 b hb)) (ih fun x hx y hy => k x (by simp [hx]) y (by simp [hy]))
theorem listV_nodup {n : Nat} {T : List (List Int)} (hT : Sqr n T) (hd : detL T ≠ 0) (L : Int) : (listV T L).Nodup := by
  have hl := hT.2.2.1
  unfold listV List.Nodup
  rw [List.pairwise_flatMap]
  have memI : ∀ {c b x}, x ∈ inV T L (startV T c b) (rngC T L 0) → ∃ a, x = plusV (startV T c b) a (row T 0) := by
    intro c b x hx
    unfold inV at hx
    obtain ⟨a, _, rfl⟩ := List.mem_map.mp (List.mem_filter.mp hx).1
    exact ⟨a, rfl⟩
  refine ⟨fun c hc => ?_, ?_⟩
  · rw [List.pairwise_flatMap]
    refine ⟨fun b hb => ?_, ?_⟩
    · unfold inV
      refine List.Pairwise.filter _ (List.pairwise_map.mpr ?_)
      exact (rng_nodup T L 0).imp fun hne e => hne (lc_inj hT hd e).1
    · refine pair_mem (rng_nodup T L 1) fun b hb b' hb' hne x hx y hy e => ?_
      obtain ⟨a, rfl⟩ := memI hx
      obtain ⟨a', rfl⟩ := memI hy
      by_cases h1 : 1 < n
      · exact hne ((lc_inj hT hd e).2.1 h1)
      · exact hne (rng_one (by omega) hb hb')
  · refine pair_mem (rng_nodup T L 2) fun c hc c' hc' hne x hx y hy e => ?_
    obtain ⟨b, _, hx⟩ := List.mem_flatMap.mp hx
    obtain ⟨b', _, hy⟩ := List.mem_flatMap.mp hy
    obtain ⟨a, rfl⟩ := memI hx
    obtain ⟨a', rfl⟩ := memI hy
    by_cases h1 : 2 < n
    · exact hne ((lc_inj hT hd e).2.2 h1)
    · exact hne (rng_one (by omega) hc hc')
/-- vectors sorted -/
def srtV (R : List (List Int)) : List (List Int) := R.mergeSort fun a b => decide (a ≤ b)
theorem srtV_eq {A B : List (List Int)} (hA : A.Nodup) (hB : B.Nodup) (h : ∀ v, v ∈ A ↔ v ∈ B) : srtV A = srtV B := by
  have p : A.Perm B := (List.perm_ext_iff_of_nodup hA hB).mpr h
  have tr : ∀ a b c : List Int, decide (a ≤ b) = true → decide (b ≤ c) = true → decide (a ≤ c) = true := fun a b c x y => by
    rw [decide_eq_true_eq] at *
    exact lexle_trans x y
  have tt : ∀ a b : List Int, (decide (a ≤ b) || decide (b ≤ a)) = true := fun a b => by
    rw [Bool.or_eq_true, decide_eq_true_eq, decide_eq_true_eq]
    exact lexle_total a b
  have sA := List.pairwise_mergeSort (le := fun a b : List Int => decide (a ≤ b)) tr tt A
  have sB := List.pairwise_mergeSort (le := fun a b : List Int => decide (a ≤ b)) tr tt B
  refine List.Perm.eq_of_pairwise (le := fun a b : List Int => decide (a ≤ b) = true) (fun a b _ _ x y => ?_) sA sB (((List.mergeSort_perm A _).trans p).trans (List.mergeSort_perm B _).symm)
  rw [decide_eq_true_eq] at x y
  exact List.le_antisymm x y
/-! #### MT -/
/-! All vectors up to a length: sizes; the ball among all integer vectors; ranks. -/
theorem red_last {T : List (List Int)} (h : Red T) : ∀ v ∈ T, nm v ≤ nm (T.getLastD []) := by
  intro v hv
  match T, h with
  | [p], _ => simp at hv; subst hv; simp
  | [p, q], h =>
    simp at hv
    obtain ⟨h1, _⟩ := h
    rcases hv with rfl | rfl
    · simpa using h1
    · simp
  | [p, q, r], h =>
    simp at hv
    obtain ⟨h1, h2, _⟩ := h
    rcases hv with rfl | rfl | rfl
    · have : nm v ≤ nm r := Int.le_trans h1 h2
      simpa using this
    · simpa using h2
    · simp
/-! ### all integer vectors of a box -/
def rngM (m : Nat) : List Int := (List.range (2 * m + 1)).map fun i => -(m : Int) + (i : Nat)
theorem rngM_mem {m : Nat} {x : Int} : x ∈ rngM m ↔ -(m : Int) ≤ x ∧ x ≤ m := by
  unfold rngM
  simp only [List.mem_map, List.mem_range]
  constructor
  · rintro ⟨i, hi, rfl⟩; omega
  · rintro ⟨h1, h2⟩; exact ⟨(x + m).toNat, by omega, by omega⟩
def ballR (m : Nat) : Nat → List (List Int)
  | 0 => [[]]
  | k + 1 => (ballR m k).flatMap fun r => (rngM m).map fun e => r ++ [e]
theorem ballR_mem (m : Nat) : ∀ (k : Nat) (v : List Int), v ∈ ballR m k ↔ v.length = k ∧ ∀ x ∈ v, -(m : Int) ≤ x ∧ x ≤ m
  | 0, v => by
    simp only [ballR, List.mem_singleton]
    constructor
    · rintro rfl; simp
    · rintro ⟨h, _⟩; exact List.length_eq_zero_iff.mp h
  | k + 1, v => by
    simp only [ballR, List.mem_flatMap, List.mem_map]
    constructor
    · rintro ⟨r, hr, e, he, rfl⟩
      obtain ⟨h1, h2⟩ := (ballR_mem m k r).mp hr
      refine ⟨by simp [h1], fun x hx => ?_⟩
      rcases List.mem_append.mp hx with h | h
      · exact h2 x h
      · have : x = e := by simpa using h
        subst this; exact rngM_mem.mp he
    · rintro ⟨h1, h2⟩
      have hne : v ≠ [] := fun e => by rw [e] at h1; simp at h1
      refine ⟨v.dropLast, (ballR_mem m k _).mpr ⟨by rw [List.length_dropLast]; omega, fun x hx => h2 x ((List.dropLast_sublist v).subset hx)⟩, v.getLast hne, rngM_mem.mpr (h2 _ (List.getLast_mem hne)), List.dropLast_concat_getLast hne⟩
theorem ballR_len (m : Nat) : ∀ k, (ballR m k).length = (2 * m + 1) ^ k
  | 0 => rfl
  | k + 1 => by
    show ((ballR m k).flatMap fun r => (rngM m).map fun e => r ++ [e]).length = _
    rw [len_fm (fun (r : List Int) (e : Int) => r ++ [e]), ballR_len m k]
    unfold rngM
    simp [Nat.pow_succ]
theorem list_len {n : Nat} {T : List (List Int)} (hT : Sqr n T) (hd : detL T ≠ 0) {L : Int} (hL : L ≤ 5000) : (listV T L).length ≤ 10000000 := by
  have h3 := hT.2.1
  have : (listV T L).length ≤ (ballR 70 n).length := sub_len (listV_nodup hT hd L) fun v hv => by
    obtain ⟨h1, h2⟩ := (listV_mem hT hd L v).mp hv
    refine (ballR_mem 70 n v).mpr ⟨h1.len hT.2.2.2, fun x hx => ?_⟩
    have h4 := ent_nm hx
    have h5 : x * x ≤ 5000 := by omega
    have h6 := le_isq (n := 5000) (x := x) (by omega)
    have h7 : isq 5000 ≤ 70 := isq_le (by omega)
    omega
  rw [ballR_len] at this
  rcases (by have := hT.1; omega : n = 1 ∨ n = 2 ∨ n = 3) with rfl | rfl | rfl <;> simp at this <;> omega
/-! #### GC -/
/-! ### sorted vectors -/
/-! ### the functions of vectors up to a length -/
def c_check_length : Ct := fun ds S Q X => ∃ d, ds = [d] ∧ okD d = true ∧ if btw 0 1000000 d = true then Q .non S else X "InvalidLength" S
theorem btw_inv {lo hi : Int} {d : D} (h : btw lo hi d = true) : ∃ L, d = .int L ∧ lo ≤ L ∧ L ≤ hi := by
  cases d with
  | int i =>
    simp [btw] at h
    exact ⟨i, rfl, h.1, h.2⟩
  | _ => simp [btw] at h
/-- what is known of the short basis of a basis -/
structure RedK (R : List (List Int)) : Prop where
  bas : Bas R
  sq : Sqr R.length (redB R)
  same : SameL R.length R (redB R)
  red : Red (redB R)
  det : detL (redB R) ≠ 0
  vec : ∀ v ∈ redB R, VecOk 23 R.length v
  gok : GOk R.length (redB R)
theorem Bas.redK {R : List (List Int)} (h : Bas R) : RedK R := by
  obtain ⟨h1, h2, h3, h4⟩ := redB_ok h.sqr h.2.2.2
  have hd := det_of_same h.sqr h1 h2 h.2.2.2
  obtain ⟨g1, g2⟩ := gram_pos h1 hd
  exact ⟨h, h1, h2, h3, hd, red_vec h, ⟨h1.1, h1.2.1, h1.2.2.1, fun v hv => (red_vec h v hv).mono (by omega), g1, fun i hi => Int.le_of_lt (g2 i hi)⟩⟩
theorem RedK.small {R : List (List Int)} (k : RedK R) (h : lastN R ≤ 5000) : ∀ v ∈ redB R, nm v ≤ 5000 := fun v hv => Int.le_trans (red_last k.red v hv) h
theorem RedK.mem {R : List (List Int)} (k : RedK R) {L : Int} {v : List Int} : v ∈ listV (redB R) L ↔ Lat R.length R v ∧ nm v ≤ L := by
  rw [listV_mem k.sq k.det, k.same v]
theorem RedK.ne {R : List (List Int)} (k : RedK R) {L : Int} {v : List Int} (hv : v ∈ listV (redB R) L) : v ≠ [] := fun e => by
  have h1 := ((listV_mem k.sq k.det L v).mp hv).1.len k.sq.2.2.2
  rw [e] at h1
  have := k.bas.1
  simp at h1
  omega
theorem RedK.lvec {R : List (List Int)} (k : RedK R) {L : Int} (hL : L ≤ 1000000) {v : List Int} (hv : v ∈ listV (redB R) L) : VecOk 23 R.length v := by
  obtain ⟨h1, h2⟩ := (listV_mem k.sq k.det L v).mp hv
  refine ⟨h1.len k.sq.2.2.2, ent_sm ?_⟩
  unfold BB
  omega
def onLen (d : D) (S : Sto) (X : XD) (P : Int → Prop) : Prop := okD d = true ∧ if btw 0 1000000 d = true then ∀ L, d = .int L → 0 ≤ L → L ≤ 1000000 → P L else X "InvalidLength" S
theorem onLen.chk {d : D} {S : Sto} {X : XD} {P : Int → Prop} {Q : QD} (h : onLen d S X P) (q : ∀ L, d = .int L → 0 ≤ L → L ≤ 1000000 → P L → Q .non S) : c_check_length [d] S Q X := by
  obtain ⟨h1, h2⟩ := h
  refine ⟨d, rfl, h1, ?_⟩
  by_cases e : btw 0 1000000 d = true
  · rw [if_pos e] at h2 ⊢
    obtain ⟨L, e1, e2, e3⟩ := btw_inv e
    exact q L e1 e2 e3 (h2 L e1 e2 e3)
  · rw [if_neg e] at h2 ⊢
    exact h2
/-! #### MW -/
/-! Grids that look the same: products, images, turnings. -/
def GrmE (R T : List (List Int)) : Prop := ∀ i, i < R.length → ∀ j, j < R.length → dot (row T i) (row T j) = dot (row R i) (row R j)
def grmB (R T : List (List Int)) : Bool := (List.range R.length).all fun i => (List.range R.length).all fun j => decide (dot (row T i) (row T j) = dot (row R i) (row R j))
theorem grm_iff (R T : List (List Int)) : grmB R T = true ↔ GrmE R T := by
  unfold grmB GrmE
  simp [List.all_eq_true]
instance (R T : List (List Int)) : Decidable (GrmE R T) := decidable_of_iff (grmB R T = true) (grm_iff R T)
theorem grm2 {p q a b : List Int} (g : GrmE [p, q] [a, b]) : nm a = nm p ∧ nm b = nm q ∧ dot a b = dot p q ∧ dot b a = dot q p := by
  have h := fun i (hi : i < 2) j (hj : j < 2) => g i hi j hj
  exact ⟨h 0 (by omega) 0 (by omega), h 1 (by omega) 1 (by omega), h 0 (by omega) 1 (by omega), h 1 (by omega) 0 (by omega)⟩
theorem mixV1 (x a : Int) : mixV [x] [[a]] = [x * a] := by simp [mixV, row, gt, List.range, List.range.loop]
theorem mixV2 (x y a b c d : Int) : mixV [x, y] [[a, b], [c, d]] = [x * a + y * c, x * b + y * d] := by simp [mixV, row, gt, List.range, List.range.loop]
theorem mixV3 (x y z a b c d e f g h i : Int) : mixV [x, y, z] [[a, b, c], [d, e, f], [g, h, i]] = [x * a + y * d + z * g, x * b + y * e + z * h, x * c + y * f + z * i] := by simp [mixV, row, gt, List.range, List.range.loop]; omega
theorem mix_lat {n : Nat} {R : List (List Int)} {f : List Int} (hR : Sqr n R) (hf : f.length = n) : Lat n R (mixV f R) := by
  rcases hR.cases with ⟨rfl, a, rfl⟩ | ⟨rfl, a, b, c, d, rfl⟩ | ⟨rfl, a, b, c, d, e, f', g', h, i, rfl⟩
  · obtain ⟨x, rfl⟩ := len1 hf
    rw [mixV1]; exact lat1.mpr ⟨x, rfl⟩
  · obtain ⟨x, y, rfl⟩ := len2 hf
    rw [mixV2]; exact lat2.mpr ⟨x, y, rfl, rfl⟩
  · obtain ⟨x, y, z, rfl⟩ := len3 hf
    rw [mixV3]; exact lat3.mpr ⟨x, y, z, rfl, rfl, rfl⟩
/-! ### images -/
theorem row_snoc_lt {C : List (List Int)} {v : List Int} {i : Nat} (h : i < C.length) : row (C ++ [v]) i = row C i := by
  rw [row_lt (by simp; omega), row_lt h, List.getElem_append_left h]
theorem row_snoc_eq {C : List (List Int)} {v : List Int} {i : Nat} (h : i = C.length) : row (C ++ [v]) i = v := by
  subst h
  rw [row_lt (by simp), List.getElem_append_right (by omega)]
  simp
def fitB (pre ch : List (List Int)) (r v : List Int) : Bool := (List.range pre.length).all fun k => decide (dot (row ch k) v = dot (row pre k) r)
def imgOne (some pre : List (List Int)) (r : List Int) (ch : List (List Int)) : List (List (List Int)) := ((some.filter fun v => decide (nm v = nm r)).filter (fitB pre ch r)).map fun v => ch ++ [v]
def imgStep (some pre : List (List Int)) (r : List Int) (F : List (List (List Int))) : List (List (List Int)) := F.flatMap (imgOne some pre r)
def imgGo (some : List (List Int)) : List (List Int) → List (List Int) → List (List (List Int)) → List (List (List Int))
  | _, [], F => F
  | pre, r :: rs, F => imgGo some (pre ++ [r]) rs (imgStep some pre r F)
def Fit (some pre ch : List (List Int)) : Prop := ch.length = pre.length ∧ (∀ v ∈ ch, v ∈ some) ∧ GrmE pre ch
theorem imgStep_mem {some pre : List (List Int)} {r : List Int} {F : List (List (List Int))} (h : ∀ ch, ch ∈ F ↔ Fit some pre ch) (ch : List (List Int)) : ch ∈ imgStep some pre r F ↔ Fit some (pre ++ [r]) ch := by
  unfold imgStep imgOne
  simp only [List.mem_flatMap, List.mem_map, List.mem_filter, fitB, List.all_eq_true, List.mem_range, decide_eq_true_eq]
  constructor
  · rintro ⟨c, hc, v, ⟨⟨hv, hn⟩, hf⟩, rfl⟩
    obtain ⟨l, s, g⟩ := (h c).mp hc
    refine ⟨by simp [l], fun u hu => ?_, fun i hi j hj => ?_⟩
    · rcases List.mem_append.mp hu with hu | hu
      · exact s u hu
      · have : u = v := by simpa using hu
        subst this; exact hv
    · rw [List.length_append, List.length_singleton] at hi hj
      rcases (by omega : i < pre.length ∨ i = pre.length) with hi | hi <;> rcases (by omega : j < pre.length ∨ j = pre.length) with hj | hj
      · rw [row_snoc_lt (by omega), row_snoc_lt (by omega), row_snoc_lt hi, row_snoc_lt hj]
        exact g i hi j hj
      · rw [row_snoc_lt (by omega), row_snoc_eq (by omega), row_snoc_lt hi, row_snoc_eq hj]
        exact hf i hi
      · rw [row_snoc_eq (by omega), row_snoc_lt (by omega), row_snoc_eq hi, row_snoc_lt hj, dot_comm, dot_comm r]
        exact hf j hj
      · rw [row_snoc_eq (by omega), row_snoc_eq (by omega), row_snoc_eq hi, row_snoc_eq hj]
        exact hn
  · rintro ⟨l, s, g⟩
    rw [List.length_append, List.length_singleton] at l
    have hne : ch ≠ [] := fun e => by rw [e] at l; simp at l
    obtain ⟨c, v, rfl⟩ : ∃ c v, ch = c ++ [v] := ⟨_, _, (List.dropLast_concat_getLast hne).symm⟩
    rw [List.length_append, List.length_singleton] at l
    have G : ∀ i, i < pre.length + 1 → ∀ j, j < pre.length + 1 → dot (row (c ++ [v]) i) (row (c ++ [v]) j) = dot (row (pre ++ [r]) i) (row (pre ++ [r]) j) := fun i hi j hj => g i (by simp; omega) j (by simp; omega)
    refine ⟨c, (h c).mpr ⟨by omega, fun u hu => s u (List.mem_append_left _ hu), fun i hi j hj => ?_⟩, v, ⟨⟨s v (by simp), ?_⟩, fun k hk => ?_⟩, rfl⟩
    · have := G i (by omega) j (by omega)
      rwa [row_snoc_lt (by omega), row_snoc_lt (by omega), row_snoc_lt hi, row_snoc_lt hj] at this
    · have := G pre.length (by omega) pre.length (by omega)
      rwa [row_snoc_eq (by omega), row_snoc_eq rfl] at this
    · have := G k (by omega) pre.length (by omega)
      rwa [row_snoc_lt (by omega), row_snoc_eq (by omega), row_snoc_lt hk, row_snoc_eq rfl] at this
theorem imgGo_mem {some : List (List Int)} : ∀ (rs pre : List (List Int)) (F : List (List (List Int))), (∀ ch, ch ∈ F ↔ Fit some pre ch) → ∀ ch, ch ∈ imgGo some pre rs F ↔ Fit some (pre ++ rs) ch
  | [], pre, F, h, ch => by rw [List.append_nil]; exact h ch
  | r :: rs, pre, F, h, ch => by
    have := imgGo_mem rs (pre ++ [r]) (imgStep some pre r F) (imgStep_mem h) ch
    rw [List.append_assoc] at this
    exact this
theorem fit_nil {some ch : List (List Int)} : ch ∈ ([[]] : List (List (List Int))) ↔ Fit some [] ch := by
  rw [List.mem_singleton]
  constructor
  · rintro rfl; exact ⟨rfl, by simp, fun i hi => absurd hi (by simp)⟩
  · rintro ⟨h, _⟩; exact List.length_eq_zero_iff.mp h
/-! ### how many images -/
theorem fm_len {α β : Type} {f : α → List β} {k : Nat} (h : ∀ a, (f a).length ≤ k) : ∀ X : List α, (X.flatMap f).length ≤ X.length * k
  | [] => by simp
  | x :: X => by
    rw [List.flatMap_cons, List.length_append, List.length_cons, Nat.succ_mul]
    have := h x
    have := fm_len h X
    omega
theorem fm_len_mem {α β : Type} {f : α → List β} {k : Nat} : ∀ X : List α, (∀ a ∈ X, (f a).length ≤ k) → (X.flatMap f).length ≤ X.length * k
  | [], _ => by simp
  | x :: X, h => by
    rw [List.flatMap_cons, List.length_append, List.length_cons, Nat.succ_mul]
    have := h x List.mem_cons_self
    have := fm_len_mem X fun a ha => h a (List.mem_cons_of_mem _ ha)
    omega
theorem box_len {n : Nat} {l : List (List Int)} (hl : l.Nodup) (m : Nat) (h : ∀ v ∈ l, v.length = n ∧ ∀ x ∈ v, -(m : Int) ≤ x ∧ x ≤ m) : l.length ≤ (2 * m + 1) ^ n := by
  rw [← ballR_len]
  exact sub_len hl fun v hv => (ballR_mem m n v).mpr (h v hv)
theorem sq_eq {a b : Int} (h : a * a = b * b) (s : decide (0 ≤ a) = decide (0 ≤ b)) : a = b := by
  have h1 : (a - b) * (a + b) = 0 := by grind
  have : (0 ≤ a) ↔ (0 ≤ b) := decide_eq_decide.mp s
  rcases Int.mul_eq_zero.mp h1 with h | h <;> omega
theorem ball3 {l : List (List Int)} (hl : l.Nodup) {c : Int} (hc : c ≤ 80) (h : ∀ v ∈ l, v.length = 3 ∧ nm v = c) : l.length ≤ 578 := by
  have key : (l.map fun v => (gt v 0, gt v 1, decide (0 ≤ gt v 2))).Nodup := nodup_map hl fun u hu v hv e => by
    obtain ⟨u1, u2⟩ := h u hu
    obtain ⟨v1, v2⟩ := h v hv
    obtain ⟨a, b, d, rfl⟩ := len3 u1
    obtain ⟨a', b', d', rfl⟩ := len3 v1
    simp only [gt, List.getD_cons_zero, List.getD_cons_succ, Prod.mk.injEq] at e
    obtain ⟨rfl, rfl, e3⟩ := e
    have : d = d' := sq_eq (by simp [nm, dot] at u2 v2; omega) e3
    rw [this]
  have := sub_len (Y := (rngM 8).flatMap fun a => (rngM 8).flatMap fun b => [(a, b, true), (a, b, false)]) key fun x hx => by
    obtain ⟨v, hv, rfl⟩ := List.mem_map.mp hx
    obtain ⟨v1, v2⟩ := h v hv
    obtain ⟨a, b, d, rfl⟩ := len3 v1
    simp only [gt, List.getD_cons_zero, List.getD_cons_succ]
    have bd : ∀ x ∈ [a, b, d], -(8 : Int) ≤ x ∧ x ≤ 8 := fun x hx => by
      have h1 := ent_nm hx
      have h2 : x * x < 81 := by omega
      constructor
      · exact Decidable.byContradiction fun hc => by have := sq_le (x := 9) (B := -x) (by omega) (by omega); grind
      · exact Decidable.byContradiction fun hc => by have := sq_le (x := 9) (B := x) (by omega) (by omega); grind
    rw [mem3] at bd
    simp only [List.mem_flatMap]
    refine ⟨a, rngM_mem.mpr bd.1, b, rngM_mem.mpr bd.2.1, ?_⟩
    cases decide (0 ≤ d) <;> simp
  rw [List.length_map] at this
  refine Nat.le_trans this ?_
  decide +kernel
theorem two_len {l : List Int} (hl : l.Nodup) {d : Int} (h : ∀ x ∈ l, x * x = d * d) : l.length ≤ 2 := by
  have := sub_len (Y := [d, -d]) hl fun x hx => by
    have h1 := h x hx
    have h2 : (x - d) * (x + d) = 0 := by grind
    rcases Int.mul_eq_zero.mp h2 with h | h
    · have : x = d := by omega
      simp [this]
    · have : x = -d := by omega
      simp [this]
  simpa using this
theorem last_two {p q : List Int} (hp : p.length = 3) (hq : q.length = 3) (hd : 0 < dd p q) {l : List (List Int)} (hl : l.Nodup) {a b c : Int} (h : ∀ v ∈ l, v.length = 3 ∧ dot p v = a ∧ dot q v = b ∧ nm v = c) : l.length ≤ 2 := by
  obtain ⟨p0, p1, p2, rfl⟩ := len3 hp
  obtain ⟨q0, q1, q2, rfl⟩ := len3 hq
  have key : (l.map fun v => detL [[p0, p1, p2], [q0, q1, q2], v]).Nodup := nodup_map hl fun u hu v hv e => by
    obtain ⟨u1, u2, u3, u4⟩ := h u hu
    obtain ⟨v1, v2, v3, v4⟩ := h v hv
    obtain ⟨x, y, z, rfl⟩ := len3 u1
    obtain ⟨x', y', z', rfl⟩ := len3 v1
    rw [dd3] at hd
    simp [dot, detL] at u2 u3 v2 v3 e
    have e1 : p0 * (x - x') + p1 * (y - y') + p2 * (z - z') = 0 := by grind
    have e2 : q0 * (x - x') + q1 * (y - y') + q2 * (z - z') = 0 := by grind
    have e3 : (p1 * q2 - p2 * q1) * (x - x') + (p2 * q0 - p0 * q2) * (y - y') + (p0 * q1 - p1 * q0) * (z - z') = 0 := by grind
    have ring : ∀ X Y Z : Int, p0 * X + p1 * Y + p2 * Z = 0 → q0 * X + q1 * Y + q2 * Z = 0 → (p1 * q2 - p2 * q1) * X + (p2 * q0 - p0 * q2) * Y + (p0 * q1 - p1 * q0) * Z = 0 → X = 0 ∧ Y = 0 ∧ Z = 0 := fun X Y Z h1 h2 h3 => by
      have D0 : ((p0 * q1 - p1 * q0) * (p0 * q1 - p1 * q0) + (p0 * q2 - p2 * q0) * (p0 * q2 - p2 * q0) + (p1 * q2 - p2 * q1) * (p1 * q2 - p2 * q1)) ≠ 0 := by omega
      refine ⟨?_, ?_, ?_⟩
      · have : ((p0 * q1 - p1 * q0) * (p0 * q1 - p1 * q0) + (p0 * q2 - p2 * q0) * (p0 * q2 - p2 * q0) + (p1 * q2 - p2 * q1) * (p1 * q2 - p2 * q1)) * X = (p1 * q2 - p2 * q1) * ((p1 * q2 - p2 * q1) * X + (p2 * q0 - p0 * q2) * Y + (p0 * q1 - p1 * q0) * Z) + ((p2 * q0 - p0 * q2) * p2 - (p0 * q1 - p1 * q0) * p1) * (q0 * X + q1 * Y + q2 * Z) - ((p2 * q0 - p0 * q2) * q2 - (p0 * q1 - p1 * q0) * q1) * (p0 * X + p1 * Y + p2 * Z) := by grind
        rw [h1, h2, h3] at this
        exact (Int.mul_eq_zero.mp (by simpa using this)).resolve_left D0
      · have : ((p0 * q1 - p1 * q0) * (p0 * q1 - p1 * q0) + (p0 * q2 - p2 * q0) * (p0 * q2 - p2 * q0) + (p1 * q2 - p2 * q1) * (p1 * q2 - p2 * q1)) * Y = (p2 * q0 - p0 * q2) * ((p1 * q2 - p2 * q1) * X + (p2 * q0 - p0 * q2) * Y + (p0 * q1 - p1 * q0) * Z) + ((p0 * q1 - p1 * q0) * p0 - (p1 * q2 - p2 * q1) * p2) * (q0 * X + q1 * Y + q2 * Z) - ((p0 * q1 - p1 * q0) * q0 - (p1 * q2 - p2 * q1) * q2) * (p0 * X + p1 * Y + p2 * Z) := by grind
        rw [h1, h2, h3] at this
        exact (Int.mul_eq_zero.mp (by simpa using this)).resolve_left D0
      · have : ((p0 * q1 - p1 * q0) * (p0 * q1 - p1 * q0) + (p0 * q2 - p2 * q0) * (p0 * q2 - p2 * q0) + (p1 * q2 - p2 * q1) * (p1 * q2 - p2 * q1)) * Z = (p0 * q1 - p1 * q0) * ((p1 * q2 - p2 * q1) * X + (p2 * q0 - p0 * q2) * Y + (p0 * q1 - p1 * q0) * Z) + ((p1 * q2 - p2 * q1) * p1 - (p2 * q0 - p0 * q2) * p0) * (q0 * X + q1 * Y + q2 * Z) - ((p1 * q2 - p2 * q1) * q1 - (p2 * q0 - p0 * q2) * q0) * (p0 * X + p1 * Y + p2 * Z) := by grind
        rw [h1, h2, h3] at this
        exact (Int.mul_eq_zero.mp (by simpa using this)).resolve_left D0
    obtain ⟨h1, h2, h3⟩ := ring _ _ _ e1 e2 e3
    have : x = x' := by omega
    have : y = y' := by omega
    have : z = z' := by omega
    subst_vars
    rfl
  have G : ∀ v ∈ l, detL [[p0, p1, p2], [q0, q1, q2], v] * detL [[p0, p1, p2], [q0, q1, q2], v] = g3 (nm [p0, p1, p2]) (nm [q0, q1, q2]) c (dot [p0, p1, p2] [q0, q1, q2]) a b := fun v hv => by
    obtain ⟨v1, v2, v3, v4⟩ := h v hv
    obtain ⟨x, y, z, rfl⟩ := len3 v1
    rw [← gram3, v2, v3, v4]
  cases l with
  | nil => simp
  | cons u l =>
    have := two_len key (d := detL [[p0, p1, p2], [q0, q1, q2], u]) fun x hx => by
      obtain ⟨v, hv, rfl⟩ := List.mem_map.mp hx
      rw [G v hv, G u List.mem_cons_self]
    rwa [List.length_map] at this
/-! #### MX -/
/-! How many images there are; a grid with its entries in reversed sequence looks the same. -/
def bdI : Nat → Nat
  | 0 => 1
  | 1 => 578
  | 2 => 334084
  | _ => 668168
theorem ent8 {v : List Int} {c : Int} (hc : c ≤ 80) (h : nm v ≤ c) : ∀ x ∈ v, -(8 : Int) ≤ x ∧ x ≤ 8 := fun x hx => by
  have h1 := ent_nm hx
  have h2 : x * x < 81 := by omega
  constructor
  · exact Decidable.byContradiction fun hc => by have := sq_le (x := 9) (B := -x) (by omega) (by omega); grind
  · exact Decidable.byContradiction fun hc => by have := sq_le (x := 9) (B := x) (by omega) (by omega); grind
theorem one_len {n : Nat} {some pre ch : List (List Int)} {r : List Int} (n3 : n ≤ 3) (hs : some.Nodup) (hl : ∀ v ∈ some, v.length = n) (hr : nm r ≤ 80) : (imgOne some pre r ch).length ≤ 578 := by
  unfold imgOne
  rw [List.length_map]
  have nd : ((some.filter fun v => decide (nm v = nm r)).filter (fitB pre ch r)).Nodup := (hs.filter _).filter _
  have mem : ∀ v ∈ ((some.filter fun v => decide (nm v = nm r)).filter (fitB pre ch r)), v.length = n ∧ nm v = nm r := fun v hv => by
    have h1 := List.mem_filter.mp (List.mem_filter.mp hv).1
    exact ⟨hl v h1.1, by simpa using h1.2⟩
  rcases (by omega : n = 3 ∨ n ≤ 2) with rfl | h2
  · exact ball3 nd hr mem
  · have := box_len nd (n := n) 8 fun v hv => ⟨(mem v hv).1, ent8 hr (by rw [(mem v hv).2]; exact Int.le_refl _)⟩
    have h17 : (2 * 8 + 1) ^ n ≤ (2 * 8 + 1) ^ 2 := Nat.pow_le_pow_right (by omega) h2
    have : (2 * 8 + 1) ^ 2 = 289 := by decide
    omega
theorem one_len2 {some ch : List (List Int)} {p q r : List Int} (hs : some.Nodup) (hl : ∀ v ∈ some, v.length = 3) (hd : 0 < dd p q) (f : Fit some [p, q] ch) : (imgOne some [p, q] r ch).length ≤ 2 := by
  obtain ⟨l, s, g⟩ := f
  obtain ⟨a, b, rfl⟩ := len2 l
  obtain ⟨g1, g2, g3', _⟩ := grm2 g
  rw [mem2] at s
  unfold imgOne
  rw [List.length_map]
  have dd' : 0 < dd a b := by unfold dd at *; rw [g1, g2, g3']; exact hd
  refine last_two (hl a s.1) (hl b s.2) dd' ((hs.filter _).filter _) (a := dot p r) (b := dot q r) (c := nm r) fun v hv => ?_
  obtain ⟨h0, h1⟩ := List.mem_filter.mp hv
  obtain ⟨h2, h3⟩ := List.mem_filter.mp h0
  unfold fitB at h1
  rw [List.all_eq_true] at h1
  have k0 := h1 0 (by simp)
  have k1 := h1 1 (by simp)
  exact ⟨hl v h2, by simpa [row] using k0, by simpa [row] using k1, by simpa using h3⟩
/-- a step more -/
theorem step_bd {n : Nat} {some pre : List (List Int)} {r : List Int} {F : List (List (List Int))} (n3 : n ≤ 3) (hp : pre.length < n) (hs : some.Nodup) (hl : ∀ v ∈ some, v.length = n) (hr : nm r ≤ 80) (hF : ∀ ch ∈ F, Fit some pre ch) (hd : ∀ p q, pre = [p, q] → 0 < dd p q) (hb : F.length ≤ bdI pre.length) : (imgStep some pre r F).length ≤ bdI (pre.length + 1) := by
  unfold imgStep
  rcases (by omega : pre.length = 0 ∨ pre.length = 1 ∨ pre.length = 2) with e | e | e
  · rw [e] at hb ⊢
    have := fm_len (f := imgOne some pre r) (k := 578) (fun ch => one_len n3 hs hl hr) F
    simp only [bdI] at *; omega
  · rw [e] at hb ⊢
    have := fm_len (f := imgOne some pre r) (k := 578) (fun ch => one_len n3 hs hl hr) F
    simp only [bdI] at *; omega
  · obtain ⟨p, q, rfl⟩ := len2 e
    have e3 : n = 3 := by omega
    subst e3
    have := fm_len_mem (f := imgOne some [p, q] r) (k := 2) F fun ch hc => one_len2 hs hl (hd p q rfl) (hF ch hc)
    rw [e] at hb ⊢
    simp only [bdI] at *; omega
/-! ### what an image keeps -/
/-! ### reversed entries -/
/-! #### GF -/
/-! ### loops over a list -/
theorem forGo_pre {α : Type} {bd : D → Env → Sto → Option Env} {b : WS} {E : DEnds} {src : Src} (enc : α → D) (L : List α) (I : List α → Env → Sto → Prop)
    (h : ∀ pre a post, L = pre ++ a :: post → ∀ env S, I pre env S → srcOk src S ∧ ∃ env', bd (enc a) env S = some env' ∧ ∀ nx : Env → Sto → Prop, (∀ env S, I (pre ++ [a]) env S → nx env S) → b { E with nx := nx, ct := nx, bk := E.nx } env' S)
    (hq : ∀ env S, I L env S → srcOk src S ∧ E.nx env S) {env : Env} {S : Sto} (h0 : I [] env S) : forGo bd b E src (L.map enc) env S := by
  refine forGo_inv (fun ds env S => ∃ pre post, L = pre ++ post ∧ ds = post.map enc ∧ I pre env S) ?_ ?_ _ _ _ ⟨[], L, rfl, rfl, h0⟩
  · rintro d ds env S ⟨pre, post, he, hd, hi⟩
    match post, hd with
    | a :: post, hd =>
      simp only [List.map_cons, List.cons.injEq] at hd
      obtain ⟨rfl, rfl⟩ := hd
      obtain ⟨h1, env', h2, h3⟩ := h pre a post he env S hi
      exact ⟨h1, env', h2, fun nx hnx => h3 nx fun env S hi => hnx env S ⟨pre ++ [a], post, by rw [he]; simp, rfl, hi⟩⟩
  · rintro env S ⟨pre, post, he, hd, hi⟩
    have : post = [] := by simpa using hd.symm
    subst this
    rw [List.append_nil] at he
    subst he
    exact hq env S hi
theorem range0 (n : Nat) : rangeD 0 n = (List.range n).map fun i => .int ((i : Nat) : Int) := by
  unfold rangeD
  apply List.map_congr_left
  intro i _
  simp
/-! ### the sum of multiples -/
/-! ### the images of a short basis -/
def ME (ch : List (List Int)) : D := .tup (ch.map VE)
theorem imgGo_snoc (some : List (List Int)) (r : List Int) : ∀ (rs pre : List (List Int)) (F : List (List (List Int))), imgGo some pre (rs ++ [r]) F = imgStep some (pre ++ rs) r (imgGo some pre rs F)
  | [], pre, F => by simp [imgGo]
  | s :: rs, pre, F => by
    show imgGo some (pre ++ [s]) (rs ++ [r]) (imgStep some pre s F) = imgStep some (pre ++ s :: rs) r (imgGo some (pre ++ [s]) rs (imgStep some pre s F))
    rw [imgGo_snoc some r rs (pre ++ [s])]
    simp
/-- what is known of two short bases whose images are sought -/
structure ImgK (O T : List (List Int)) : Prop where
  bO : Bas O
  bT : Bas T
  len : O.length = T.length
  lO : lastN O ≤ 80
  lT : lastN T ≤ 5000
def someI (O T : List (List Int)) : List (List Int) := listV (redB T) (nm ((redB O).getLastD []))
theorem ImgK.some {O T : List (List Int)} (k : ImgK O T) : (someI O T).Nodup ∧ (∀ v ∈ someI O T, VecOk 23 O.length v ∧ nm v ≤ 80) ∧ (someI O T).length ≤ 10000000 := by
  have kT := k.bT.redK
  have h : nm ((redB O).getLastD []) ≤ 80 := k.lO
  refine ⟨listV_nodup kT.sq kT.det _, fun v hv => ⟨by rw [k.len]; exact kT.lvec (by omega) hv, ?_⟩, list_len kT.sq kT.det (by omega)⟩
  have := ((listV_mem kT.sq kT.det _ v).mp hv).2
  omega
theorem ImgK.row {O T : List (List Int)} (k : ImgK O T) : ∀ v ∈ redB O, VecOk 23 O.length v ∧ nm v ≤ 80 := fun v hv => by
  have kO := k.bO.redK
  have := red_last kO.red v hv
  have := k.lO
  exact ⟨kO.vec v hv, by unfold lastN at this; omega⟩
theorem ImgK.dd {O T : List (List Int)} (k : ImgK O T) {p q : List Int} {post : List (List Int)} (h : redB O = p :: q :: post) (h3 : post ≠ []) : 0 < dd p q := by
  have kO := k.bO.redK
  have s := kO.sq
  have d := kO.det
  have n3 := s.2.1
  have hl := s.2.2.1
  rw [h] at hl d s
  match post, h3 with
  | [r], _ =>
    have e3 : O.length = 3 := by simpa using hl.symm
    rw [e3] at s
    exact dd_pos3 (s.2.2.2 p (by simp)) (s.2.2.2 q (by simp)) (s.2.2.2 r (by simp)) d
  | r :: t :: post, _ => simp at hl; omega
/-- the images of the first rows -/
def preI (O T P : List (List Int)) : List (List (List Int)) := imgGo (someI O T) [] P [[]]
theorem ImgK.pre {O T : List (List Int)} (k : ImgK O T) : ∀ (P post : List (List Int)), redB O = P ++ post → (∀ ch, ch ∈ preI O T P ↔ Fit (someI O T) P ch) ∧ (preI O T P).length ≤ bdI P.length := by
  intro P post he
  refine ⟨fun ch => by have := imgGo_mem (some := someI O T) P [] [[]] (fun ch => fit_nil) ch; rwa [List.nil_append] at this, ?_⟩
  have n3 := k.bO.2.1
  have hl := redB_len k.bO
  obtain ⟨s1, s2, s3⟩ := k.some
  -- by the number of rows
  suffices H : ∀ m, m ≤ P.length → (preI O T (P.take m)).length ≤ bdI m by
    have := H P.length (Nat.le_refl _)
    rwa [List.take_length] at this
  intro m
  induction m with
  | zero => intro _; simp [preI, imgGo, bdI]
  | succ m ih =>
    intro hm
    have ih := ih (by omega)
    have lP : P.length ≤ O.length := by rw [he] at hl; simp at hl; omega
    have e1 : P.take (m + 1) = P.take m ++ [P[m]] := by rw [List.take_append_getElem]
    unfold preI at ih ⊢
    rw [e1, imgGo_snoc, List.nil_append]
    have lt : (P.take m).length = m := by simp; omega
    have := step_bd (n := O.length) (some := someI O T) (pre := P.take m) (r := P[m]) (F := imgGo (someI O T) [] (P.take m) [[]]) n3 (by rw [lt]; omega) s1 (fun v hv => (s2 v hv).1.1)
      (k.row _ (by rw [he]; exact List.mem_append_left _ (List.getElem_mem _))).2 (fun ch hc => by
        have := (imgGo_mem (some := someI O T) (P.take m) [] [[]] (fun ch => fit_nil) ch).mp hc
        rwa [List.nil_append] at this) (fun p q hpq => by
        have l2 : m = 2 := by rw [hpq] at lt; simpa using lt.symm
        subst l2
        refine k.dd (p := p) (q := q) (post := P.drop 2 ++ post) ?_ (fun e => ?_)
        · rw [he]
          have : P = P.take 2 ++ P.drop 2 := (List.take_append_drop 2 P).symm
          rw [hpq] at this
          rw [show P ++ post = ([p, q] ++ P.drop 2) ++ post from congrArg (· ++ post) this]
          simp
        · have := congrArg List.length e
          simp at this
          omega) (by rw [lt]; exact ih)
    rwa [lt] at this
theorem red_sqm {O : List (List Int)} (h : Bas O) : SqM 23 (redB O) := by
  have k := h.redK
  have hl := redB_len h
  exact ⟨by have := h.1; omega, by have := h.2.1; omega, fun v hv => ⟨by rw [(k.vec v hv).1, hl], (k.vec v hv).2⟩⟩
/-! #### FP -/
/-! ### parts -/
instance (R T : List (List Int)) : Decidable (∀ v ∈ R, Whole T v) := by unfold Whole; exact inferInstance
def c_is_inside : Ct := fun ds S Q _ => ∃ R T : List (List Int), ds = [.tup (R.map VE), .tup (T.map VE)] ∧ R.length ≤ 1000 ∧ SqM 2000 T ∧ detL T ≠ 0 ∧ (∀ v ∈ R, VecOk 2000 T.length v) ∧ ∀ S', Gr S S' → Q (.bl (decide (∀ v ∈ R, Whole T v))) S'
/-- is_inside -/
def N_is_inside : List Str := ["one", "other", "vector"]
def b_is_inside : DB := (DB.cons (DS.ret (DE.all (DA.cons (DE.lst (DL.comp [("vector", 2)] (DG.nm 2) (DI.seq (DE.var 0)) DF.no (DE.cmp .IsNot (DE.call "whole_coefficients" c_whole_coefficients (DA.cons (DE.var 1) (DA.cons (DE.var 2) DA.nil))) (DE.con .non)))) DA.nil)))
  DB.nil)
theorem w_is_inside {ds : List D} {S : Sto} {Q : QD} {X : XD} (h : c_is_inside ds S Q X) : ctOf N_is_inside.length b_is_inside ds S Q X := by
  obtain ⟨R, T, rfl, hl, hT, hd, hR, h⟩ := h
  unfold b_is_inside N_is_inside
  walk_at "wp"
  refine ⟨by rw [List.length_map]; exact szLe (by omega), compGo_gr VE (fun v => .bl (decide (Whole T v))) R [] _ (fun v hv S' hS => ⟨_, rfl, fun Qd hq => ?_⟩) fun S' hS => ?_⟩
  · walk_at "wp"
    refine ⟨T, v, rfl, hT, hR v hv, hd, fun S2 g2 => ?_⟩
    have := hq S2 g2
    by_cases w : Whole T v
    · rw [if_pos w]
      exact ⟨false, rfl, by simpa [w] using this⟩
    · rw [if_neg w]
      exact ⟨true, rfl, by simpa [w] using this⟩
  · rw [List.nil_append, show R.map (fun v => D.bl (decide (Whole T v))) = (R.map fun v => decide (Whole T v)).map D.bl by simp]
    refine oAll_l _ _ _ ?_
    have e : (R.map fun v => decide (Whole T v)).all id = decide (∀ v ∈ R, Whole T v) := by
      rw [Bool.eq_iff_iff]
      simp [List.all_map]
    rw [e]
    exact h S' hS
theorem Sm.bd {k j : Nat} {x : Int} (h : Sm k x) (hk : k ≤ j) : x.natAbs ≤ 2 ^ j := Nat.le_of_lt (Nat.lt_of_lt_of_le h (Nat.pow_le_pow_right (by omega) hk))
theorem NFull.pos {n : Nat} {R F : List (List Int)} (h : NFull n R F) : detL F ≠ 0 := by have := nf_det h.sq h.sh; omega
theorem NFull.sm {n k : Nat} {R F : List (List Int)} (h : NFull n R F) (hk : (detL F).natAbs < 2 ^ k) : SqM k F := by
  obtain ⟨_, bd⟩ := nf_bd h.sq h.sh
  have lF := h.sq.2.2.1
  have h1 := h.sq.1
  have h3 := h.sq.2.1
  exact ⟨by omega, by omega, fun v hv => ⟨by rw [h.sq.2.2.2 v hv, lF], fun x hx => Nat.lt_of_le_of_lt (bd v hv x hx) hk⟩⟩
theorem NFull.bas {n : Nat} {R F : List (List Int)} (h : NFull n R F) (hk : (detL F).natAbs ≤ 1000000) : Bas F := by
  obtain ⟨_, bd⟩ := nf_bd h.sq h.sh
  have lF := h.sq.2.2.1
  have h1 := h.sq.1
  have h3 := h.sq.2.1
  exact ⟨by omega, by omega, fun v hv => ⟨by rw [h.sq.2.2.2 v hv, lF], fun x hx => Nat.le_trans (bd v hv x hx) hk⟩, h.pos⟩
theorem VecOk.of_mem {k : Nat} {R : List (List Int)} (h : SqM k R) {v : List Int} (hv : v ∈ R) : VecOk k R.length v := h.2.2 v hv
/-! #### FQ -/
/-! ### duals -/
theorem dual_ok2 {k : Nat} {R : List (List Int)} (h : SqM k R) (hk : 1 ≤ k) {r : List Int} (hr : r ∈ dualR R) : VecOk (2 * k + 1) R.length r := by
  refine ⟨dual_row hr, ?_⟩
  have s0 : Sm k 0 := by unfold Sm; simp; exact Nat.pow_pos (by omega)
  have s1 : Sm (2 * k + 1) 1 := by unfold Sm; exact Nat.one_lt_two_pow (by omega)
  have z : Sm (2 * k + 1) 0 := s0.mono (by omega)
  have d2 : ∀ {a b c d x : Int}, Sm k a → Sm k b → Sm k c → Sm k d → x = a * d - b * c → Sm (2 * k + 1) x := fun sa sb sc sd e => by
    rw [e]; exact (sm_det2 sa sb sc sd).mono (by omega)
  revert r
  rcases sq_cases h with ⟨a, rfl, sa⟩ | ⟨a, b, c, d, rfl, sa, sb, sc, sd⟩ | ⟨a, b, c, d, e, f, g, h', i, rfl, sa, sb, sc, sd, se, sf, sg, sh, si⟩
  · rw [dual1]
    intro r hr
    have : r = [1] := by simpa using hr
    subst this
    simpa using s1
  · rw [dual2]
    intro r hr x hx
    have big : ∀ {y : Int}, Sm k y → Sm (2 * k + 1) y := fun h => h.mono (by omega)
    simp only [List.mem_cons, List.not_mem_nil, or_false] at hr
    rcases hr with rfl | rfl <;> simp only [List.mem_cons, List.not_mem_nil, or_false] at hx <;> rcases hx with rfl | rfl <;> simp only [detL]
    · have : 1 * d - 0 * c = d := by omega
      rw [this]; exact big sd
    · have : 0 * d - 1 * c = -c := by omega
      rw [this]; exact (big sc).neg
    · have : a * 0 - b * 1 = -b := by omega
      rw [this]; exact (big sb).neg
    · have : a * 1 - b * 0 = a := by omega
      rw [this]; exact big sa
  · rw [dual3]
    intro r hr x hx
    simp only [List.mem_cons, List.not_mem_nil, or_false] at hr
    rcases hr with rfl | rfl | rfl <;> simp only [List.mem_cons, List.not_mem_nil, or_false] at hx <;> rcases hx with rfl | rfl | rfl <;> simp only [detL]
    · exact d2 (a := e) (d := i) (b := f) (c := h') se sf sh si (by grind)
    · exact d2 (a := f) (d := g) (b := d) (c := i) sf sd si sg (by grind)
    · exact d2 (a := d) (d := h') (b := e) (c := g) sd se sg sh (by grind)
    · exact d2 (a := c) (d := h') (b := b) (c := i) sc sb si sh (by grind)
    · exact d2 (a := a) (d := i) (b := c) (c := g) sa sc sg si (by grind)
    · exact d2 (a := b) (d := g) (b := a) (c := h') sb sa sh sg (by grind)
    · exact d2 (a := b) (d := f) (b := c) (c := e) sb sc se sf (by grind)
    · exact d2 (a := c) (d := d) (b := a) (c := f) sc sa sf sd (by grind)
    · exact d2 (a := a) (d := e) (b := b) (c := d) sa sb sd se (by grind)
/-! ### the law's own -/
/-! #### MY -/
/-! Closest vectors: what is tried is enough. -/
/-- a vector times a number, minus a place -/
def bvp (v p : List Int) (b : Int) : List Int := (v.zip p).map fun q => q.1 * b - q.2
def gapV (v p : List Int) (b : Int) : Int := nm (bvp v p b)
theorem nm_map : ∀ l : List Int, nm l = (l.map fun x => x * x).sum
  | [] => rfl
  | a :: l => by
    have := nm_map l
    unfold nm at *
    rw [dot_cons, this, List.map_cons, List.sum_cons]
theorem gap_sum (v p : List Int) (b : Int) : gapV v p b = ((v.zip p).map fun q => (q.1 * b - q.2) * (q.1 * b - q.2)).sum := by
  unfold gapV bvp
  rw [nm_map, List.map_map]
  rfl
theorem dual_mix {n : Nat} {T : List (List Int)} (hT : Sqr n T) {f : List Int} (hf : f.length = n) {i : Nat} (hi : i < n) : dot (row (dualR T) i) (mixV f T) = detL T * gt f i := by
  rcases hT.cases with ⟨rfl, a, rfl⟩ | ⟨rfl, a, b, c, d, rfl⟩ | ⟨rfl, a, b, c, d, e, f', g, h, i', rfl⟩
  · have : i = 0 := by omega
    subst this
    obtain ⟨x, rfl⟩ := len1 hf
    rw [mixV1, dual1]
    simp [row, dot, detL, gt]; grind
  · obtain ⟨x, y, rfl⟩ := len2 hf
    rw [mixV2, dual2]
    rcases (by omega : i = 0 ∨ i = 1) with rfl | rfl
    · simp [row, dot, detL, gt]; grind
    · simp [row, dot, detL, gt]; grind
  · obtain ⟨x, y, z, rfl⟩ := len3 hf
    rw [mixV3, dual3]
    rcases (by omega : i = 0 ∨ i = 1 ∨ i = 2) with rfl | rfl | rfl
    · simp [row, dot, detL, gt]; grind
    · simp [row, dot, detL, gt]; grind
    · simp [row, dot, detL, gt]; grind
/-! ### the first vector that is tried -/
def sgn (d : Int) : Int := if 0 < d then 1 else -1
def midC (T : List (List Int)) (p : List Int) (b : Int) : List Int := (dualR T).map fun r => nrst (sgn (detL T) * dot r p) ((detL T).natAbs * b)
def midW (T : List (List Int)) (p : List Int) (b : Int) : List Int := mixV (midC T p b) T
theorem midC_len (T : List (List Int)) (p : List Int) (b : Int) : (midC T p b).length = T.length := by simp [midC, dual_len]
theorem row_mem {C : List (List Int)} {i : Nat} (h : i < C.length) : row C i ∈ C := by rw [row_lt h]; exact List.getElem_mem _
/-! ### all that are tried -/
theorem snoc_ind {α : Type} {P : List α → Prop} (h0 : P []) (h1 : ∀ l a, P l → P (l ++ [a])) : ∀ l, P l := fun l => by
  suffices H : ∀ k (l : List α), l.length = k → P l from H _ l rfl
  intro k
  induction k with
  | zero => intro l hl; rw [List.length_eq_zero_iff.mp hl]; exact h0
  | succ k ih =>
    intro l hl
    have hne : l ≠ [] := fun e => by rw [e] at hl; simp at hl
    rw [← List.dropLast_concat_getLast hne]
    exact h1 _ _ (ih _ (by rw [List.length_dropLast]; omega))
theorem mixV_inj {n : Nat} {T : List (List Int)} (hT : Sqr n T) (hd : detL T ≠ 0) {f g : List Int} (hf : f.length = n) (hg : g.length = n) (h : mixV f T = mixV g T) : f = g := by
  apply ext_gt (by omega)
  intro i hi
  have h1 := dual_mix hT hf (i := i) (by omega)
  have h2 := dual_mix hT hg (i := i) (by omega)
  rw [h, h2] at h1
  exact (Int.eq_of_mul_eq_mul_left hd h1).symm
/-! #### MZ -/
/-! Closest vectors: how many are tried. -/
/-! ### the closest vectors -/
structure NearK (n : Nat) (R : List (List Int)) (p : List Int) (b m : Int) (C : List (List Int)) : Prop where
  mem : ∀ v, v ∈ C ↔ Lat n R v ∧ gapV v p b = m
  min : ∀ v, Lat n R v → m ≤ gapV v p b
  nod : C.Nodup
  ne : C ≠ []
  srt : srtV C = C
theorem NearK.uniq {n : Nat} {R T : List (List Int)} {p : List Int} {b m m' : Int} {C C' : List (List Int)} (h : NearK n R p b m C) (g : NearK n T p b m' C') (s : SameL n R T) : m = m' ∧ C = C' := by
  have ex : ∀ {R m C}, NearK n R p b m C → ∃ v, Lat n R v ∧ gapV v p b = m := fun {R m C} h => by
    cases C with
    | nil => exact absurd rfl h.ne
    | cons v C => exact ⟨v, (h.mem v).mp List.mem_cons_self⟩
  obtain ⟨u, u1, u2⟩ := ex h
  obtain ⟨v, v1, v2⟩ := ex g
  have e1 := h.min v ((s v).mpr v1)
  have e2 := g.min u ((s u).mp u1)
  have e : m = m' := by omega
  subst e
  refine ⟨rfl, ?_⟩
  rw [← h.srt, ← g.srt]
  exact srtV_eq h.nod g.nod fun v => by rw [h.mem, g.mem, s v]
/-! #### NA -/
/-! Points: a common denominator; fractions in lowest terms. -/
def lcmS (b y : Int) : Int := (b * y).fdiv ((Int.gcd b y : Nat) : Int)
theorem lcmS_spec {b y : Int} (hb : 0 < b) (hy : 0 < y) : 0 < lcmS b y ∧ lcmS b y ≤ b * y ∧ b ∣ lcmS b y ∧ y ∣ lcmS b y := by
  have g0 : (0 : Int) < (Int.gcd b y : Nat) := by have := gcd_pos (a := b) (b := y) (by omega); omega
  obtain ⟨c, hc⟩ : ((Int.gcd b y : Nat) : Int) ∣ b := Int.gcd_dvd_left ..
  obtain ⟨d, hd⟩ : ((Int.gcd b y : Nat) : Int) ∣ y := Int.gcd_dvd_right ..
  unfold lcmS
  generalize ((Int.gcd b y : Nat) : Int) = g at *
  have e : (b * y).fdiv g = c * y := by
    rw [hc, Int.mul_assoc]
    exact fd_m2 (by omega)
  rw [e]
  have c0 : 0 < c := by
    refine Decidable.byContradiction fun h => ?_
    have := Int.mul_nonpos_of_nonneg_of_nonpos (Int.le_of_lt g0) (show c ≤ 0 by omega)
    omega
  refine ⟨Int.mul_pos c0 hy, ?_, ⟨d, ?_⟩, ⟨c, Int.mul_comm _ _⟩⟩
  · refine Int.mul_le_mul_of_nonneg_right ?_ (Int.le_of_lt hy)
    rw [hc]
    have := Int.mul_le_mul_of_nonneg_right (show 1 ≤ g by omega) (Int.le_of_lt c0)
    omega
  · rw [hd, hc]; grind
def comB (fs : List (Int × Int)) : Int := fs.foldl (fun b p => lcmS b p.2) 1
def comP (fs : List (Int × Int)) : List Int := fs.map fun p => p.1 * ((comB fs).fdiv p.2)
theorem comB_snoc (fs : List (Int × Int)) (p : Int × Int) : comB (fs ++ [p]) = lcmS (comB fs) p.2 := by unfold comB; rw [List.foldl_append]; rfl
theorem comB_spec (fs : List (Int × Int)) : (∀ p ∈ fs, 0 < p.2 ∧ p.2 ≤ 1000) → 0 < comB fs ∧ comB fs ≤ 1000 ^ fs.length ∧ ∀ p ∈ fs, p.2 ∣ comB fs := by
  induction fs using snoc_ind with
  | h0 => intro _; simp [comB]
  | h1 l q ih =>
    intro h
    obtain ⟨i1, i2, i3⟩ := ih fun p hp => h p (List.mem_append_left _ hp)
    obtain ⟨q1, q2⟩ := h q (by simp)
    rw [comB_snoc]
    obtain ⟨s1, s2, s3, s4⟩ := lcmS_spec i1 q1
    refine ⟨s1, ?_, fun p hp => ?_⟩
    · rw [List.length_append, List.length_singleton, Int.pow_succ]
      have := Int.mul_le_mul i2 q2 (Int.le_of_lt q1) (Int.le_trans (Int.le_of_lt i1) i2)
      omega
    · rcases List.mem_append.mp hp with hp | hp
      · exact Int.dvd_trans (i3 p hp) s3
      · have : p = q := by simpa using hp
        subst this; exact s4
/-! #### GH -/
/-! ### points -/
def ptB (p : Int × Int) : Bool := decide (-1000000 ≤ p.1) && decide (p.1 ≤ 1000000) && decide (p.2 ≤ 1000)
def isPtD (n : Int) : D → Bool
  | .tup es => decide ((es.length : Int) = n) && es.all isFr && es.all fun e => ptB (toFr e)
  | _ => false
def okPt : D → Prop
  | .tup ds => ds.length ≤ 1000 ∧ ∀ e ∈ ds, okF e
  | d => okD d = true
theorem isPtD_t (n : Int) (es : List D) : isPtD n (.tup es) = (decide ((es.length : Int) = n) && es.all isFr && es.all fun e => ptB (toFr e)) := rfl
def c_check_point : Ct := fun ds S Q X => ∃ n d, ds = [.int n, d] ∧ okPt d ∧ if isPtD n d = true then Q .non S else X "InvalidPoint" S
structure PtOk (n : Nat) (fs : List (Int × Int)) : Prop where
  len : fs.length = n
  low : ∀ p ∈ fs, 0 < p.2 ∧ Int.gcd p.1 p.2 = 1
  bd : ∀ p ∈ fs, p.1.natAbs ≤ 1000000 ∧ p.2 ≤ 1000
theorem isPtD_inv {n : Nat} {d : D} (h : isPtD n d = true) : ∃ fs, d = .tup (fs.map frE) ∧ PtOk n fs := by
  cases d with
  | tup es =>
    rw [isPtD_t, Bool.and_eq_true, Bool.and_eq_true, decide_eq_true_eq, List.all_eq_true, List.all_eq_true] at h
    obtain ⟨⟨h1, h2⟩, h3⟩ := h
    refine ⟨es.map toFr, by rw [← fr_all h2], by rw [List.length_map]; omega, fun p hp => ?_, fun p hp => ?_⟩
    · obtain ⟨x, hx, rfl⟩ := List.mem_map.mp hp
      have k := h2 x hx
      have k1 := (fr_inv k).1
      rw [k1, isFr_low] at k
      unfold lowF at k
      rw [Bool.and_eq_true, decide_eq_true_eq, decide_eq_true_eq] at k
      exact k
    · obtain ⟨x, hx, rfl⟩ := List.mem_map.mp hp
      have := h3 x hx
      unfold ptB at this
      simp only [Bool.and_eq_true, decide_eq_true_eq] at this
      omega
  | _ => simp [isPtD] at h
theorem frE_inj {p q : Int × Int} (h : frE p = frE q) : p = q := by
  unfold frE at h
  simp at h
  exact Prod.ext h.1 h.2
theorem fs_inj {fs gs : List (Int × Int)} (h : D.tup (fs.map frE) = .tup (gs.map frE)) : fs = gs := by
  injection h with h
  exact List.map_inj_right (fun a b e => frE_inj e) |>.mp h
theorem PtOk.is {n : Nat} {fs : List (Int × Int)} (h : PtOk n fs) : isPtD n (.tup (fs.map frE)) = true := by
  rw [isPtD_t, Bool.and_eq_true, Bool.and_eq_true, decide_eq_true_eq, List.all_eq_true, List.all_eq_true]
  refine ⟨⟨by rw [List.length_map, h.len], fun d hd => ?_⟩, fun d hd => ?_⟩
  · obtain ⟨p, hp, rfl⟩ := List.mem_map.mp hd
    rw [isFr_low]
    unfold lowF
    simp [h.low p hp]
  · obtain ⟨p, hp, rfl⟩ := List.mem_map.mp hd
    have := h.bd p hp
    show ptB p = true
    unfold ptB
    simp
    omega
theorem PtOk.okp {n : Nat} {fs : List (Int × Int)} (h : PtOk n fs) (hn : n ≤ 1000) : okPt (.tup (fs.map frE)) := ⟨by rw [List.length_map, h.len]; exact hn, fun d hd => by
  obtain ⟨p, hp, rfl⟩ := List.mem_map.mp hd
  exact ⟨rfl, rfl⟩⟩
def onPt (n : Nat) (d : D) (S : Sto) (X : XD) (P : List (Int × Int) → Prop) : Prop := okPt d ∧ if isPtD n d = true then ∀ fs, d = .tup (fs.map frE) → PtOk n fs → P fs else X "InvalidPoint" S
theorem onPt.chk {n : Nat} {d : D} {S : Sto} {X : XD} {P : List (Int × Int) → Prop} {Q : QD} (h : onPt n d S X P) (q : ∀ fs, d = .tup (fs.map frE) → PtOk n fs → P fs → Q .non S) : c_check_point [.int (n : Nat), d] S Q X := by
  refine ⟨n, d, rfl, h.1, ?_⟩
  have h2 := h.2
  by_cases e : isPtD n d = true
  · rw [if_pos e] at h2 ⊢
    obtain ⟨fs, e1, e2⟩ := isPtD_inv e
    exact q fs e1 e2 (h2 fs e1 e2)
  · rw [if_neg e] at h2 ⊢
    exact h2
theorem PtOk.on {n : Nat} {fs : List (Int × Int)} {S : Sto} {X : XD} {P : List (Int × Int) → Prop} (h : PtOk n fs) (hn : n ≤ 1000) (q : P fs) : onPt n (.tup (fs.map frE)) S X P := by
  refine ⟨h.okp hn, ?_⟩
  rw [if_pos h.is]
  intro gs e _
  have := fs_inj e
  subst this
  exact q
theorem PtOk.com {n : Nat} {fs : List (Int × Int)} (h : PtOk n fs) (n3 : n ≤ 3) : 0 < comB fs ∧ comB fs ≤ 1000000000 ∧ ∀ p ∈ fs, p.2 ∣ comB fs := by
  obtain ⟨h1, h2, h3⟩ := comB_spec fs fun p hp => ⟨(h.low p hp).1, (h.bd p hp).2⟩
  refine ⟨h1, ?_, h3⟩
  rw [h.len] at h2
  rcases (by omega : n = 0 ∨ n = 1 ∨ n = 2 ∨ n = 3) with rfl | rfl | rfl | rfl <;> simp at h2 <;> omega
theorem sm_1e9 {b : Int} (h0 : 0 ≤ b) (h1 : b ≤ 1000000000) : Sm 30 b := by
  unfold Sm
  have : (2 : Nat) ^ 30 = 1073741824 := by decide
  omega
theorem fd_small {a b : Int} (ha : 0 ≤ a) (hb : 0 < b) : 0 ≤ a.fdiv b ∧ a.fdiv b ≤ a := by
  rw [Int.fdiv_eq_ediv_of_nonneg _ (Int.le_of_lt hb)]
  exact ⟨Int.ediv_nonneg ha (Int.le_of_lt hb), Int.ediv_le_self _ ha⟩
theorem PtOk.pre {n : Nat} {fs pre post : List (Int × Int)} (h : PtOk n fs) (e : fs = pre ++ post) : PtOk pre.length pre := ⟨rfl, fun p hp => h.low p (by rw [e]; exact List.mem_append_left _ hp), fun p hp => h.bd p (by rw [e]; exact List.mem_append_left _ hp)⟩
theorem PtOk.vec {n : Nat} {fs : List (Int × Int)} (h : PtOk n fs) (n3 : n ≤ 3) : VecOk 52 n (comP fs) := by
  obtain ⟨c1, c2, c3⟩ := h.com n3
  refine ⟨by simp [comP, h.len], fun x hx => ?_⟩
  obtain ⟨p, hp, rfl⟩ := List.mem_map.mp hx
  obtain ⟨d1, d2⟩ := fd_small (Int.le_of_lt c1) (h.low p hp).1
  have s1 : Sm 20 p.1 := lim_sm (h.bd p hp).1
  exact (s1.mul (sm_1e9 d1 (by omega))).mono (by omega)
theorem sm_sum3 {k : Nat} : ∀ {l : List Int}, l.length ≤ 3 → (∀ x ∈ l, Sm k x) → Sm (k + 3) l.sum := by
  intro l hl h
  rcases (by omega : l.length = 0 ∨ l.length = 1 ∨ l.length = 2 ∨ l.length = 3) with e | e | e | e
  · rw [List.length_eq_zero_iff.mp e]; unfold Sm; simp; exact Nat.pow_pos (by omega)
  · obtain ⟨a, rfl⟩ := len1 e
    rw [mem1] at h
    simpa using h.mono (by omega)
  · obtain ⟨a, b, rfl⟩ := len2 e
    rw [mem2] at h
    simpa using (h.1.add h.2).mono (by omega)
  · obtain ⟨a, b, c, rfl⟩ := len3 e
    rw [mem3] at h
    have := (h.1.add (h.2.1.add h.2.2)).mono (show max k (max k k + 1) + 1 ≤ k + 3 by omega)
    simpa using this
theorem gap_sm {n j k l : Nat} {v p : List Int} {b : Int} (n3 : n ≤ 3) (hv : VecOk j n v) (hp : VecOk k n p) (hb : Sm l b) : Sm (2 * (max (j + l) k + 1) + 3) (gapV v p b) := by
  rw [gap_sum]
  refine sm_sum3 (by simp [hv.1]; omega) fun x hx => ?_
  obtain ⟨q, hq, rfl⟩ := List.mem_map.mp hx
  have hz := List.of_mem_zip hq
  have s2 := ((hv.2 _ hz.1).mul hb).sub (hp.2 _ hz.2)
  exact (s2.mul s2).mono (by omega)
/-! ### the closest vectors -/
structure NtK (R : List (List Int)) (p : List Int) (b : Int) : Prop where
  bas : Bas R
  lst : lastN R ≤ 5000
  vp : VecOk 60 R.length p
  b0 : 0 < b
  sb : Sm 31 b
theorem dot_sm3 {n j k : Nat} {u v : List Int} (n3 : n ≤ 3) (hu : VecOk j n u) (hv : VecOk k n v) : Sm (j + k + 3) (dot u v) := by
  unfold dot
  refine sm_sum3 (by simp [hu.1]; omega) fun x hx => ?_
  obtain ⟨q, hq, rfl⟩ := List.mem_map.mp hx
  have hz := List.of_mem_zip hq
  exact (hu.2 _ hz.1).mul (hv.2 _ hz.2)
theorem NtK.dual {R : List (List Int)} {p : List Int} {b : Int} (k : NtK R p b) : ∀ r ∈ dualR (redB R), VecOk 47 R.length r := fun r hr => by
  have := dual_ok2 (red_sqm k.bas) (by omega) hr
  rwa [redB_len k.bas] at this
theorem NtK.det {R : List (List Int)} {p : List Int} {b : Int} (k : NtK R p b) : Sm 73 ((detL (redB R)).natAbs : Int) ∧ (0 : Int) < (detL (redB R)).natAbs * b ∧ Sm 104 ((detL (redB R)).natAbs * b) := by
  have h := sm_detL (red_sqm k.bas)
  have s : Sm 73 ((detL (redB R)).natAbs : Int) := by unfold Sm at *; rwa [Int.natAbs_natCast]
  have d := k.bas.redK.det
  exact ⟨s, Int.mul_pos (by omega) k.b0, (s.mul k.sb).mono (by omega)⟩
theorem sgn_sm (d : Int) : Sm 6 (sgn d) := by unfold sgn; split <;> exact sm_lit _ (by decide)
theorem NtK.midC {R : List (List Int)} {p : List Int} {b : Int} (k : NtK R p b) : VecOk 124 R.length (DLay.midC (redB R) p b) := by
  have n3 := k.bas.2.1
  obtain ⟨d1, d2, d3⟩ := k.det
  refine ⟨by rw [midC_len, redB_len k.bas], fun x hx => ?_⟩
  obtain ⟨r, hr, rfl⟩ := List.mem_map.mp hx
  exact (sm_nrst d2 ((sgn_sm _).mul (dot_sm3 n3 (k.dual r hr) k.vp)) d3).mono (by omega)
theorem mix_sm {n j k : Nat} {f : List Int} {R : List (List Int)} (hR : Sqr n R) (hf : VecOk j n f) (hv : ∀ v ∈ R, VecOk k n v) : VecOk (j + k + 3) n (mixV f R) := by
  refine ⟨by rw [mixV_len, hR.2.2.1], fun x hx => ?_⟩
  obtain ⟨c, _, rfl⟩ := List.mem_map.mp hx
  refine sm_sum3 (by simp [hR.2.2.1]; exact hR.2.1) fun y hy => ?_
  obtain ⟨i, hi, rfl⟩ := List.mem_map.mp hy
  have hi : i < n := by have := List.mem_range.mp hi; rwa [hR.2.2.1] at this
  refine Sm.mul (by rw [gt_lt (by rw [hf.1]; exact hi)]; exact hf.2 _ (List.getElem_mem _)) ?_
  have vr := hv _ (row_mem (C := R) (i := i) (by rw [hR.2.2.1]; exact hi))
  by_cases hc : c < (row R i).length
  · rw [gt_lt hc]; exact vr.2 _ (List.getElem_mem _)
  · rw [gt_ge (by omega)]; unfold Sm; simp; exact Nat.pow_pos (by omega)
theorem NtK.midW {R : List (List Int)} {p : List Int} {b : Int} (k : NtK R p b) : VecOk 150 R.length (DLay.midW (redB R) p b) :=
  (mix_sm k.bas.redK.sq k.midC k.bas.redK.vec).mono (by omega)
theorem NtK.first {R : List (List Int)} {p : List Int} {b : Int} (k : NtK R p b) : Sm 367 (gapV (DLay.midW (redB R) p b) p b) :=
  (gap_sm k.bas.2.1 k.midW k.vp k.sb).mono (by omega)
/-! ### the functions of closest vectors -/
/-- the closest vectors to a point are known -/
structure CloK (R : List (List Int)) (fs : List (Int × Int)) (m : Int) (C : List (List Int)) : Prop where
  near : NearK R.length R (comP fs) (comB fs) m C
  vec : ∀ v ∈ C, VecOk 200 R.length v
  len : C.length ≤ 1108809
def onClo (b d : D) (S : Sto) (X : XD) (P : List (List Int) → List (Int × Int) → Int → List (List Int) → Sto → Prop) : Prop := onBas b S X fun R => onPt R.length d S X fun fs => if lastN R ≤ 5000 then ∀ m C S', CloK R fs m C → Gr S S' → P R fs m C S' else X "TooLarge" S
theorem onClo.imp {b d : D} {S : Sto} {X : XD} {P P' : List (List Int) → List (Int × Int) → Int → List (List Int) → Sto → Prop} (h : onClo b d S X P) (q : ∀ R fs m C S', Bas R → PtOk R.length fs → lastN R ≤ 5000 → CloK R fs m C → P R fs m C S' → P' R fs m C S') : onClo b d S X P' := by
  refine ⟨h.1, ?_⟩
  have h2 := h.2
  by_cases e : isBasD b = true
  · rw [if_pos e] at h2 ⊢
    intro R eb hR
    have h3 := h2 R eb hR
    refine ⟨h3.1, ?_⟩
    have h4 := h3.2
    by_cases e2 : isPtD R.length d = true
    · rw [if_pos e2] at h4 ⊢
      intro fs ed hf
      have h5 := h4 fs ed hf
      by_cases e3 : lastN R ≤ 5000
      · simp only [if_pos e3] at h5 ⊢
        exact fun m C S' k g => q R fs m C S' hR hf e3 k (h5 m C S' k g)
      · simp only [if_neg e3] at h5 ⊢
        exact h5
    · rw [if_neg e2] at h4 ⊢
      exact h4
  · rw [if_neg e] at h2 ⊢
    exact h2
/-! #### HF -/
/-! ### exceptions alone -/
def e1 : Ct := fun ds S _ X => ∃ b, ds = [b] ∧ onBas b S X fun _ => False
def e2 : Ct := fun ds S _ X => ∃ a b, ds = [a, b] ∧ onTwo a b S X fun _ _ => False
/-- the first grid is part of the second one -/
def onPart (a b : D) (S : Sto) (X : XD) (P : List (List Int) → List (List Int) → Sto → Prop) : Prop := onTwo a b S X fun O T => ∀ S', Gr S S' → if ∀ v ∈ O, Whole T v then P O T S' else X "NotPart" S'
def c_check_part : Ct := fun ds S Q X => ∃ a b, ds = [a, b] ∧ onPart a b S X fun _ _ S' => Q .non S'
/-- check_part -/
def N_check_part : List Str := ["one", "other"]
def b_check_part : DB := (DB.cons (DS.expr (DE.call "check_bases" c_check_bases (DA.cons (DE.var 0) (DA.cons (DE.var 1) DA.nil))))
  (DB.cons (DS.iff (DT.not (DT.val (DE.call "is_inside" c_is_inside (DA.cons (DE.var 0) (DA.cons (DE.var 1) DA.nil))))) (DB.cons (DS.raise "NotPart")
  DB.nil) DB.nil)
  DB.nil))
section
variable {ds : List D} {S : Sto} {Q : QD} {X : XD}
theorem w_check_part (h : c_check_part ds S Q X) : ctOf N_check_part.length b_check_part ds S Q X := by
  obtain ⟨a, b, rfl, h⟩ := h
  unfold b_check_part N_check_part
  walk_at "wpc"
  refine h.chk fun R T ea eb hR hT el q => ?_
  subst ea eb
  walk_at "wpc"
  refine ⟨R, T, rfl, by have := hR.2.1; omega, hT.sq.mono (by omega), hT.2.2.2, fun v hv => ?_, fun S' g => ?_⟩
  · obtain ⟨h1, h2⟩ := hR.sq.2.2 v hv
    exact ⟨by omega, fun x hx => (h2 x hx).mono (by omega)⟩
  have q := q S' g
  refine ⟨_, rfl, ?_⟩
  by_cases e : ∀ v ∈ R, Whole T v
  · rw [if_pos e] at q
    rw [if_neg (by rw [decide_eq_true e]; simp)]
    exact q
  · rw [if_neg e] at q
    rw [if_pos (by rw [decide_eq_false e]; rfl)]
    exact q
theorem onPart.chk {a b : D} {P : List (List Int) → List (List Int) → Sto → Prop} (h : onPart a b S X P) (q : ∀ R T S', a = .tup (R.map VE) → b = .tup (T.map VE) → Bas R → Bas T → R.length = T.length → (∀ v ∈ R, Whole T v) → Gr S S' → P R T S' → Q .non S') : c_check_part [a, b] S Q X := by
  refine ⟨a, b, rfl, h.1, ?_⟩
  have h2 := h.2
  by_cases e : isBasD a = true
  · rw [if_pos e] at h2 ⊢
    intro R ea hR
    have h3 := h2 R ea hR
    refine ⟨h3.1, ?_⟩
    have h4 := h3.2
    by_cases e2 : isBasD b = true
    · rw [if_pos e2] at h4 ⊢
      intro T eb hT
      have h5 := h4 T eb hT
      by_cases e3 : R.length = T.length
      · simp only [if_pos e3] at h5 ⊢
        intro S' g
        have h6 := h5 S' g
        by_cases e4 : ∀ v ∈ R, Whole T v
        · rw [if_pos e4] at h6 ⊢
          exact q R T S' ea eb hR hT e3 e4 g h6
        · rw [if_neg e4] at h6 ⊢
          exact h6
      · simp only [if_neg e3] at h5 ⊢
        exact h5
    · rw [if_neg e2] at h4 ⊢
      exact h4
  · rw [if_neg e] at h2 ⊢
    exact h2
end
/-! #### HJ -/
/-! ### tables: lists of lists -/
def en (M : List (List Int)) (i j : Nat) : Int := gt (row M i) j
def swapL {α : Type} (d : α) (l : List α) (i j : Nat) : List α := (l.set i (l.getD j d)).set j (l.getD i d)
theorem swapL_len {α : Type} (d : α) (l : List α) (i j : Nat) : (swapL d l i j).length = l.length := by simp [swapL]
theorem swapL_map {α β : Type} (f : α → β) (d : α) (l : List α) {i j : Nat} (hi : i < l.length) (hj : j < l.length) : (swapL d l i j).map f = swapL (f d) (l.map f) i j := by
  unfold swapL
  rw [List.map_set, List.map_set]
  congr 1
  · congr 1
    simp [List.getD, hj]
  · simp [List.getD, hi]
def c_swapped : Ct := fun ds S Q _ => ∃ (d : D) (xs : List D) (i j : Nat), ds = [d, .int (i : Nat), .int (j : Nat)] ∧ seqOf S d = some xs ∧ i < xs.length ∧ j < xs.length ∧ xs.length ≤ 1000 ∧ Q (.han S.length) (S ++ [.lst (swapL .non xs i j)])
/-- swapped -/
def N_swapped : List Str := ["rows", "i", "j", "found"]
def b_swapped : DB := (DB.cons (DS.set 3 (DE.thw (DL.lof (DA.cons (DE.var 0) DA.nil))))
  (DB.cons (DS.sub2 (DE.var 3) (DE.var 1) (DE.var 3) (DE.var 2) (DE.ix (DE.var 3) (DE.var 2)) (DE.ix (DE.var 3) (DE.var 1)))
  (DB.cons (DS.ret (DE.var 3))
  DB.nil)))
theorem ix_nat {n i : Nat} (h : i < n) : ixN n (i : Int) = some i := by
  unfold ixN
  rw [if_pos (by omega), if_pos (by omega)]
  simp
theorem w_swapped {ds : List D} {S : Sto} {Q : QD} {X : XD} (h : c_swapped ds S Q X) : ctOf N_swapped.length b_swapped ds S Q X := by
  obtain ⟨d, xs, i, j, rfl, hs, hi, hj, hl, h⟩ := h
  unfold b_swapped N_swapped
  walk_at "wpc"
  refine ⟨xs, hs, ?_⟩
  have gx : (S ++ [O.lst xs])[S.length]? = some (.lst xs) := by simp
  have sx : seqOf (S ++ [O.lst xs]) (.han S.length) = some xs := seqOf_last _ _
  refine oIx_seq sx _ _ ▸ ⟨xs[j], atI_some hj, ?_⟩
  refine oIx_seq sx _ _ ▸ ⟨xs[i], atI_some hi, ?_⟩
  refine ⟨i, xs, gx, ix_nat hi, ?_⟩
  refine ⟨j, xs.set i xs[j], by simp, by rw [List.length_set]; exact ix_nat hj, ?_⟩
  walk_at "wpc"
  have e1 : swapL D.non xs i j = (xs.set i xs[j]).set j xs[i] := by unfold swapL; simp [List.getD, hi, hj]
  rw [e1] at h
  simpa using h
/-- a list of the store whose entries are lists of whole numbers -/
structure Tab (S : Sto) (t : Nat) (M : List (List Int)) (hs : List Nat) : Prop where
  top : S[t]? = some (.lst (hs.map .han))
  len : hs.length = M.length
  row : ∀ (i : Nat) (h : i < hs.length), S[hs[i]]? = some (.lst ((row M i).map .int))
  nod : hs.Nodup
  out : t ∉ hs
theorem Tab.seq {S : Sto} {t : Nat} {M : List (List Int)} {hs : List Nat} (k : Tab S t M hs) : seqOf S (.han t) = some (hs.map .han) := by
  unfold seqOf tupOf lstOf
  simp [k.top]
theorem Tab.rowS {S : Sto} {t : Nat} {M : List (List Int)} {hs : List Nat} (k : Tab S t M hs) {i : Nat} (h : i < hs.length) : seqOf S (.han hs[i]) = some ((DLay.row M i).map .int) := by
  unfold seqOf tupOf lstOf
  simp [k.row i h]
theorem Tab.ixR {S : Sto} {t : Nat} {M : List (List Int)} {hs : List Nat} (k : Tab S t M hs) {i : Nat} (h : i < hs.length) {Q : QD} (q : Q (.han hs[i]) S) : oIx (.han t) (.int (i : Nat)) S Q := by
  rw [oIx_seq k.seq]
  exact ⟨_, by rw [atI_map, atI_some h]; rfl, q⟩
theorem Tab.ixE {S : Sto} {t : Nat} {M : List (List Int)} {hs : List Nat} (k : Tab S t M hs) {i j : Nat} (h : i < hs.length) (hj : j < (DLay.row M i).length) {Q : QD} (q : Q (.int (en M i j)) S) : oIx (.han hs[i]) (.int (j : Nat)) S Q := by
  rw [oIx_seq (k.rowS h)]
  exact ⟨_, by rw [atI_map, atI_some hj]; rfl, by have e : en M i j = (DLay.row M i)[j] := gt_lt hj; rw [e] at q; exact q⟩
theorem Tab.ext {S : Sto} {t : Nat} {M : List (List Int)} {hs : List Nat} (k : Tab S t M hs) (J : Sto) : Tab (S ++ J) t M hs := by
  have lt : ∀ {i : Nat} {o : O}, S[i]? = some o → (S ++ J)[i]? = some o := fun h => by rw [List.getElem?_append_left (List.getElem?_eq_some_iff.mp h).1]; exact h
  exact ⟨lt k.top, k.len, fun i h => lt (k.row i h), k.nod, k.out⟩
/-- all rows have n entries -/
def SqN (n : Nat) (M : List (List Int)) : Prop := M.length = n ∧ ∀ i, i < n → (row M i).length = n
/-! ### the least entry -/
def bestS (M : List (List Int)) (best : Option (Nat × Nat × Nat)) (p : Nat × Nat) : Option (Nat × Nat × Nat) :=
  if en M p.1 p.2 = 0 then best else match best with
    | none => some ((en M p.1 p.2).natAbs, p.1, p.2)
    | some b => if (en M p.1 p.2).natAbs < b.1 then some ((en M p.1 p.2).natAbs, p.1, p.2) else some b
def bestD : Option (Nat × Nat × Nat) → D
  | none => .non
  | some b => .tup [.int (b.1 : Nat), .int (b.2.1 : Nat), .int (b.2.2 : Nat)]
def rg (a n : Nat) : List Nat := (List.range (n - a)).map fun k => a + k
def leastP (M : List (List Int)) (n a : Nat) : Option (Nat × Nat × Nat) := ((rg a n).flatMap fun i => (rg a n).map fun j => (i, j)).foldl (bestS M) none
theorem rg_mem {a n i : Nat} : i ∈ rg a n ↔ a ≤ i ∧ i < n := by
  unfold rg
  simp only [List.mem_map, List.mem_range]
  constructor
  · rintro ⟨k, hk, rfl⟩; omega
  · intro h; exact ⟨i - a, by omega, by omega⟩
theorem range_rg (a n : Nat) : rangeD (a : Int) ((n : Int) - (a : Int)).toNat = (rg a n).map fun i => D.int ((i : Nat) : Int) := by
  unfold rg rangeD
  rw [List.map_map, show ((n : Int) - (a : Int)).toNat = n - a by omega]
  apply List.map_congr_left
  intro k _
  simp
def c_least_place : Ct := fun ds S Q _ => ∃ (t n a : Nat) (M : List (List Int)) (hs : List Nat), ds = [.han t, .int (a : Nat)] ∧ Tab S t M hs ∧ SqN n M ∧ n ≤ 3 ∧ a ≤ 3 ∧ Q (bestD (leastP M n a)) S
/-- least_place -/
def N_least_place : List Str := ["rows", "start", "best", "i", "j"]
def b_least_place_n1 : DB := (DB.cons (DS.iff (DT.bool (DW.cons (DT.cmp .NotEq (DE.ix (DE.ix (DE.var 0) (DE.var 3)) (DE.var 4)) (DE.con (.int 0))) (DW.one .And (DT.bool (DW.cons (DT.cmp .Is (DE.var 2) (DE.con .non)) (DW.one .Or (DT.cmp .Lt (DE.abs (DA.cons (DE.ix (DE.ix (DE.var 0) (DE.var 3)) (DE.var 4)) DA.nil)) (DE.ix (DE.var 2) (DE.con (.int 0)))))))))) (DB.cons (DS.set 2 (DE.tup (DA.cons (DE.abs (DA.cons (DE.ix (DE.ix (DE.var 0) (DE.var 3)) (DE.var 4)) DA.nil)) (DA.cons (DE.var 3) (DA.cons (DE.var 4) DA.nil)))))
  DB.nil) DB.nil)
  DB.nil)
def b_least_place_n2 : DB := (DB.cons (DS.for (DG.nm 4) (DI.range2 (DE.var 1) (DE.len (DA.cons (DE.var 0) DA.nil))) b_least_place_n1)
  DB.nil)
def b_least_place : DB := (DB.cons (DS.set 2 (DE.con .non))
  (DB.cons (DS.for (DG.nm 3) (DI.range2 (DE.var 1) (DE.len (DA.cons (DE.var 0) DA.nil))) b_least_place_n2)
  (DB.cons (DS.ret (DE.var 2))
  DB.nil)))
theorem lp_n1 {E : DEnds} {S : Sto} {t n a : Nat} {M : List (List Int)} {hs : List Nat} (k : Tab S t M hs) (sq : SqN n M) (n3 : n ≤ 3) {i j : Nat} (hi : i < n) (hj : j < n) {b : Option (Nat × Nat × Nat)} (hq : E.nx [some (.han t), some (.int (a : Nat)), some (bestD (bestS M b (i, j))), some (.int (i : Nat)), some (.int (j : Nat))] S) :
    b_least_place_n1.wp E [some (.han t), some (.int (a : Nat)), some (bestD b), some (.int (i : Nat)), some (.int (j : Nat))] S := by
  have hl : i < hs.length := by rw [k.len, sq.1]; exact hi
  have rl : j < (row M i).length := by rw [sq.2 i hi]; exact hj
  unfold b_least_place_n1
  walk_at "wpc"
  refine k.ixR hl (k.ixE hl rl ?_)
  walk_at "wpc"
  by_cases e : en M i j = 0
  · simp only [e, not_true_eq_false, if_false, decide_true, Bool.not_true, Bool.false_eq_true]
    have : bestS M b (i, j) = b := by unfold bestS; simp [e]
    rw [this] at hq
    exact hq
  · simp only [e, decide_false, Bool.not_false, if_true]
    cases b with
    | none =>
      refine ⟨true, rfl, ?_⟩
      rw [if_pos rfl]
      have : bestS M none (i, j) = some ((en M i j).natAbs, i, j) := by unfold bestS; simp [e]
      rw [this] at hq
      refine k.ixR hl (k.ixE hl rl ?_)
      walk_at "wpc"
      exact hq
    | some b =>
      refine ⟨false, rfl, ?_⟩
      rw [if_neg (by simp)]
      refine k.ixR hl (k.ixE hl rl ?_)
      walk_at "wpc"
      unfold bestD
      walk_at "wpc"
      by_cases e2 : (en M i j).natAbs < b.1
      · rw [if_pos (by omega)]
        have : bestS M (some b) (i, j) = some ((en M i j).natAbs, i, j) := by unfold bestS; simp [e, e2]
        rw [this] at hq
        refine k.ixR hl (k.ixE hl rl ?_)
        walk_at "wpc"
        exact hq
      · rw [if_neg (by omega)]
        have : bestS M (some b) (i, j) = some b := by unfold bestS; simp [e, e2]
        rw [this] at hq
        exact hq
theorem w_least_place {ds : List D} {S : Sto} {Q : QD} {X : XD} (h : c_least_place ds S Q X) : ctOf N_least_place.length b_least_place ds S Q X := by
  obtain ⟨t, n, a, M, hs, rfl, k, sq, n3, a3, h⟩ := h
  have hl : hs.length = n := by rw [k.len, sq.1]
  unfold b_least_place N_least_place
  walk_at "wpc"
  rw [oLen_seq k.seq]
  walk_at "wpc"
  rw [List.length_map, hl, range_rg]
  refine ⟨by omega, ?_⟩
  refine forGo_pre (fun i : Nat => .int (i : Nat)) (rg a n) (fun pre env S' => ∃ a3 a4 : Option D, env = [some (.han t), some (.int (a : Nat)), some (bestD ((pre.flatMap fun i => (rg a n).map fun j => (i, j)).foldl (bestS M) none)), a3, a4] ∧ S' = S) ?_ ?_ ⟨_, _, rfl, rfl⟩
  · rintro pre i post he env1 S1 ⟨a3, a4, rfl, rfl⟩
    refine ⟨trivial, _, rfl, fun nx hnx => ?_⟩
    have hi : i < n := (rg_mem.mp (by rw [he]; simp : i ∈ rg a n)).2
    unfold b_least_place_n2
    walk_at "wpc"
    rw [oLen_seq k.seq]
    walk_at "wpc"
    rw [List.length_map, hl, range_rg]
    refine ⟨by omega, ?_⟩
    refine forGo_pre (fun i : Nat => .int (i : Nat)) (rg a n) (fun pre2 env S' => ∃ a4 : Option D, env = [some (.han t), some (.int (a : Nat)), some (bestD ((pre2.map fun j => (i, j)).foldl (bestS M) ((pre.flatMap fun i => (rg a n).map fun j => (i, j)).foldl (bestS M) none))), some (.int (i : Nat)), a4] ∧ S' = S1) ?_ ?_ ⟨_, rfl, rfl⟩
    · rintro pre2 j post2 he2 env2 S2 ⟨a4, rfl, rfl⟩
      refine ⟨trivial, _, rfl, fun nx2 hnx2 => ?_⟩
      have hj : j < n := (rg_mem.mp (by rw [he2]; simp : j ∈ rg a n)).2
      refine lp_n1 k sq n3 hi hj (hnx2 _ _ ⟨some (.int (j : Nat)), ?_, rfl⟩)
      rw [List.map_append, List.foldl_append]; rfl
    · rintro env2 S2 ⟨a4, rfl, rfl⟩
      refine ⟨trivial, hnx _ _ ⟨some (.int (i : Nat)), a4, ?_, rfl⟩⟩
      rw [List.flatMap_append, List.foldl_append]; simp
  · rintro env1 S1 ⟨a3, a4, rfl, rfl⟩
    refine ⟨trivial, ?_⟩
    walk_at "wpc"
    exact h
/-! ### a row that the pivot does not divide -/
def oddR (M : List (List Int)) (n a : Nat) (r : Nat) : Bool := ((row M r).drop (a + 1)).any fun x => decide (x.fmod (en M a a) ≠ 0)
def oddP (M : List (List Int)) (n a : Nat) : Option Nat := (rg (a + 1) n).find? (oddR M n a)
def optN : Option Nat → D
  | none => .non
  | some i => .int (i : Nat)
def c_odd_row : Ct := fun ds S Q _ => ∃ (t n a : Nat) (M : List (List Int)) (hs : List Nat), ds = [.han t, .int (a : Nat)] ∧ Tab S t M hs ∧ SqN n M ∧ n ≤ 3 ∧ a < n ∧ en M a a ≠ 0 ∧ Q (optN (oddP M n a)) S
/-- odd_row -/
def N_odd_row : List Str := ["table", "start", "row", "entry"]
def b_odd_row_n1 : DB := (DB.cons (DS.iff (DT.val (DE.any (DA.cons (DE.lst (DL.comp [("entry", 3)] (DG.nm 3) (DI.seq (DE.sl (DE.ix (DE.var 0) (DE.var 2)) (DO.so (DE.op .Add (DE.var 1) (DE.con (.int 1)))) DO.no)) DF.no (DE.cmp .NotEq (DE.op .Mod (DE.var 3) (DE.ix (DE.ix (DE.var 0) (DE.var 1)) (DE.var 1))) (DE.con (.int 0))))) DA.nil))) (DB.cons (DS.ret (DE.var 2))
  DB.nil) DB.nil)
  DB.nil)
def b_odd_row : DB := (DB.cons (DS.for (DG.nm 2) (DI.range2 (DE.op .Add (DE.var 1) (DE.con (.int 1))) (DE.len (DA.cons (DE.var 0) DA.nil))) b_odd_row_n1)
  (DB.cons (DS.ret (DE.con .non))
  DB.nil))
theorem w_odd_row {ds : List D} {S : Sto} {Q : QD} {X : XD} (h : c_odd_row ds S Q X) : ctOf N_odd_row.length b_odd_row ds S Q X := by
  obtain ⟨t, n, a, M, hs, rfl, k, sq, n3, a3, e0, h⟩ := h
  have hl : hs.length = n := by rw [k.len, sq.1]
  have ha : a < hs.length := by omega
  have raa : a < (row M a).length := by rw [sq.2 a a3]; exact a3
  unfold b_odd_row N_odd_row
  walk_at "wpc"
  rw [oLen_seq k.seq]
  walk_at "wpc"
  have ea : ((a : Int) + 1) = ((a + 1 : Nat) : Int) := by omega
  rw [List.length_map, hl, ea, range_rg]
  refine ⟨by omega, ?_⟩
  refine forGo_pre (fun i : Nat => .int (i : Nat)) (rg (a + 1) n) (fun pre env S' => ∃ a2 a3 : Option D, env = [some (.han t), some (.int (a : Nat)), a2, a3] ∧ S' = S ∧ ∀ r ∈ pre, oddR M n a r = false) ?_ ?_ ⟨_, _, rfl, rfl, by simp⟩
  · rintro pre i post he env1 S1 ⟨a2, a3, rfl, rfl, hp⟩
    refine ⟨trivial, _, rfl, fun nx hnx => ?_⟩
    have hi : i < n := (rg_mem.mp (by rw [he]; simp : i ∈ rg (a + 1) n)).2
    have hi' : i < hs.length := by omega
    unfold b_odd_row_n1
    walk_at "wpc"
    refine k.ixR hi' ?_
    have ls : lstOf S1 (.han hs[i]) = some ((row M i).map .int) := by
      unfold lstOf
      simp [k.row i hi']
    refine ⟨_, ls, ?_⟩
    rw [ea, cut_from, ← List.map_drop]
    walk_at "wpc"
    refine ⟨by rw [List.length_map, List.length_drop, sq.2 i hi]; exact szLe (by omega), ?_⟩
    refine compGo_all0 D.int (fun x => .bl (decide (x.fmod (en M a a) ≠ 0))) ((row M i).drop (a + 1)) (fun x hx => ⟨_, rfl, fun Qd hq => ?_⟩) ?_
    · walk_at "wpc"
      refine k.ixR ha (k.ixE ha raa ?_)
      walk_at "wpc"
      refine ⟨e0, ?_⟩
      simpa using hq
    rw [show (((row M i).drop (a + 1)).map fun x => D.bl (decide (x.fmod (en M a a) ≠ 0))) = (((row M i).drop (a + 1)).map fun x => decide (x.fmod (en M a a) ≠ 0)).map .bl by rw [List.map_map]; rfl]
    refine oAny_l _ _ _ ⟨_, rfl, ?_⟩
    have eo : (((row M i).drop (a + 1)).map fun x => decide (x.fmod (en M a a) ≠ 0)).any id = oddR M n a i := by unfold oddR; rw [List.any_map]; rfl
    rw [eo]
    cases e2 : oddR M n a i with
    | true =>
      rw [if_pos rfl]
      have : oddP M n a = some i := by
        unfold oddP
        rw [he, List.find?_append, List.find?_cons_of_pos (by rw [e2])]
        rw [List.find?_eq_none.mpr (fun r hr => by rw [hp r hr]; simp)]
        rfl
      rw [this] at h
      exact h
    | false =>
      rw [if_neg (by simp)]
      refine hnx _ _ ⟨_, _, rfl, rfl, fun r hr => ?_⟩
      rcases List.mem_append.mp hr with hr | hr
      · exact hp r hr
      · have : r = i := by simpa using hr
        rw [this]; exact e2
  · rintro env1 S1 ⟨a2, a3, rfl, rfl, hp⟩
    refine ⟨trivial, ?_⟩
    walk_at "wpc"
    have : oddP M n a = none := by
      unfold oddP
      rw [List.find?_eq_none]
      intro r hr
      rw [hp r hr]; simp
    rw [this] at h
    exact h
/-! #### HK -/
/-! ### the state of `matched` -/
def sw (i j k : Nat) : Nat := if k = j then i else if k = i then j else k
theorem swapL_get {α : Type} (d : α) (l : List α) {i j : Nat} (hi : i < l.length) (hj : j < l.length) (k : Nat) : (swapL d l i j)[k]? = l[sw i j k]? := by
  unfold swapL sw
  by_cases e1 : k = j
  · subst e1
    rw [if_pos rfl, List.getElem?_set_self (by simpa using hj)]
    simp [List.getD, hi]
  · rw [if_neg e1, List.getElem?_set_ne (fun h => e1 h.symm)]
    by_cases e2 : k = i
    · subst e2
      rw [if_pos rfl, List.getElem?_set_self hi]
      simp [List.getD, hj]
    · rw [if_neg e2, List.getElem?_set_ne (fun h => e2 h.symm)]
theorem sw_inj {i j k l : Nat} (h : sw i j k = sw i j l) : k = l := by
  unfold sw at h
  split at h <;> split at h <;> (try split at h) <;> (try split at h) <;> omega
theorem sw_lt {i j k n : Nat} (hi : i < n) (hj : j < n) (hk : k < n) : sw i j k < n := by
  unfold sw
  split
  · exact hi
  split
  · exact hj
  · exact hk
theorem row_get (M : List (List Int)) (i : Nat) : row M i = (M[i]?).getD [] := by unfold row; rw [List.getD_eq_getElem?_getD]
theorem row_swap {M : List (List Int)} {i j : Nat} (hi : i < M.length) (hj : j < M.length) (k : Nat) : row (swapL [] M i j) k = row M (sw i j k) := by
  rw [row_get, row_get, swapL_get [] M hi hj]
theorem getE {l : List Nat} {i : Nat} (h : i < l.length) : l[i]? = some l[i] := List.getElem?_eq_getElem h
theorem Tab.of {S : Sto} {t : Nat} {M : List (List Int)} {hs : List Nat} (h1 : S[t]? = some (.lst (hs.map .han))) (h2 : hs.length = M.length) (h3 : ∀ i h : Nat, hs[i]? = some h → S[h]? = some (O.lst ((DLay.row M i).map D.int))) (h4 : ∀ i j h : Nat, hs[i]? = some h → hs[j]? = some h → i = j) (h5 : t ∉ hs) : Tab S t M hs := by
  refine ⟨h1, h2, fun i hi => h3 i _ (getE hi), ?_, h5⟩
  rw [List.Nodup, List.pairwise_iff_getElem]
  intro i j hi hj hij e
  have := h4 i j hs[i] (getE hi) (by rw [e]; exact getE hj)
  omega
theorem Tab.inj {S : Sto} {t : Nat} {M : List (List Int)} {hs : List Nat} (k : Tab S t M hs) {i j h : Nat} (hi : hs[i]? = some h) (hj : hs[j]? = some h) : i = j := L2.nd_ix k.nod hi hj
theorem Tab.rowG {S : Sto} {t : Nat} {M : List (List Int)} {hs : List Nat} (k : Tab S t M hs) {i h : Nat} (hi : hs[i]? = some h) : S[h]? = some (.lst ((DLay.row M i).map .int)) := by
  obtain ⟨hl, e⟩ := List.getElem?_eq_some_iff.mp hi
  rw [← e]; exact k.row i hl
theorem Tab.lt {S : Sto} {t : Nat} {M : List (List Int)} {hs : List Nat} (k : Tab S t M hs) {h : Nat} (hh : h ∈ hs) : h < S.length := by
  obtain ⟨i, hi, rfl⟩ := List.getElem_of_mem hh
  exact (List.getElem?_eq_some_iff.mp (k.row i hi)).1
structure MS (S0 S : Sto) (t b : Nat) (M B : List (List Int)) (hs : List Nat) : Prop where
  tab : Tab S t M hs
  bas : S[b]? = some (.lst (B.map VE))
  bt : b ≠ t
  bh : b ∉ hs
  gr : Gr S0 S
  lt : S0.length ≤ t
  lb : S0.length ≤ b
  lh : ∀ h ∈ hs, S0.length ≤ h
section
variable {S0 S : Sto} {t b n : Nat} {M B : List (List Int)} {hs : List Nat}
theorem MS.blt (k : MS S0 S t b M B hs) : b < S.length := (List.getElem?_eq_some_iff.mp k.bas).1
theorem MS.tlt (k : MS S0 S t b M B hs) : t < S.length := (List.getElem?_eq_some_iff.mp k.tab.top).1
theorem MS.slt (k : MS S0 S t b M B hs) : S0.length ≤ S.length := by obtain ⟨J, e⟩ := k.gr; rw [e]; simp
theorem app_get {S : Sto} {i : Nat} {o : O} (h : S[i]? = some o) (J : Sto) : (S ++ J)[i]? = some o := by rw [List.getElem?_append_left (List.getElem?_eq_some_iff.mp h).1]; exact h
theorem MS.push (k : MS S0 S t b M B hs) (J : Sto) : MS S0 (S ++ J) t b M B hs := ⟨k.tab.ext J, app_get k.bas J, k.bt, k.bh, k.gr.trans ⟨J, rfl⟩, k.lt, k.lb, k.lh⟩
/-- table = swapped(table, i, j) -/
theorem MS.swapT (k : MS S0 S t b M B hs) {i j : Nat} (hi : i < M.length) (hj : j < M.length) : MS S0 (S ++ [.lst (swapL .non (hs.map .han) i j)]) S.length b (swapL [] M i j) B (swapL 0 hs i j) := by
  have hl := k.tab.len
  have hi' : i < hs.length := by omega
  have hj' : j < hs.length := by omega
  have mem : ∀ h, h ∈ swapL 0 hs i j → h ∈ hs := fun h hh => by
    obtain ⟨m, hm, e⟩ := List.getElem_of_mem hh
    have : (swapL 0 hs i j)[m]? = some h := by rw [List.getElem?_eq_getElem hm, e]
    rw [swapL_get 0 hs hi' hj'] at this
    exact List.mem_of_getElem? this
  have e : swapL D.non (hs.map .han) i j = (swapL 0 hs i j).map .han := by
    apply List.ext_getElem?
    intro m
    rw [swapL_get _ _ (by simpa using hi') (by simpa using hj'), List.getElem?_map, List.getElem?_map, swapL_get 0 hs hi' hj']
  rw [e]
  refine ⟨Tab.of (by simp) (by rw [swapL_len, swapL_len, hl]) (fun m h hm => ?_) (fun m m' h hm hm' => ?_) (fun hh => ?_), app_get k.bas _, ?_, fun hb => k.bh (mem b hb), k.gr.trans ⟨_, rfl⟩, k.slt, k.lb, fun h hh => k.lh h (mem h hh)⟩
  · rw [swapL_get 0 hs hi' hj'] at hm
    rw [row_swap hi hj]
    exact app_get (k.tab.rowG hm) _
  · rw [swapL_get 0 hs hi' hj'] at hm hm'
    exact sw_inj (k.tab.inj hm hm')
  · have := k.tab.lt (mem _ hh); omega
  · have := k.blt; omega
/-- basis = swapped(basis, i, j) -/
theorem MS.swapB (k : MS S0 S t b M B hs) {i j : Nat} (hi : i < B.length) (hj : j < B.length) : MS S0 (S ++ [.lst (swapL .non (B.map VE) i j)]) t S.length M (swapL [] B i j) hs := by
  have e : swapL D.non (B.map VE) i j = (swapL [] B i j).map VE := by
    apply List.ext_getElem?
    intro m
    rw [swapL_get _ _ (by simpa using hi) (by simpa using hj), List.getElem?_map, List.getElem?_map, swapL_get [] B hi hj]
  rw [e]
  exact ⟨k.tab.ext _, by simp, by have := k.tlt; omega, fun h => by have := k.tab.lt h; omega, k.gr.trans ⟨_, rfl⟩, k.lt, k.slt, k.lh⟩
/-- table[r] = a new row -/
theorem MS.setR (k : MS S0 S t b M B hs) {r : Nat} (hr : r < M.length) (v : List Int) : MS S0 ((S ++ [O.lst (v.map .int)]).set t (O.lst ((hs.map D.han).set r (.han S.length)))) t b (M.set r v) B (hs.set r S.length) := by
  have hl := k.tab.len
  have tl := k.tlt
  have mem : ∀ h, h ∈ hs.set r S.length → h ∈ hs ∨ h = S.length := fun h hh => List.mem_or_eq_of_mem_set hh
  have e : (hs.map D.han).set r (.han S.length) = (hs.set r S.length).map .han := by rw [List.map_set]
  rw [e]
  refine ⟨Tab.of ?_ (by simp [hl]) (fun m h hm => ?_) (fun m m' h hm hm' => ?_) (fun hh => ?_), ?_, k.bt, fun hb => ?_, ?_, k.lt, k.lb, fun h hh => ?_⟩
  · rw [List.getElem?_set_self (by simp; omega)]
  · by_cases em : m = r
    · subst em
      rw [List.getElem?_set_self (by omega)] at hm
      cases hm
      rw [List.getElem?_set_ne (by omega)]
      have : row (M.set m v) m = v := by rw [row_get, List.getElem?_set_self hr]; rfl
      rw [this]; simp
    · rw [List.getElem?_set_ne (fun h => em h.symm)] at hm
      have ht : h ≠ t := fun e => k.tab.out (e ▸ List.mem_of_getElem? hm)
      rw [List.getElem?_set_ne (fun h => ht h.symm)]
      have : row (M.set r v) m = row M m := by rw [row_get, row_get, List.getElem?_set_ne (fun h => em h.symm)]
      rw [this]
      exact app_get (k.tab.rowG hm) _
  · have lt : ∀ {m : Nat}, hs[m]? = some S.length → False := fun hm => by have := k.tab.lt (List.mem_of_getElem? hm); omega
    by_cases em : m = r
    · by_cases em' : m' = r
      · omega
      · subst em
        rw [List.getElem?_set_self (by omega)] at hm
        rw [List.getElem?_set_ne (fun h => em' h.symm)] at hm'
        cases hm
        exact (lt hm').elim
    · by_cases em' : m' = r
      · subst em'
        rw [List.getElem?_set_self (by omega)] at hm'
        rw [List.getElem?_set_ne (fun h => em h.symm)] at hm
        cases hm'
        exact (lt hm).elim
      · rw [List.getElem?_set_ne (fun h => em h.symm)] at hm
        rw [List.getElem?_set_ne (fun h => em' h.symm)] at hm'
        exact k.tab.inj hm hm'
  · rcases mem t hh with h | h
    · exact k.tab.out h
    · omega
  · rw [List.getElem?_set_ne (fun h => k.bt h.symm)]; exact app_get k.bas _
  · rcases mem b hb with h | h
    · exact k.bh h
    · have := k.blt; omega
  · obtain ⟨J, e⟩ := k.gr
    have := k.lt
    rw [e, List.append_assoc, List.set_append_right _ _ this]
    exact ⟨_, rfl⟩
  · rcases mem h hh with h | h
    · exact k.lh _ h
    · have := k.slt; omega
/-- row[c] = x, for the row at i -/
theorem MS.setE (k : MS S0 S t b M B hs) {i : Nat} (hi : i < hs.length) (v : List Int) : MS S0 (S.set hs[i] (O.lst (v.map .int))) t b (M.set i v) B hs := by
  have hl := k.tab.len
  have hin : hs[i] ∈ hs := List.getElem_mem hi
  have lt := k.tab.lt hin
  have nt : hs[i] ≠ t := fun e => k.tab.out (e ▸ hin)
  refine ⟨Tab.of ?_ (by simp [hl]) (fun m h hm => ?_) (fun m m' h hm hm' => k.tab.inj hm hm') k.tab.out, ?_, k.bt, k.bh, ?_, k.lt, k.lb, k.lh⟩
  · rw [List.getElem?_set_ne nt]; exact k.tab.top
  · by_cases em : m = i
    · subst em
      rw [List.getElem?_eq_getElem hi] at hm
      cases hm
      rw [List.getElem?_set_self lt]
      have : row (M.set m v) m = v := by rw [row_get, List.getElem?_set_self (by omega)]; rfl
      rw [this]
    · have ne : h ≠ hs[i] := fun e => em (k.tab.inj (e ▸ hm) (getE hi))
      rw [List.getElem?_set_ne (fun h => ne h.symm)]
      have : row (M.set i v) m = row M m := by rw [row_get, row_get, List.getElem?_set_ne (fun h => em h.symm)]
      rw [this]
      exact k.tab.rowG hm
  · have nb : hs[i] ≠ b := fun e => k.bh (by rw [← e]; exact hin)
    rw [List.getElem?_set_ne nb]; exact k.bas
  · obtain ⟨J, e⟩ := k.gr
    have := k.lh _ hin
    rw [e, List.set_append_right _ _ this]
    exact ⟨_, rfl⟩
/-- basis[r] = v -/
theorem MS.setB (k : MS S0 S t b M B hs) (r : Nat) (v : List Int) : MS S0 (S.set b (O.lst ((B.map VE).set r (VE v)))) t b M (B.set r v) hs := by
  have lt := k.blt
  have e : (B.map VE).set r (VE v) = (B.set r v).map VE := by rw [List.map_set]
  rw [e]
  refine ⟨Tab.of ?_ k.tab.len (fun m h hm => ?_) (fun m m' h hm hm' => k.tab.inj hm hm') k.tab.out, ?_, k.bt, k.bh, ?_, k.lt, k.lb, k.lh⟩
  · rw [List.getElem?_set_ne k.bt]; exact k.tab.top
  · have ne : h ≠ b := fun e => k.bh (e ▸ List.mem_of_getElem? hm)
    rw [List.getElem?_set_ne (fun h => ne h.symm)]
    exact k.tab.rowG hm
  · rw [List.getElem?_set_self lt]
  · obtain ⟨J, e⟩ := k.gr
    have := k.lb
    rw [e, List.set_append_right _ _ this]
    exact ⟨_, rfl⟩
end
/-! #### HL -/
/-! ### the steps of `matched` -/
def subF (f : Int) (u v : List Int) : List Int := (u.zip v).map fun p => p.1 - f * p.2
def addF (u v : List Int) : List Int := (u.zip v).map fun p => p.1 + p.2
def rowS (a : Nat) (p : Int) (M : List (List Int)) (r : Nat) : List (List Int) := M.set r (subF ((en M r a).fdiv p) (row M r) (row M a))
def colS (a c : Nat) (f : Int) (v : List Int) : List Int := v.set c (gt v c - f * gt v a)
def colM (a : Nat) (p : Int) (st : List (List Int) × List (List Int)) (c : Nat) : List (List Int) × List (List Int) := (st.1.map (colS a c ((en st.1 a c).fdiv p)), st.2.set a (plusV (row st.2 a) ((en st.1 a c).fdiv p) (row st.2 c)))
def anyF (M : List (List Int)) (n a : Nat) : Bool := (rg (a + 1) n).any fun r => decide (en M r a ≠ 0) || decide (en M a r ≠ 0)
/-- matched -/
def N_matched : List Str := ["one", "other", "n", "table", "basis", "start", "size", "i", "j", "pivot", "row", "factor", "column", "odd", "vector", "x", "y", "place"]
def b_matched_n1 : DB := (DB.cons (DS.set 11 (DE.op .FloorDiv (DE.ix (DE.ix (DE.var 3) (DE.var 10)) (DE.var 5)) (DE.var 9)))
  (DB.cons (DS.sub (DE.var 3) (DE.var 10) (DE.thw (DL.comp [("x", 15), ("y", 16)] (DG.tp (DGs.cons 15 (DGs.cons 16 DGs.nil))) (DI.zip (DE.ix (DE.var 3) (DE.var 10)) (DE.ix (DE.var 3) (DE.var 5))) DF.no (DE.op .Sub (DE.var 15) (DE.op .Mult (DE.var 11) (DE.var 16))))))
  DB.nil))
def b_matched_n2 : DB := (DB.cons (DS.sub (DE.var 10) (DE.var 12) (DE.op .Sub (DE.ix (DE.var 10) (DE.var 12)) (DE.op .Mult (DE.var 11) (DE.ix (DE.var 10) (DE.var 5)))))
  DB.nil)
def b_matched_n3 : DB := (DB.cons (DS.set 11 (DE.op .FloorDiv (DE.ix (DE.ix (DE.var 3) (DE.var 5)) (DE.var 12)) (DE.var 9)))
  (DB.cons (DS.for (DG.nm 10) (DI.seq (DE.var 3)) b_matched_n2)
  (DB.cons (DS.sub (DE.var 4) (DE.var 5) (DE.call "plus" c_plus (DA.cons (DE.ix (DE.var 4) (DE.var 5)) (DA.cons (DE.var 11) (DA.cons (DE.ix (DE.var 4) (DE.var 12)) DA.nil)))))
  DB.nil)))
def b_matched_f4_c7 : DB := (DB.cons (DS.set 13 (DE.call "odd_row" c_odd_row (DA.cons (DE.var 3) (DA.cons (DE.var 5) DA.nil))))
  (DB.cons (DS.iff (DT.val (DE.any (DA.cons (DE.lst (DL.comp [("row", 10)] (DG.nm 10) (DI.range2 (DE.op .Add (DE.var 5) (DE.con (.int 1))) (DE.var 2)) DF.no (DE.bool (DV.cons (DE.cmp .NotEq (DE.ix (DE.ix (DE.var 3) (DE.var 10)) (DE.var 5)) (DE.con (.int 0))) (DV.one .Or (DE.cmp .NotEq (DE.ix (DE.ix (DE.var 3) (DE.var 5)) (DE.var 10)) (DE.con (.int 0)))))))) DA.nil))) (DB.cons DS.cont
  DB.nil) DB.nil)
  (DB.cons (DS.iff (DT.cmp .IsNot (DE.var 13) (DE.con .non)) (DB.cons (DS.sub (DE.var 3) (DE.var 5) (DE.thw (DL.comp [("x", 15), ("y", 16)] (DG.tp (DGs.cons 15 (DGs.cons 16 DGs.nil))) (DI.zip (DE.ix (DE.var 3) (DE.var 5)) (DE.ix (DE.var 3) (DE.var 13))) DF.no (DE.op .Add (DE.var 15) (DE.var 16)))))
  (DB.cons DS.cont
  DB.nil)) DB.nil)
  (DB.cons (DS.set 5 (DE.op .Add (DE.var 5) (DE.con (.int 1))))
  DB.nil))))
def b_matched_f4_c6 : DB := (DB.cons (DS.for (DG.nm 12) (DI.range2 (DE.op .Add (DE.var 5) (DE.con (.int 1))) (DE.var 2)) b_matched_n3)
  b_matched_f4_c7)
def b_matched_f4_c5 : DB := (DB.cons (DS.for (DG.nm 10) (DI.range2 (DE.op .Add (DE.var 5) (DE.con (.int 1))) (DE.var 2)) b_matched_n1)
  b_matched_f4_c6)
def b_matched_f4_c4 : DB := (DB.cons (DS.set 9 (DE.ix (DE.ix (DE.var 3) (DE.var 5)) (DE.var 5)))
  b_matched_f4_c5)
def b_matched_f4_c1 : DB := (DB.cons (DS.set 3 (DE.call "swapped" c_swapped (DA.cons (DE.var 3) (DA.cons (DE.var 5) (DA.cons (DE.var 7) DA.nil)))))
  (DB.cons (DS.setK 3 (DE.thw (DL.comp [("row", 10)] (DG.nm 10) (DI.seq (DE.var 3)) DF.no (DE.call "swapped" c_swapped (DA.cons (DE.var 10) (DA.cons (DE.var 5) (DA.cons (DE.var 8) DA.nil)))))))
  (DB.cons (DS.set 4 (DE.call "swapped" c_swapped (DA.cons (DE.var 4) (DA.cons (DE.var 5) (DA.cons (DE.var 8) DA.nil)))))
  b_matched_f4_c4)))
def b_matched_f4 : DB := (DB.cons (DS.asg (DG.tp (DGs.cons 6 (DGs.cons 7 (DGs.cons 8 DGs.nil)))) (DE.call "least_place" c_least_place (DA.cons (DE.var 3) (DA.cons (DE.var 5) DA.nil))))
  b_matched_f4_c1)
def b_matched_c5 : DB := (DB.cons (DS.ret (DE.tup (DA.cons (DE.tuple (DA.cons (DE.lst (DL.comp [("place", 17)] (DG.nm 17) (DI.range1 (DE.var 2)) DF.no (DE.abs (DA.cons (DE.ix (DE.ix (DE.var 3) (DE.var 17)) (DE.var 17)) DA.nil)))) DA.nil)) (DA.cons (DE.tuple (DA.cons (DE.lst (DL.comp [("row", 10)] (DG.nm 10) (DI.seq (DE.var 4)) DF.no (DE.tuple (DA.cons (DE.var 10) DA.nil)))) DA.nil)) DA.nil))))
  DB.nil)
def b_matched_c4 : DB := (DB.cons (DS.while (DT.cmp .Lt (DE.var 5) (DE.var 2)) b_matched_f4)
  b_matched_c5)
def b_matched : DB := (DB.cons (DS.set 2 (DE.len (DA.cons (DE.var 0) DA.nil)))
  (DB.cons (DS.setK 3 (DE.thw (DL.comp [("vector", 14)] (DG.nm 14) (DI.seq (DE.var 0)) DF.no (DE.thw (DL.lof (DA.cons (DE.call "whole_coefficients" c_whole_coefficients (DA.cons (DE.var 1) (DA.cons (DE.var 14) DA.nil))) DA.nil))))))
  (DB.cons (DS.set 4 (DE.thw (DL.lof (DA.cons (DE.var 1) DA.nil))))
  (DB.cons (DS.set 5 (DE.con (.int 0)))
  b_matched_c4))))
theorem subF_len {n : Nat} {u v : List Int} (hu : u.length = n) (hv : v.length = n) (f : Int) : (subF f u v).length = n := by simp [subF, hu, hv]
theorem zip_han {S : Sto} {t : Nat} {M : List (List Int)} {hs : List Nat} (k : Tab S t M hs) {i j : Nat} (hi : i < hs.length) (hj : j < hs.length) {Q : QI} (q : Q (((row M i).zip (row M j)).map fun p => .tup [.int p.1, .int p.2]) [(hs[i], (row M i).map .int), (hs[j], (row M j).map .int)] S) : zipP (.han hs[i]) (.han hs[j]) S Q := by
  have l1 : lstOf S (.han hs[i]) = some ((row M i).map .int) := by unfold lstOf; simp [k.row i hi]
  have l2 : lstOf S (.han hs[j]) = some ((row M j).map .int) := by unfold lstOf; simp [k.row j hj]
  refine ⟨_, _, .inr ⟨l1, l2⟩, ?_⟩
  rw [zipD_map]
  exact q
theorem src_rows {S : Sto} {t : Nat} {M : List (List Int)} {hs : List Nat} (k : Tab S t M hs) {i j : Nat} (hi : i < hs.length) (hj : j < hs.length) : srcOk [(hs[i], (row M i).map .int), (hs[j], (row M j).map .int)] S := ⟨k.row i hi, k.row j hj, trivial⟩
theorem compGo_allS {α : Type} {bd : D → Env → Sto → Option Env} {e : WE} {env : Env} {src : Src} {S : Sto} {Q : QL} (enc : α → D) (g : α → D) (hs : srcOk src S) (L : List α)
    (h : ∀ a ∈ L, ∃ env', bd (enc a) env S = some env' ∧ (∀ Qd : QD, Qd (g a) S → e env' S Qd noX))
    (hq : Q (L.map g) S) : compGo bd wYes e env src (L.map enc) S [] Q := compGo_all enc g hs L h hq
theorem sm_fdiv {kk : Nat} {x p : Int} (hx : Sm kk x) (hp : Sm kk p) (p0 : p ≠ 0) : Sm (kk + 1) (x.fdiv p) := by
  have h1 := fd_le2 x p0
  unfold Sm at *
  rw [Nat.pow_succ]
  omega
theorem mt_n1 {E : DEnds} {S0 S : Sto} {t b n : Nat} {M B : List (List Int)} {hs : List Nat} (k : MS S0 S t b M B hs) (sq : SqN n M) (n3 : n ≤ 3) {a r kk : Nat} (ha : a < n) (hr : r < n) {p : Int} (sm : ∀ i j, Sm kk (en M i j)) (sp : Sm kk p) (p0 : p ≠ 0) (hk : kk ≤ 8000) {a0 a1 a6 a7 a8 a11 a12 a13 a14 a15 a16 a17 : Option D}
    (hq : ∀ a11 a15 a16 S', MS S0 S' t b (rowS a p M r) B (hs.set r S.length) → E.nx [a0, a1, some (.int (n : Nat)), some (.han t), some (.han b), some (.int (a : Nat)), a6, a7, a8, some (.int p), some (.int (r : Nat)), a11, a12, a13, a14, a15, a16, a17] S') :
    b_matched_n1.wp E [a0, a1, some (.int (n : Nat)), some (.han t), some (.han b), some (.int (a : Nat)), a6, a7, a8, some (.int p), some (.int (r : Nat)), a11, a12, a13, a14, a15, a16, a17] S := by
  have hl : hs.length = n := by rw [k.tab.len, sq.1]
  have ha' : a < hs.length := by omega
  have hr' : r < hs.length := by omega
  unfold b_matched_n1
  walk_at "wpc"
  refine k.tab.ixR hr' (k.tab.ixE hr' (by rw [sq.2 r hr]; exact ha) ?_)
  walk_at "wpc"
  refine ⟨(sp.mono (by omega : kk ≤ 8990)).div p0 (by omega), ?_⟩
  refine k.tab.ixR hr' (k.tab.ixR ha' (zip_han k.tab hr' ha' ?_))
  walk_at "wpc"
  have sf : Sm (kk + 1) ((en M r a).fdiv p) := sm_fdiv (sm r a) sp p0
  refine ⟨by rw [List.length_map, List.length_zip, sq.2 r hr]; exact szLe (by omega), compGo_allS _ (fun q => .int (q.1 - (en M r a).fdiv p * q.2)) (src_rows k.tab hr' ha') ((row M r).zip (row M a)) (fun q hq => ⟨_, rfl, fun Qd hq => ?_⟩) ?_⟩
  · walk_at "wpc"
    have : Sm kk q.2 := by
      obtain ⟨_, h2⟩ := List.of_mem_zip (show (q.1, q.2) ∈ _ from by assumption)
      obtain ⟨j, hj, e⟩ := List.getElem_of_mem h2
      have := sm a j
      unfold en at this
      rw [gt_lt hj, e] at this
      exact this
    exact ⟨sf.ok this (by omega), hq⟩
  have ev : (((row M r).zip (row M a)).map fun q => D.int (q.1 - (en M r a).fdiv p * q.2)) = (subF ((en M r a).fdiv p) (row M r) (row M a)).map .int := by unfold subF; rw [List.map_map]; rfl
  rw [ev]
  refine ⟨r, hs.map .han, app_get k.tab.top _, by rw [List.length_map]; exact ix_nat hr', ?_⟩
  exact hq _ _ _ _ (k.setR (by rw [sq.1]; exact hr) _)
theorem mt_n2 {E : DEnds} {S0 S : Sto} {t b n : Nat} {M B : List (List Int)} {hs : List Nat} (k : MS S0 S t b M B hs) (sq : SqN n M) (n3 : n ≤ 3) {a c i kk : Nat} (ha : a < n) (hc : c < n) (hi : i < hs.length) {f : Int} (sm : ∀ i j, Sm kk (en M i j)) (sf : Sm (kk + 1) f) (hk : kk ≤ 8000) {a0 a1 a6 a7 a8 a9 a13 a14 a15 a16 a17 : Option D}
    (hq : MS S0 (S.set hs[i] (O.lst ((colS a c f (row M i)).map .int))) t b (M.set i (colS a c f (row M i))) B hs → E.nx [a0, a1, some (.int (n : Nat)), some (.han t), some (.han b), some (.int (a : Nat)), a6, a7, a8, a9, some (.han hs[i]), some (.int f), some (.int (c : Nat)), a13, a14, a15, a16, a17] (S.set hs[i] (O.lst ((colS a c f (row M i)).map .int)))) :
    b_matched_n2.wp E [a0, a1, some (.int (n : Nat)), some (.han t), some (.han b), some (.int (a : Nat)), a6, a7, a8, a9, some (.han hs[i]), some (.int f), some (.int (c : Nat)), a13, a14, a15, a16, a17] S := by
  have hl : hs.length = n := by rw [k.tab.len, sq.1]
  have rl : (row M i).length = n := sq.2 i (by omega)
  unfold b_matched_n2
  walk_at "wpc"
  refine k.tab.ixE hi (by rw [rl]; exact hc) ?_
  walk_at "wpc"
  refine k.tab.ixE hi (by rw [rl]; exact ha) ?_
  walk_at "wpc"
  refine ⟨sf.ok (sm i a) (by omega), c, (row M i).map .int, k.tab.row i hi, by rw [List.length_map, rl]; exact ix_nat hc, ?_⟩
  have e : ((row M i).map D.int).set c (.int (en M i c - f * en M i a)) = (colS a c f (row M i)).map .int := by unfold colS; rw [List.map_set]; rfl
  rw [e]
  exact hq (k.setE hi _)
theorem map_take_step {α : Type} (f : α → α) (M : List α) (i : Nat) (h : i < M.length) (d : α) : ((M.take i).map f ++ M.drop i).set i (f (M.getD i d)) = (M.take (i + 1)).map f ++ M.drop (i + 1) := by
  apply List.ext_getElem?
  intro m
  have lt : ((M.take i).map f).length = i := by simp; omega
  have lt' : ((M.take (i + 1)).map f).length = i + 1 := by simp; omega
  by_cases e : m = i
  · subst e
    rw [List.getElem?_set_self (by simp; omega), List.getElem?_append_left (by omega), List.getElem?_map, List.getElem?_take, if_pos (by omega)]
    simp [List.getD, h]
  · rw [List.getElem?_set_ne (fun z => e z.symm)]
    by_cases e2 : m < i
    · rw [List.getElem?_append_left (by omega), List.getElem?_append_left (by omega), List.getElem?_map, List.getElem?_map, List.getElem?_take, List.getElem?_take, if_pos e2, if_pos (by omega)]
    · rw [List.getElem?_append_right (by omega), List.getElem?_append_right (by omega), lt, lt', List.getElem?_drop, List.getElem?_drop]
      congr 1
      omega
def partM (f : List Int → List Int) (M : List (List Int)) (i : Nat) : List (List Int) := (M.take i).map f ++ M.drop i
theorem partM_len (f : List Int → List Int) (M : List (List Int)) (i : Nat) : (partM f M i).length = M.length := by simp [partM]; omega
theorem partM_row (f : List Int → List Int) (M : List (List Int)) {i m : Nat} (hi : i ≤ M.length) (hm : m < M.length) : row (partM f M i) m = if m < i then f (row M m) else row M m := by
  unfold partM
  rw [row_get, row_get]
  have lt : ((M.take i).map f).length = i := by simp; omega
  by_cases e : m < i
  · rw [if_pos e, List.getElem?_append_left (by omega), List.getElem?_map, List.getElem?_take, if_pos e]
    simp [hm]
  · rw [if_neg e, List.getElem?_append_right (by omega), lt, List.getElem?_drop]
    congr 2
    omega
theorem mt_n3 {E : DEnds} {S0 S : Sto} {t b n : Nat} {M B : List (List Int)} {hs : List Nat} (k : MS S0 S t b M B hs) (sq : SqN n M) (n3 : n ≤ 3) (lB : B.length = n) {kB : Nat} (vB : ∀ v ∈ B, VecOk kB n v) (hB : kB ≤ 900000) {a c kk : Nat} (ha : a < n) (hc : c < n) {p : Int} (sm : ∀ i j, Sm kk (en M i j)) (sp : Sm kk p) (p0 : p ≠ 0) (k6 : 6 ≤ kk) (hk : kk ≤ 3000) {a0 a1 a6 a7 a8 a10 a11 a13 a14 a15 a16 a17 : Option D}
    (hq : ∀ a10 a11 S', MS S0 S' t b (colM a p (M, B) c).1 (colM a p (M, B) c).2 hs → E.nx [a0, a1, some (.int (n : Nat)), some (.han t), some (.han b), some (.int (a : Nat)), a6, a7, a8, some (.int p), a10, a11, some (.int (c : Nat)), a13, a14, a15, a16, a17] S') :
    b_matched_n3.wp E [a0, a1, some (.int (n : Nat)), some (.han t), some (.han b), some (.int (a : Nat)), a6, a7, a8, some (.int p), a10, a11, some (.int (c : Nat)), a13, a14, a15, a16, a17] S := by
  have hl : hs.length = n := by rw [k.tab.len, sq.1]
  have ha' : a < hs.length := by omega
  have sf : Sm (kk + 1) ((en M a c).fdiv p) := sm_fdiv (sm a c) sp p0
  unfold b_matched_n3
  walk_at "wpc"
  refine k.tab.ixR ha' (k.tab.ixE ha' (by rw [sq.2 a ha]; exact hc) ?_)
  walk_at "wpc"
  refine ⟨(sp.mono (by omega : kk ≤ 8990)).div p0 (by omega), _, k.tab.seq, ?_⟩
  generalize hf : (en M a c).fdiv p = f at sf
  refine forGo_pre (fun h : Nat => D.han h) hs (fun pre env S' => ∃ a10 : Option D, env = [a0, a1, some (.int (n : Nat)), some (.han t), some (.han b), some (.int (a : Nat)), a6, a7, a8, some (.int p), a10, some (.int f), some (.int (c : Nat)), a13, a14, a15, a16, a17] ∧ MS S0 S' t b (partM (colS a c f) M pre.length) B hs) ?_ ?_ ⟨_, rfl, by simpa [partM] using k⟩
  · rintro pre h post he env1 S1 ⟨a10, rfl, k1⟩
    refine ⟨⟨k1.tab.top, trivial⟩, _, rfl, fun nx hnx => ?_⟩
    have hp : pre.length < hs.length := by rw [he]; simp
    have eh : hs[pre.length] = h := by simp [he]
    have lM : pre.length < M.length := by rw [sq.1]; omega
    have sq1 : SqN n (partM (colS a c f) M pre.length) := ⟨by rw [partM_len, sq.1], fun i hi => by
      rw [partM_row _ _ (by omega) (by rw [sq.1]; exact hi)]
      split
      · simp [colS, sq.2 i hi]
      · exact sq.2 i hi⟩
    have er : row (partM (colS a c f) M pre.length) pre.length = row M pre.length := by rw [partM_row _ _ (by omega) lM, if_neg (by omega)]
    have es : (partM (colS a c f) M pre.length).set pre.length (colS a c f (row M pre.length)) = partM (colS a c f) M (pre.length + 1) := map_take_step (colS a c f) M pre.length lM []
    have sm1 : ∀ i j, Sm (2 * kk + 3) (en (partM (colS a c f) M pre.length) i j) := fun i j => by
      unfold en
      by_cases hi : i < M.length
      · rw [partM_row _ _ (by omega) hi]
        split
        · unfold colS
          have g : gt ((row M i).set c (gt (row M i) c - f * gt (row M i) a)) j = if j = c ∧ c < (row M i).length then gt (row M i) c - f * gt (row M i) a else gt (row M i) j := by
            by_cases hj : j < (row M i).length
            · rw [gt_lt (by simpa using hj), gt_lt hj, List.getElem_set]
              by_cases e : c = j
              · subst e; simp [hj]
              · have : ¬ j = c := fun z => e z.symm
                simp [e, this]
            · have : ¬ (j = c ∧ c < (row M i).length) := by omega
              have z : gt (row M i) j = 0 := gt_ge (by omega)
              rw [if_neg this, z]
              exact gt_ge (by simp; omega)
          rw [g]
          split
          · exact ((sm i c).sub (sf.mul (sm i a))).mono (by omega)
          · exact (sm i j).mono (by omega)
        · exact (sm i j).mono (by omega)
      · have : row (partM (colS a c f) M pre.length) i = [] := by rw [row_get, List.getElem?_eq_none (by rw [partM_len]; omega)]; rfl
        rw [this]
        have : gt ([] : List Int) j = 0 := gt_ge (by simp)
        rw [this]; exact (sm_lit 0 (by decide)).mono (by omega)
    subst eh
    exact mt_n2 k1 sq1 n3 ha hc hp sm1 (sf.mono (by omega)) (by omega) (fun k2 => hnx _ _ ⟨_, rfl, by rw [er] at k2 ⊢; rw [es] at k2; simpa using k2⟩)
  · rintro env1 S1 ⟨a10, rfl, k1⟩
    refine ⟨⟨k1.tab.top, trivial⟩, ?_⟩
    walk_at "wpc"
    have sb : seqOf S1 (.han b) = some (B.map VE) := by
      unfold seqOf tupOf lstOf
      simp [k1.bas]
    have ea : atI (B.map VE) (a : Int) = some (VE (row B a)) := by
      rw [atI_map, atI_some (by rw [lB]; exact ha), row_get, List.getElem?_eq_getElem (by rw [lB]; exact ha)]; rfl
    have ec : atI (B.map VE) (c : Int) = some (VE (row B c)) := by
      rw [atI_map, atI_some (by rw [lB]; exact hc), row_get, List.getElem?_eq_getElem (by rw [lB]; exact hc)]; rfl
    have va : VecOk kB n (row B a) := vB _ (by rw [row_get, List.getElem?_eq_getElem (by rw [lB]; exact ha)]; exact List.getElem_mem _)
    have vc : VecOk kB n (row B c) := vB _ (by rw [row_get, List.getElem?_eq_getElem (by rw [lB]; exact hc)]; exact List.getElem_mem _)
    rw [oIx_seq sb]
    refine ⟨_, ea, ?_⟩
    rw [oIx_seq sb]
    refine ⟨_, ec, ?_⟩
    refine ⟨row B a, f, row B c, rfl, by rw [va.1]; omega, fun x hx => sf.ok (vc.2 x hx) (by omega), ?_⟩
    refine ⟨a, B.map VE, k1.bas, by rw [List.length_map, lB]; exact ix_nat ha, ?_⟩
    have e2 : partM (colS a c f) M hs.length = M.map (colS a c f) := by
      unfold partM
      rw [List.take_of_length_le (by rw [sq.1]; omega), List.drop_of_length_le (by rw [sq.1]; omega), List.append_nil]
    rw [e2] at k1
    refine hq _ _ _ ?_
    unfold colM
    simp only
    rw [hf]
    exact k1.setB a _
/-! ### one round -/
def rowsF (n a : Nat) (p : Int) (M : List (List Int)) : List (List Int) := (rg (a + 1) n).foldl (rowS a p) M
def colsF (n a : Nat) (p : Int) (st : List (List Int) × List (List Int)) : List (List Int) × List (List Int) := (rg (a + 1) n).foldl (colM a p) st
theorem set_row {M : List (List Int)} {r : Nat} (v : List Int) (i : Nat) (hr : r < M.length) : row (M.set r v) i = if i = r then v else row M i := by
  rw [row_get, row_get]
  by_cases e : i = r
  · subst e; rw [if_pos rfl, List.getElem?_set_self hr]; rfl
  · rw [if_neg e, List.getElem?_set_ne (fun h => e h.symm)]
theorem gt_sub {n : Nat} {u v : List Int} (hu : u.length = n) (hv : v.length = n) (f : Int) (i : Nat) : gt (subF f u v) i = gt u i - f * gt v i := by
  by_cases h : i < n
  · rw [gt_lt (by rw [subF_len hu hv]; exact h), gt_lt (by omega), gt_lt (by omega)]; simp [subF]
  · rw [gt_ge (by rw [subF_len hu hv]; omega), gt_ge (by omega), gt_ge (by omega)]; simp
theorem rowS_sq {n a r : Nat} {p : Int} {M : List (List Int)} (sq : SqN n M) (ha : a < n) (hr : r < n) : SqN n (rowS a p M r) := by
  refine ⟨by simp [rowS, sq.1], fun i hi => ?_⟩
  unfold rowS
  rw [set_row _ _ (by rw [sq.1]; exact hr)]
  split
  · exact subF_len (sq.2 r hr) (sq.2 a ha) _
  · exact sq.2 i hi
theorem rowS_en {n a r : Nat} {p : Int} {M : List (List Int)} (sq : SqN n M) (ha : a < n) (hr : r < n) (i j : Nat) : en (rowS a p M r) i j = if i = r then en M r j - (en M r a).fdiv p * en M a j else en M i j := by
  unfold en rowS
  rw [set_row _ _ (by rw [sq.1]; exact hr)]
  split
  · exact gt_sub (sq.2 r hr) (sq.2 a ha) _ j
  · rfl
theorem rowS_sm {n a r kk : Nat} {p : Int} {M : List (List Int)} (sq : SqN n M) (ha : a < n) (hr : r < n) (sm : ∀ i j, Sm kk (en M i j)) (sp : Sm kk p) (p0 : p ≠ 0) (i j : Nat) : Sm (2 * kk + 3) (en (rowS a p M r) i j) := by
  rw [rowS_en sq ha hr]
  split
  · exact ((sm r j).sub ((sm_fdiv (sm r a) sp p0).mul (sm a j))).mono (by omega)
  · exact (sm i j).mono (by omega)
theorem colS_gt {v : List Int} {n : Nat} (hv : v.length = n) (a : Nat) {c : Nat} (hc : c < n) (f : Int) (j : Nat) : gt (colS a c f v) j = if j = c then gt v c - f * gt v a else gt v j := by
  unfold colS
  by_cases hj : j < n
  · rw [gt_lt (by simpa using (by omega : j < v.length)), gt_lt (show j < v.length by omega), List.getElem_set]
    by_cases e : c = j
    · subst e; simp
    · have : ¬ j = c := fun z => e z.symm
      simp [e, this]
  · have z : gt v j = 0 := gt_ge (by omega)
    rw [if_neg (by omega), z]
    exact gt_ge (by simp; omega)
theorem colM_sq {n a c : Nat} {p : Int} {M B : List (List Int)} (sq : SqN n M) : SqN n (colM a p (M, B) c).1 := by
  refine ⟨by simp [colM, sq.1], fun i hi => ?_⟩
  have : i < M.length := by rw [sq.1]; exact hi
  have h2 := sq.2 i hi
  rw [row_get, List.getElem?_eq_getElem this] at h2
  rw [row_get]
  simp only [colM, List.getElem?_map, List.getElem?_eq_getElem this, Option.map_some, Option.getD_some]
  simpa [colS] using h2
theorem colM_en {n a c : Nat} {p : Int} {M B : List (List Int)} (sq : SqN n M) (hc : c < n) {i : Nat} (hi : i < n) (j : Nat) : en (colM a p (M, B) c).1 i j = if j = c then en M i c - (en M a c).fdiv p * en M i a else en M i j := by
  have : i < M.length := by rw [sq.1]; exact hi
  unfold en
  have e : row (colM a p (M, B) c).1 i = colS a c ((en M a c).fdiv p) (row M i) := by
    rw [row_get, row_get]
    simp only [colM, List.getElem?_map, List.getElem?_eq_getElem this, Option.map_some, Option.getD_some]
  rw [e]
  exact colS_gt (sq.2 i hi) a hc _ j
theorem en_out {M : List (List Int)} {i : Nat} (h : M.length ≤ i) (j : Nat) : en M i j = 0 := by
  unfold en
  rw [row_get, List.getElem?_eq_none h]
  exact gt_ge (by simp)
theorem colM_sm {n a c kk : Nat} {p : Int} {M B : List (List Int)} (sq : SqN n M) (hc : c < n) (sm : ∀ i j, Sm kk (en M i j)) (sp : Sm kk p) (p0 : p ≠ 0) (k6 : 6 ≤ kk) (i j : Nat) : Sm (2 * kk + 3) (en (colM a p (M, B) c).1 i j) := by
  by_cases hi : i < n
  · rw [colM_en sq hc hi]
    split
    · exact ((sm i c).sub ((sm_fdiv (sm a c) sp p0).mul (sm i a))).mono (by omega)
    · exact (sm i j).mono (by omega)
  · rw [en_out (by simp [colM]; rw [sq.1]; omega)]
    exact (sm_lit 0 (by decide)).mono (by omega)
/-! #### HM -/
/-! ### all columns swapped -/
def swC (a j : Nat) (M : List (List Int)) : List (List Int) := M.map fun v => swapL 0 v a j
theorem swC_row {M : List (List Int)} {i a j : Nat} (hi : i < M.length) : row (swC a j M) i = swapL 0 (row M i) a j := by
  rw [row_get, row_get]
  simp [swC, hi]
def newH (s n : Nat) : List Nat := (List.range n).map fun k => s + k
theorem MS.swapC {S0 S : Sto} {t b n : Nat} {M B : List (List Int)} {hs : List Nat} (k : MS S0 S t b M B hs) (lM : M.length = n) (a j : Nat) :
    MS S0 ((S ++ (swC a j M).map fun v => O.lst (v.map .int)) ++ [O.lst ((newH S.length n).map .han)]) (S ++ (swC a j M).map fun v => O.lst (v.map .int)).length b (swC a j M) B (newH S.length n) := by
  have lC : (swC a j M).length = n := by simp [swC, lM]
  have sl : (S ++ (swC a j M).map fun v => O.lst (v.map .int)).length = S.length + n := by simp [lC]
  have mem : ∀ h, h ∈ newH S.length n → S.length ≤ h ∧ h < S.length + n := fun h hh => by
    obtain ⟨m, hm, rfl⟩ := List.mem_map.mp hh
    have := List.mem_range.mp hm
    omega
  have get : ∀ i h : Nat, (newH S.length n)[i]? = some h → i < n ∧ h = S.length + i := fun i h e => by
    unfold newH at e
    rw [List.getElem?_map, Option.map_eq_some_iff] at e
    obtain ⟨m, e1, e2⟩ := e
    obtain ⟨h1, h2⟩ := List.getElem?_eq_some_iff.mp e1
    simp at h1 h2
    omega
  refine ⟨Tab.of (by simp) (by simp [newH, lC]) (fun i h hi => ?_) (fun i i' h hi hi' => ?_) (fun hh => ?_), app_get (app_get k.bas _) _, ?_, fun hb => ?_, (k.gr.trans ⟨_, rfl⟩).trans ⟨_, rfl⟩, ?_, k.lb, fun h hh => ?_⟩
  · obtain ⟨h1, rfl⟩ := get i h hi
    rw [List.getElem?_append_left (by omega), List.getElem?_append_right (by omega), List.getElem?_map, show S.length + i - S.length = i by omega, List.getElem?_eq_getElem (by omega), row_get, List.getElem?_eq_getElem (by omega)]
    rfl
  · have := get i h hi; have := get i' h hi'; omega
  · have := mem _ hh; omega
  · have := k.blt; omega
  · have := mem _ hb; have := k.blt; omega
  · have := k.slt; omega
  · have := mem _ hh; have := k.slt; omega
theorem comp_sw {S0 S : Sto} {t b n : Nat} {M B : List (List Int)} {hs : List Nat} (k : MS S0 S t b M B hs) (sq : SqN n M) (n3 : n ≤ 3) {a j : Nat} (ha : a < n) (hj : j < n) {env : Env} (h5 : (env.set 10 none)[5]? = some (some (.int (a : Nat)))) (h8 : (env.set 10 none)[8]? = some (some (.int (j : Nat)))) (h10 : 10 < env.length) {Q : QL}
    (q : Q ((newH S.length n).map .han) (S ++ (swC a j M).map fun v => O.lst (v.map .int))) :
    compGo (fun d env _ => some (env.set 10 (some d))) wYes (wCall c_swapped (wCons (wVar 10) (wCons (wVar 5) (wCons (wVar 8) wNil)))) (env.set 10 none) [(t, hs.map .han)] (hs.map .han) S [] Q := by
  have hl : hs.length = n := by rw [k.tab.len, sq.1]
  refine compGo_inv (fun L acc S' => ∃ pre post : List Nat, hs = pre ++ post ∧ L = post.map D.han ∧ S' = S ++ ((swC a j M).take pre.length).map (fun v => O.lst (v.map .int)) ∧ acc = (newH S.length pre.length).map .han) ?_ ?_ _ _ _ ⟨[], hs, rfl, rfl, by simp, rfl⟩
  · rintro d ds acc S' ⟨pre, post, he, hL, rfl, rfl⟩
    cases post with
    | nil => simp at hL
    | cons h post =>
      simp only [List.map_cons, List.cons.injEq] at hL
      obtain ⟨rfl, rfl⟩ := hL
      refine ⟨⟨app_get k.tab.top _, trivial⟩, _, rfl, fun Qt Qf hq _ => ?_⟩
      have hp : pre.length < hs.length := by rw [he]; simp
      have eh : hs[pre.length] = h := by simp [he]
      have lM : pre.length < M.length := by rw [sq.1]; omega
      have rl : (row M pre.length).length = n := sq.2 _ (by omega)
      have e10 : ((env.set 10 none).set 10 (some (D.han h)))[10]? = some (some (.han h)) := by rw [List.getElem?_set_self (by simpa using h10)]
      have e5 : ((env.set 10 none).set 10 (some (D.han h)))[5]? = some (some (.int (a : Nat))) := by rw [List.getElem?_set_ne (by omega)]; exact h5
      have e8 : ((env.set 10 none).set 10 (some (D.han h)))[8]? = some (some (.int (j : Nat))) := by rw [List.getElem?_set_ne (by omega)]; exact h8
      refine ⟨_, e10, _, e5, _, e8, ?_⟩
      have sr : seqOf (S ++ ((swC a j M).take pre.length).map (fun v => O.lst (v.map .int))) (.han h) = some ((row M pre.length).map .int) := by
        have := (k.tab.ext (((swC a j M).take pre.length).map fun v => O.lst (v.map .int))).rowS hp
        rw [eh] at this
        exact this
      refine ⟨_, _, a, j, rfl, sr, by rw [List.length_map, rl]; exact ha, by rw [List.length_map, rl]; exact hj, by rw [List.length_map, rl]; omega, ?_⟩
      have e1 : swapL D.non ((row M pre.length).map .int) a j = (swapL 0 (row M pre.length) a j).map .int := by
        apply List.ext_getElem?
        intro m
        rw [swapL_get _ _ (by rw [List.length_map, rl]; exact ha) (by rw [List.length_map, rl]; exact hj), List.getElem?_map, List.getElem?_map, swapL_get 0 _ (by rw [rl]; exact ha) (by rw [rl]; exact hj)]
      rw [e1]
      refine hq _ _ ⟨pre ++ [h], post, by rw [he]; simp, rfl, ?_, ?_⟩
      · rw [List.length_append, List.length_singleton, List.append_assoc]
        congr 1
        have l2 : pre.length < (swC a j M).length := by simp [swC]; exact lM
        rw [List.take_succ, List.getElem?_eq_getElem l2, List.map_append]
        have : (swC a j M)[pre.length] = swapL 0 (row M pre.length) a j := by
          have := swC_row (a := a) (j := j) lM
          rw [row_get, List.getElem?_eq_getElem l2] at this
          exact this
        rw [this]
        rfl
      · have l3 : (((swC a j M).take pre.length).map fun v => O.lst (v.map .int)).length = pre.length := by simp [swC]; omega
        have : (S ++ ((swC a j M).take pre.length).map fun v => O.lst (v.map .int)).length = S.length + pre.length := by rw [List.length_append, l3]
        rw [this, List.length_append, List.length_singleton]
        unfold newH
        rw [List.range_succ, List.map_append, List.map_append]
        rfl
  · rintro acc S' ⟨pre, post, he, hL, rfl, rfl⟩
    have : post = [] := by simpa using hL.symm
    subst this
    rw [List.append_nil] at he
    have lp : pre.length = n := by rw [← he]; exact hl
    refine ⟨⟨app_get k.tab.top _, trivial⟩, ?_⟩
    rw [lp, List.take_of_length_le (by simp [swC, sq.1])]
    exact q
/-! #### HN -/
structure St where
  a : Nat
  M : List (List Int)
  B : List (List Int)
/-- the end of a round -/
def endF (n a : Nat) (M B : List (List Int)) : St := if anyF M n a = true then ⟨a, M, B⟩ else match oddP M n a with
  | some o => ⟨a, M.set a (addF (row M a) (row M o)), B⟩
  | none => ⟨a + 1, M, B⟩
def mainF (n a : Nat) (M B : List (List Int)) : St := let p := en M a a; let st := colsF n a p (rowsF n a p M, B); endF n a st.1 st.2
def roundF (n : Nat) (s : St) (i j : Nat) : St := mainF n s.a (swC s.a j (swapL [] s.M s.a i)) (swapL [] s.B s.a j)
def mEnv (x0 x1 : D) (n : Nat) (t b a : Nat) (a6 a7 a8 a9 a10 a11 a12 a13 a14 a15 a16 a17 : Option D) : Env := [some x0, some x1, some (.int (n : Nat)), some (.han t), some (.han b), some (.int (a : Nat)), a6, a7, a8, a9, a10, a11, a12, a13, a14, a15, a16, a17]
/-- what holds after a round -/
def Aft (nx : Env → Sto → Prop) (x0 x1 : D) (n : Nat) (S0 : Sto) (s : St) : Prop := ∀ (t b : Nat) (hs : List Nat) (S : Sto) (a6 a7 a8 a9 a10 a11 a12 a13 a14 a15 a16 a17 : Option D), MS S0 S t b s.M s.B hs → nx (mEnv x0 x1 n t b s.a a6 a7 a8 a9 a10 a11 a12 a13 a14 a15 a16 a17) S
section
variable {E : DEnds} {S0 S : Sto} {t b n a kk : Nat} {M B : List (List Int)} {hs : List Nat} {x0 x1 : D} {a6 a7 a8 a9 a10 a11 a12 a13 a14 a15 a16 a17 : Option D}
theorem mt_c7 (k : MS S0 S t b M B hs) (sq : SqN n M) (n3 : n ≤ 3) (ha : a < n) (e0 : en M a a ≠ 0) (hx : E.ct = E.nx) (hq : Aft E.nx x0 x1 n S0 (endF n a M B)) :
    b_matched_f4_c7.wp E (mEnv x0 x1 n t b a a6 a7 a8 a9 a10 a11 a12 a13 a14 a15 a16 a17) S := by
  have hl : hs.length = n := by rw [k.tab.len, sq.1]
  have ha' : a < hs.length := by omega
  unfold b_matched_f4_c7 mEnv
  walk_at "wpc"
  refine ⟨t, n, a, M, hs, rfl, k.tab, sq, n3, ha, e0, ?_⟩
  walk_at "wpc"
  have ea : ((a : Int) + 1) = ((a + 1 : Nat) : Int) := by omega
  rw [ea, range_rg]
  refine ⟨by omega, by rw [List.length_map]; simp only [rg, List.length_map, List.length_range]; exact szLe (by omega), ?_⟩
  refine compGo_all0 (fun i : Nat => .int (i : Nat)) (fun r => .bl (decide (en M r a ≠ 0) || decide (en M a r ≠ 0))) (rg (a + 1) n) (fun r hr => ⟨_, rfl, fun Qd hq => ?_⟩) ?_
  · obtain ⟨r1, r2⟩ := rg_mem.mp hr
    have hr' : r < hs.length := by omega
    walk_at "wpc"
    refine k.tab.ixR hr' (k.tab.ixE hr' (by rw [sq.2 r r2]; exact ha) ?_)
    walk_at "wpc"
    by_cases e : en M r a = 0
    · simp only [e, not_true_eq_false, decide_false, Bool.false_or, ne_eq] at hq
      simp only [e, decide_true, Bool.not_true]
      walk_at "wpc"
      refine k.tab.ixR ha' (k.tab.ixE ha' (by rw [sq.2 a ha]; exact r2) ?_)
      walk_at "wpc"
      simpa using hq
    · simp only [e, decide_false, Bool.not_false]
      walk_at "wpc"
      simpa [e] using hq
  rw [show ((rg (a + 1) n).map fun r => D.bl (decide (en M r a ≠ 0) || decide (en M a r ≠ 0))) = ((rg (a + 1) n).map fun r => (decide (en M r a ≠ 0) || decide (en M a r ≠ 0))).map .bl by rw [List.map_map]; rfl]
  refine oAny_l _ _ _ ⟨_, rfl, ?_⟩
  have eo : ((rg (a + 1) n).map fun r => (decide (en M r a ≠ 0) || decide (en M a r ≠ 0))).any id = anyF M n a := by unfold anyF; rw [List.any_map]; rfl
  rw [eo]
  unfold endF at hq
  cases e1 : anyF M n a with
  | true =>
    rw [if_pos e1] at hq
    rw [if_pos rfl, hx]
    exact hq _ _ _ _ _ _ _ _ _ _ _ _ _ _ _ _ k
  | false =>
    rw [if_neg (by rw [e1]; simp)] at hq
    rw [if_neg (by simp)]
    cases e2 : oddP M n a with
    | none =>
      rw [e2] at hq
      refine ⟨true, rfl, ?_⟩
      simp only [Bool.not_true, Bool.false_eq_true, if_false]
      exact hq _ _ _ _ _ _ _ _ _ _ _ _ _ _ _ _ k
    | some o =>
      rw [e2] at hq
      have ho : o < n := by
        have := List.mem_of_find?_eq_some e2
        exact (rg_mem.mp this).2
      have ho' : o < hs.length := by omega
      refine ⟨false, rfl, ?_⟩
      simp only [Bool.not_false, if_true, optN]
      refine k.tab.ixR ha' ?_
      walk_at "wpc"
      refine k.tab.ixR ho' (zip_han k.tab ha' ho' ?_)
      walk_at "wpc"
      refine ⟨by rw [List.length_map, List.length_zip, sq.2 a ha]; exact szLe (by omega), compGo_allS _ (fun q => .int (q.1 + q.2)) (src_rows k.tab ha' ho') ((row M a).zip (row M o)) (fun q hq => ⟨_, rfl, fun Qd hq => ?_⟩) ?_⟩
      · walk_at "wpc"
        exact hq
      have ev : (((row M a).zip (row M o)).map fun q => D.int (q.1 + q.2)) = (addF (row M a) (row M o)).map .int := by unfold addF; rw [List.map_map]; rfl
      rw [ev]
      refine ⟨a, hs.map .han, app_get k.tab.top _, by rw [List.length_map]; exact ix_nat ha', ?_⟩
      rw [hx]
      exact hq _ _ _ _ _ _ _ _ _ _ _ _ _ _ _ _ (k.setR (by rw [sq.1]; exact ha) _)
end
/-! #### HO -/
def cb (kk : Nat) : Nat → Nat
  | 0 => kk
  | l + 1 => 2 * cb kk l + 3
theorem cb_le (kk : Nat) {l : Nat} (h : l ≤ 2) : kk ≤ cb kk l ∧ cb kk l ≤ 4 * kk + 9 := by
  rcases (by omega : l = 0 ∨ l = 1 ∨ l = 2) with rfl | rfl | rfl <;> simp only [cb] <;> omega
structure ColI (n a kk kB l : Nat) (p : Int) (st : List (List Int) × List (List Int)) : Prop where
  sq : SqN n st.1
  sm : ∀ i j, Sm (cb kk l) (en st.1 i j)
  lB : st.2.length = n
  vB : ∀ v ∈ st.2, VecOk (kB + l * 3100) n v
  pv : en st.1 a a = p
theorem colM_step {n a c kk kB l : Nat} {p : Int} {st : List (List Int) × List (List Int)} (h : ColI n a kk kB l p st) (n3 : n ≤ 3) (ha : a < n) (hc : c < n) (ne : c ≠ a) (p0 : p ≠ 0) (k6 : 6 ≤ kk) (hl : l ≤ 1) (hk : kk ≤ 700) : ColI n a kk kB (l + 1) p (colM a p st c) := by
  obtain ⟨M, B⟩ := st
  have cbl := cb_le kk (show l ≤ 2 by omega)
  have cbl2 := cb_le kk (show l + 1 ≤ 2 by omega)
  have sp : Sm (cb kk l) p := by have := h.sm a a; rwa [h.pv] at this
  have va : VecOk (kB + l * 3100) n (row B a) := h.vB _ (by rw [row_get, List.getElem?_eq_getElem (by rw [h.lB]; exact ha)]; exact List.getElem_mem _)
  have vc : VecOk (kB + l * 3100) n (row B c) := h.vB _ (by rw [row_get, List.getElem?_eq_getElem (by rw [h.lB]; exact hc)]; exact List.getElem_mem _)
  refine ⟨colM_sq h.sq, fun i j => colM_sm h.sq hc h.sm sp p0 (by omega) i j, by simp [colM, h.lB], fun v hv => ?_, ?_⟩
  · rcases List.mem_or_eq_of_mem_set hv with hv | hv
    · exact (h.vB v hv).mono (by rw [Nat.succ_mul]; omega)
    · rw [hv]
      refine (va.plus (sm_fdiv (h.sm a c) sp p0) vc).mono ?_
      rw [Nat.succ_mul]
      simp only [Nat.max_def]
      split <;> omega
  · rw [colM_en h.sq hc ha, if_neg (fun e => ne e.symm)]
    exact h.pv
section
variable {E : DEnds} {S0 S : Sto} {t b n a kk kB : Nat} {M B : List (List Int)} {hs : List Nat} {x0 x1 : D} {p : Int} {a6 a7 a8 a9 a10 a11 a12 a13 a14 a15 a16 a17 : Option D}
theorem mt_c6 (k : MS S0 S t b M B hs) (ci : ColI n a kk kB 0 p (M, B)) (n3 : n ≤ 3) (ha : a < n) (p0 : p ≠ 0) (k6 : 6 ≤ kk) (hk : kk ≤ 700) (hB : kB ≤ 800000) (hx : E.ct = E.nx) (hq : Aft E.nx x0 x1 n S0 (endF n a (colsF n a p (M, B)).1 (colsF n a p (M, B)).2)) :
    b_matched_f4_c6.wp E (mEnv x0 x1 n t b a a6 a7 a8 (some (.int p)) a10 a11 a12 a13 a14 a15 a16 a17) S := by
  unfold b_matched_f4_c6 mEnv
  walk_at "wpc"
  have ea : ((a : Int) + 1) = ((a + 1 : Nat) : Int) := by omega
  rw [ea, range_rg]
  refine ⟨by omega, ?_⟩
  have lr : (rg (a + 1) n).length ≤ 2 := by simp [rg]; omega
  refine forGo_pre (fun i : Nat => .int (i : Nat)) (rg (a + 1) n) (fun pre env S' => ∃ a10 a11 a12 : Option D, env = mEnv x0 x1 n t b a a6 a7 a8 (some (.int p)) a10 a11 a12 a13 a14 a15 a16 a17 ∧ MS S0 S' t b (pre.foldl (colM a p) (M, B)).1 (pre.foldl (colM a p) (M, B)).2 hs ∧ ColI n a kk kB pre.length p (pre.foldl (colM a p) (M, B))) ?_ ?_ ⟨_, _, _, rfl, k, ci⟩
  · rintro pre c post he env1 S1 ⟨a10, a11, a12, rfl, k1, c1⟩
    refine ⟨trivial, _, rfl, fun nx hnx => ?_⟩
    have hc := rg_mem.mp (by rw [he]; simp : c ∈ rg (a + 1) n)
    have hp : pre.length ≤ 1 := by have := congrArg List.length he; simp at this; omega
    have cbl := cb_le kk (show pre.length ≤ 2 by omega)
    have sp : Sm (cb kk pre.length) p := by have := c1.sm a a; rwa [c1.pv] at this
    refine mt_n3 k1 c1.sq n3 c1.lB c1.vB (by have := Nat.mul_le_mul_right 3100 hp; omega) ha hc.2 c1.sm sp p0 (by omega) (by omega) fun a10 a11 S' k2 => ?_
    refine hnx _ _ ⟨a10, a11, some (.int (c : Nat)), rfl, ?_, ?_⟩
    · rw [List.foldl_append]; exact k2
    · rw [List.foldl_append, List.length_append]
      exact colM_step c1 n3 ha hc.2 (by omega) p0 k6 hp hk
  · rintro env1 S1 ⟨a10, a11, a12, rfl, k1, c1⟩
    refine ⟨trivial, mt_c7 k1 c1.sq n3 ha (by rw [c1.pv]; exact p0) hx hq⟩
structure RowI (n a kk l : Nat) (p : Int) (M : List (List Int)) : Prop where
  sq : SqN n M
  sm : ∀ i j, Sm (cb kk l) (en M i j)
  pv : en M a a = p
theorem mt_c5 (k : MS S0 S t b M B hs) (ri : RowI n a kk 0 p M) (lB : B.length = n) (vB : ∀ v ∈ B, VecOk kB n v) (n3 : n ≤ 3) (ha : a < n) (p0 : p ≠ 0) (k6 : 6 ≤ kk) (hk : kk ≤ 170) (hB : kB ≤ 800000) (hx : E.ct = E.nx) (hq : Aft E.nx x0 x1 n S0 (endF n a (colsF n a p (rowsF n a p M, B)).1 (colsF n a p (rowsF n a p M, B)).2)) :
    b_matched_f4_c5.wp E (mEnv x0 x1 n t b a a6 a7 a8 (some (.int p)) a10 a11 a12 a13 a14 a15 a16 a17) S := by
  unfold b_matched_f4_c5 mEnv
  walk_at "wpc"
  have ea : ((a : Int) + 1) = ((a + 1 : Nat) : Int) := by omega
  rw [ea, range_rg]
  refine ⟨by omega, ?_⟩
  have lr : (rg (a + 1) n).length ≤ 2 := by simp [rg]; omega
  refine forGo_pre (fun i : Nat => .int (i : Nat)) (rg (a + 1) n) (fun pre env S' => ∃ (hs : List Nat) (a10 a11 a15 a16 : Option D), env = mEnv x0 x1 n t b a a6 a7 a8 (some (.int p)) a10 a11 a12 a13 a14 a15 a16 a17 ∧ MS S0 S' t b (pre.foldl (rowS a p) M) B hs ∧ RowI n a kk pre.length p (pre.foldl (rowS a p) M)) ?_ ?_ ⟨_, _, _, _, _, rfl, k, ri⟩
  · rintro pre r post he env1 S1 ⟨hs, a10, a11, a15, a16, rfl, k1, c1⟩
    refine ⟨trivial, _, rfl, fun nx hnx => ?_⟩
    have hr := rg_mem.mp (by rw [he]; simp : r ∈ rg (a + 1) n)
    have hp : pre.length ≤ 1 := by have := congrArg List.length he; simp at this; omega
    have cbl := cb_le kk (show pre.length ≤ 2 by omega)
    have sp : Sm (cb kk pre.length) p := by have := c1.sm a a; rwa [c1.pv] at this
    refine mt_n1 k1 c1.sq n3 ha hr.2 c1.sm sp p0 (by omega) fun a11 a15 a16 S' k2 => ?_
    refine hnx _ _ ⟨hs.set r S1.length, some (.int (r : Nat)), a11, a15, a16, rfl, ?_, ?_⟩
    · rw [List.foldl_append]; exact k2
    · rw [List.foldl_append, List.length_append]
      refine ⟨rowS_sq c1.sq ha hr.2, fun i j => rowS_sm c1.sq ha hr.2 c1.sm sp p0 i j, ?_⟩
      show en (rowS a p _ r) a a = p
      rw [rowS_en c1.sq ha hr.2, if_neg (by omega)]
      exact c1.pv
  · rintro env1 S1 ⟨hs, a10, a11, a15, a16, rfl, k1, c1⟩
    have cbl := cb_le kk lr
    exact ⟨trivial, mt_c6 (kk := 4 * kk + 9) k1 ⟨c1.sq, fun i j => (c1.sm i j).mono cbl.2, lB, fun v hv => (vB v hv).mono (by omega), c1.pv⟩ n3 ha p0 (by omega) (by omega) hB hx hq⟩
end
/-! #### HP -/
section
variable {E : DEnds} {S0 S : Sto} {t b n a kk kB : Nat} {M B : List (List Int)} {hs : List Nat} {x0 x1 : D} {a6 a7 a8 a9 a10 a11 a12 a13 a14 a15 a16 a17 : Option D}
theorem mt_c4 (k : MS S0 S t b M B hs) (sq : SqN n M) (sm : ∀ i j, Sm kk (en M i j)) (p0 : en M a a ≠ 0) (lB : B.length = n) (vB : ∀ v ∈ B, VecOk kB n v) (n3 : n ≤ 3) (ha : a < n) (k6 : 6 ≤ kk) (hk : kk ≤ 170) (hB : kB ≤ 800000) (hx : E.ct = E.nx) (hq : Aft E.nx x0 x1 n S0 (mainF n a M B)) :
    b_matched_f4_c4.wp E (mEnv x0 x1 n t b a a6 a7 a8 a9 a10 a11 a12 a13 a14 a15 a16 a17) S := by
  have hl : hs.length = n := by rw [k.tab.len, sq.1]
  have ha' : a < hs.length := by omega
  unfold b_matched_f4_c4 mEnv
  walk_at "wpc"
  refine k.tab.ixR ha' (k.tab.ixE ha' (by rw [sq.2 a ha]; exact ha) ?_)
  exact mt_c5 k ⟨sq, sm, rfl⟩ lB vB n3 ha p0 k6 hk hB hx hq
theorem swap_sq {n : Nat} {M : List (List Int)} (sq : SqN n M) {i j : Nat} (hi : i < n) (hj : j < n) : SqN n (swapL [] M i j) := by
  refine ⟨by rw [swapL_len, sq.1], fun m hm => ?_⟩
  rw [row_swap (by rw [sq.1]; exact hi) (by rw [sq.1]; exact hj)]
  exact sq.2 _ (sw_lt hi hj hm)
theorem swap_en {n : Nat} {M : List (List Int)} (sq : SqN n M) {i j : Nat} (hi : i < n) (hj : j < n) (m l : Nat) : en (swapL [] M i j) m l = en M (sw i j m) l := by
  unfold en
  rw [row_swap (by rw [sq.1]; exact hi) (by rw [sq.1]; exact hj)]
theorem swC_sq {n : Nat} {M : List (List Int)} (sq : SqN n M) (i j : Nat) : SqN n (swC i j M) := by
  refine ⟨by simp [swC, sq.1], fun m hm => ?_⟩
  rw [swC_row (by rw [sq.1]; exact hm), swapL_len]
  exact sq.2 m hm
theorem swC_en {n : Nat} {M : List (List Int)} (sq : SqN n M) {i j : Nat} (hi : i < n) (hj : j < n) (m l : Nat) : en (swC i j M) m l = en M m (sw i j l) := by
  by_cases hm : m < n
  · unfold en
    rw [swC_row (by rw [sq.1]; exact hm)]
    have hr := sq.2 m hm
    have := swapL_get 0 (row M m) (by rw [hr]; exact hi) (by rw [hr]; exact hj) l
    unfold gt
    rw [List.getD_eq_getElem?_getD, List.getD_eq_getElem?_getD, this]
  · rw [en_out (by rw [(swC_sq sq i j).1]; omega), en_out (by rw [sq.1]; omega)]
theorem sw_at (i j : Nat) : sw i j i = j := by unfold sw; split <;> simp_all
theorem mt_c1 {i j : Nat} (k : MS S0 S t b M B hs) (sq : SqN n M) (sm : ∀ i j, Sm kk (en M i j)) (hi : i < n) (hj : j < n) (p0 : en M i j ≠ 0) (lB : B.length = n) (vB : ∀ v ∈ B, VecOk kB n v) (n3 : n ≤ 3) (ha : a < n) (k6 : 6 ≤ kk) (hk : kk ≤ 170) (hB : kB ≤ 800000) (hx : E.ct = E.nx) (hq : Aft E.nx x0 x1 n S0 (roundF n ⟨a, M, B⟩ i j)) :
    b_matched_f4_c1.wp E (mEnv x0 x1 n t b a a6 (some (.int (i : Nat))) (some (.int (j : Nat))) a9 a10 a11 a12 a13 a14 a15 a16 a17) S := by
  have hl : hs.length = n := by rw [k.tab.len, sq.1]
  have lM := sq.1
  unfold b_matched_f4_c1 mEnv
  walk_at "wpc"
  refine ⟨.han t, hs.map .han, a, i, rfl, k.tab.seq, by rw [List.length_map]; omega, by rw [List.length_map]; omega, by rw [List.length_map]; omega, ?_⟩
  have k1 := k.swapT (i := a) (j := i) (by omega) (by omega)
  have sq1 := swap_sq sq ha hi
  generalize S ++ [O.lst (swapL .non (hs.map .han) a i)] = S1 at k1 ⊢
  generalize S.length = t1 at k1 ⊢
  walk_at "wpc"
  refine ⟨_, k1.tab.seq, ?_⟩
  refine ⟨by rw [List.length_map, k1.tab.len, sq1.1]; exact szLe (by omega), ?_⟩
  refine comp_sw k1 sq1 n3 ha hj (env := [some x0, some x1, some (.int (n : Nat)), some (.han t1), some (.han b), some (.int (a : Nat)), a6, some (.int (i : Nat)), some (.int (j : Nat)), a9, a10, a11, a12, a13, a14, a15, a16, a17]) rfl rfl (by simp) ?_
  have k2 := k1.swapC sq1.1 a j
  have sq2 := swC_sq sq1 a j
  generalize S1 ++ (swC a j (swapL [] M a i)).map (fun v => O.lst (v.map .int)) = S2 at k2 ⊢
  generalize newH S1.length n = hs2 at k2 ⊢
  generalize S2 ++ [O.lst (hs2.map .han)] = S3 at k2 ⊢
  generalize S2.length = t2 at k2 ⊢
  have sb : seqOf S3 (.han b) = some (B.map VE) := by
    unfold seqOf tupOf lstOf
    simp [k2.bas]
  refine ⟨.han b, B.map VE, a, j, rfl, sb, by rw [List.length_map]; omega, by rw [List.length_map]; omega, by rw [List.length_map]; omega, ?_⟩
  have k3 := k2.swapB (i := a) (j := j) (by omega) (by omega)
  refine mt_c4 k3 sq2 (fun m l => ?_) ?_ (by rw [swapL_len]; exact lB) (fun v hv => ?_) n3 ha k6 hk hB hx hq
  · rw [swC_en sq1 ha hj, swap_en sq ha hi]; exact sm _ _
  · rw [swC_en sq1 ha hj, swap_en sq ha hi, sw_at, sw_at]; exact p0
  · obtain ⟨m, hm, e⟩ := List.getElem_of_mem hv
    have h1 : (swapL [] B a j)[m]? = some v := by rw [List.getElem?_eq_getElem hm, e]
    rw [swapL_get [] B (by omega) (by omega)] at h1
    exact vB v (List.mem_of_getElem? h1)
theorem mt_f4 {m i j : Nat} (k : MS S0 S t b M B hs) (sq : SqN n M) (sm : ∀ i j, Sm kk (en M i j)) (hP : leastP M n a = some (m, i, j)) (hi : i < n) (hj : j < n) (p0 : en M i j ≠ 0) (lB : B.length = n) (vB : ∀ v ∈ B, VecOk kB n v) (n3 : n ≤ 3) (ha : a < n) (k6 : 6 ≤ kk) (hk : kk ≤ 170) (hB : kB ≤ 800000) (hx : E.ct = E.nx) (hq : Aft E.nx x0 x1 n S0 (roundF n ⟨a, M, B⟩ i j)) :
    b_matched_f4.wp E (mEnv x0 x1 n t b a a6 a7 a8 a9 a10 a11 a12 a13 a14 a15 a16 a17) S := by
  unfold b_matched_f4 mEnv
  walk_at "wpc"
  refine ⟨t, n, a, M, hs, rfl, k.tab, sq, n3, by omega, ?_⟩
  rw [hP]
  unfold bestD
  walk_at "wpc"
  exact mt_c1 k sq sm hi hj p0 lB vB n3 ha k6 hk hB hx hq
end
/-- the rounds -/
inductive MRun (n : Nat) : Nat → St → St → Prop
  | done {s : St} : n ≤ s.a → SqN n s.M → MRun n 0 s s
  | step {s s' : St} {c m i j kk : Nat} : s.a < n → leastP s.M n s.a = some (m, i, j) → SqN n s.M → (∀ i j, Sm kk (en s.M i j)) → 6 ≤ kk → kk ≤ 170 → i < n → j < n → en s.M i j ≠ 0 → s.B.length = n → (∀ v ∈ s.B, VecOk 800000 n v) → MRun n c (roundF n s i j) s' → MRun n (c + 1) s s'
theorem mt_while {n c : Nat} {s s' : St} (r : MRun n c s s') (n3 : n ≤ 3) {E : DEnds} {S0 : Sto} {x0 x1 : D} (hq : Aft E.nx x0 x1 n S0 s') : ∀ (t b : Nat) (hs : List Nat) (S : Sto) (a6 a7 a8 a9 a10 a11 a12 a13 a14 a15 a16 a17 : Option D), MS S0 S t b s.M s.B hs →
    whileGo (DT.cmp .Lt (DE.var 5) (DE.var 2)).wp b_matched_f4.wp E (c + 1) (mEnv x0 x1 n t b s.a a6 a7 a8 a9 a10 a11 a12 a13 a14 a15 a16 a17) S := by
  induction r with
  | done h1 h2 =>
    intro t b hs S a6 a7 a8 a9 a10 a11 a12 a13 a14 a15 a16 a17 k
    unfold whileGo mEnv
    walk_at "wpc"
    rw [if_neg (by omega)]
    exact hq _ _ _ _ _ _ _ _ _ _ _ _ _ _ _ _ k
  | step h1 h2 h3 h4 h5 h6 h7 h8 h9 h10 h11 _ ih =>
    intro t b hs S a6 a7 a8 a9 a10 a11 a12 a13 a14 a15 a16 a17 k
    unfold whileGo mEnv
    walk_at "wpc"
    rw [if_pos (by omega)]
    refine mt_f4 k h3 h4 h2 h7 h8 h9 h10 h11 n3 h1 h5 h6 (by omega) rfl ?_
    intro t' b' hs' S' a6 a7 a8 a9 a10 a11 a12 a13 a14 a15 a16 a17 k'
    exact ih hq t' b' hs' S' _ _ _ _ _ _ _ _ _ _ _ _ k'
def diagL (n : Nat) (M : List (List Int)) : List Int := (List.range n).map fun i => ((en M i i).natAbs : Nat)
def matD (n : Nat) (s : St) : D := .tup [VE (diagL n s.M), .tup (s.B.map VE)]
def c_matched : Ct := fun ds S Q _ => ∃ (O T : List (List Int)) (n c : Nat) (s : St), ds = [.tup (O.map VE), .tup (T.map VE)] ∧ Bas O ∧ Bas T ∧ O.length = n ∧ T.length = n ∧ (∀ v ∈ O, Whole T v) ∧ MRun n c ⟨0, O.map (wc T), T⟩ s ∧ SqN n s.M ∧ s.B.length = n ∧ ∀ S', Gr S S' → Q (matD n s) S'
structure RowsH (S0 S : Sto) (M : List (List Int)) (hs : List Nat) : Prop where
  len : hs.length = M.length
  row : ∀ i h : Nat, hs[i]? = some h → S[h]? = some (O.lst ((DLay.row M i).map .int))
  inj : ∀ i j h : Nat, hs[i]? = some h → hs[j]? = some h → i = j
  low : ∀ h ∈ hs, S0.length ≤ h
theorem RowsH.grow {S0 S : Sto} {M : List (List Int)} {hs : List Nat} (k : RowsH S0 S M hs) {S' : Sto} (g : Gr S S') : RowsH S0 S' M hs := by
  obtain ⟨J, rfl⟩ := g
  exact ⟨k.len, fun i h e => app_get (k.row i h e) _, k.inj, k.low⟩
theorem RowsH.more {S0 S : Sto} {M : List (List Int)} {hs : List Nat} (k : RowsH S0 S M hs) (h0 : S0.length ≤ S.length) (v : List Int) : RowsH S0 (S ++ [O.lst (v.map .int)]) (M ++ [v]) (hs ++ [S.length]) := by
  have lt : ∀ {i h : Nat}, hs[i]? = some h → h < S.length := fun e => (List.getElem?_eq_some_iff.mp (k.row _ _ e)).1
  have key : ∀ i h : Nat, (hs ++ [S.length])[i]? = some h → hs[i]? = some h ∨ (i = hs.length ∧ h = S.length) := fun i h e => by
    by_cases hi : i < hs.length
    · rw [List.getElem?_append_left hi] at e; exact .inl e
    · rw [List.getElem?_append_right (by omega)] at e
      by_cases z : i - hs.length = 0
      · rw [z] at e
        have : S.length = h := by simpa using e
        exact .inr ⟨by omega, this.symm⟩
      · rw [List.getElem?_eq_none (by simp; omega)] at e; cases e
  refine ⟨by simp [k.len], fun i h e => ?_, fun i j h e e' => ?_, fun h hh => ?_⟩
  · rcases key i h e with e | ⟨rfl, rfl⟩
    · have hi := (List.getElem?_eq_some_iff.mp e).1
      have : DLay.row (M ++ [v]) i = DLay.row M i := by rw [row_get, row_get, List.getElem?_append_left (by rw [← k.len]; exact hi)]
      rw [this]
      exact app_get (k.row i h e) _
    · have : DLay.row (M ++ [v]) hs.length = v := by rw [row_get, k.len, List.getElem?_append_right (Nat.le_refl _)]; simp
      rw [this]; simp
  · rcases key i h e with e | ⟨q1, q2⟩ <;> rcases key j h e' with e' | ⟨q3, q4⟩
    · exact k.inj i j h e e'
    · have := lt e; omega
    · have := lt e'; omega
    · omega
  · rcases List.mem_append.mp hh with hh | hh
    · exact k.low h hh
    · have : h = S.length := by simpa using hh
      omega
theorem mt_c5r {E : DEnds} {S0 S : Sto} {t b n : Nat} {s : St} {hs : List Nat} (k : MS S0 S t b s.M s.B hs) (sq : SqN n s.M) (lB : s.B.length = n) (n3 : n ≤ 3) {x0 x1 : D} {a5 a6 a7 a8 a9 a10 a11 a12 a13 a14 a15 a16 a17 : Option D} (hq : E.rt (matD n s) S) :
    b_matched_c5.wp E [some x0, some x1, some (.int (n : Nat)), some (.han t), some (.han b), a5, a6, a7, a8, a9, a10, a11, a12, a13, a14, a15, a16, a17] S := by
  have hl : hs.length = n := by rw [k.tab.len, sq.1]
  unfold b_matched_c5
  walk_at "wpc"
  rw [range0]
  refine ⟨by omega, by omega, by rw [List.length_map, List.length_range]; exact szLe (by omega), ?_⟩
  refine compGo_all0 (fun i => .int ((i : Nat) : Int)) (fun i => .int ((en s.M i i).natAbs : Nat)) (List.range n) (fun i hi => ⟨_, rfl, fun Qd hq => ?_⟩) ?_
  · have hi : i < n := List.mem_range.mp hi
    have hi' : i < hs.length := by omega
    walk_at "wpc"
    refine k.tab.ixR hi' (k.tab.ixE hi' (by rw [sq.2 i hi]; exact hi) ?_)
    walk_at "wpc"
    exact hq
  have sb : seqOf S (.han b) = some (s.B.map VE) := by
    unfold seqOf tupOf lstOf
    simp [k.bas]
  walk_at "wpc"
  refine ⟨_, sb, by rw [List.length_map, lB]; exact szLe (by omega), ?_⟩
  refine compGo_allS (src := [(b, s.B.map VE)]) VE VE ⟨k.bas, trivial⟩ s.B (fun v hv => ⟨_, rfl, fun Qd hq => ?_⟩) ?_
  · rw [VE_eq]
    walk_at "wpc"
    exact hq
  have e : D.tup ((List.range n).map fun i => D.int ((en s.M i i).natAbs : Nat)) = VE (diagL n s.M) := by unfold VE diagL; rw [List.map_map]; rfl
  rw [e]
  exact hq
theorem w_matched {ds : List D} {S : Sto} {Q : QD} {X : XD} (h : c_matched ds S Q X) : ctOf N_matched.length b_matched ds S Q X := by
  obtain ⟨O, T, n, c, s, rfl, hO, hT, lO, lT, wh, run, sq, lB, h⟩ := h
  have n3 : n ≤ 3 := by rw [← lO]; exact hO.2.1
  unfold b_matched N_matched
  walk_at "wpc"
  rw [List.length_map, lO]
  refine ⟨szLe (by omega), compGo_inv (fun L acc S' => ∃ (pre post : List (List Int)) (hs : List Nat), O = pre ++ post ∧ L = post.map VE ∧ acc = hs.map D.han ∧ Gr S S' ∧ RowsH S S' (pre.map (wc T)) hs) ?_ ?_ _ _ _ ⟨[], O, [], rfl, rfl, rfl, Gr.refl S, ⟨rfl, fun i h e => by simp at e, fun i j h e => by simp at e, fun h hh => by simp at hh⟩⟩⟩
  · rintro d ds acc S' ⟨pre, post, hs, he, hL, rfl, g, rh⟩
    cases post with
    | nil => simp at hL
    | cons v post =>
      simp only [List.map_cons, List.cons.injEq] at hL
      obtain ⟨rfl, rfl⟩ := hL
      refine ⟨trivial, _, rfl, fun Qt Qf hq _ => ?_⟩
      have hv : v ∈ O := by rw [he]; simp
      obtain ⟨v1, v2⟩ := hO.sq.2.2 v hv
      walk_at "wpc"
      refine ⟨T, v, rfl, hT.sq.mono (by omega), ⟨by omega, fun x hx => (v2 x hx).mono (by omega)⟩, hT.2.2.2, fun S2 g2 => ?_⟩
      rw [if_pos (wh v hv), VE_eq]
      walk_at "wpc"
      refine hq _ _ ⟨pre ++ [v], post, hs ++ [S2.length], by rw [he]; simp, rfl, by simp, (g.trans g2).trans ⟨_, rfl⟩, ?_⟩
      rw [List.map_append]
      exact (rh.grow g2).more (by obtain ⟨J, e⟩ := g.trans g2; rw [e]; simp) _
  · rintro acc S' ⟨pre, post, hs, he, hL, rfl, g, rh⟩
    have : post = [] := by simpa using hL.symm
    subst this
    rw [List.append_nil] at he
    subst he
    refine ⟨trivial, ?_⟩
    have sl : S.length ≤ S'.length := by obtain ⟨J, e⟩ := g; rw [e]; simp
    have ltS : ∀ h ∈ hs, h < S'.length := fun h hh => by
      obtain ⟨i, hi, e⟩ := List.getElem_of_mem hh
      exact (List.getElem?_eq_some_iff.mp (rh.row i h (by rw [List.getElem?_eq_getElem hi, e]))).1
    have k : MS S (S' ++ [DLay.O.lst (hs.map .han)] ++ [DLay.O.lst (T.map VE)]) S'.length (S' ++ [DLay.O.lst (hs.map .han)]).length (O.map (wc T)) T hs := by
      refine ⟨Tab.of (by simp) rh.len (fun i h e => app_get (app_get (rh.row i h e) _) _) rh.inj (fun hh => by have := ltS _ hh; omega), by simp, by simp, fun hh => by have := ltS _ hh; simp at this; omega, (g.trans ⟨_, rfl⟩).trans ⟨_, rfl⟩, sl, by simp; omega, rh.low⟩
    unfold b_matched_c4
    walk_at "wpc"
    refine ⟨c + 1, mt_while run n3 ?_ _ _ _ _ _ _ _ _ _ _ _ _ _ _ _ _ k⟩
    intro t b hs' S2 a6 a7 a8 a9 a10 a11 a12 a13 a14 a15 a16 a17 k2
    exact mt_c5r k2 sq lB n3 (h S2 k2.gr)
/-! #### HQ -/
/-! #### HR -/
/-! ### operations -/
/-! ### relations -/
/-! #### HS -/
/-! ### no relation between the vectors of a basis -/
/-! #### NG -/
/-! The number of symmetries belongs to the grid. -/
/-! #### HT -/
/-! ### symmetries -/
/-! ### the basis that is matched with itself -/
def onMat (a b : D) (S : Sto) (X : XD) (P : List (List Int) → List (List Int) → Nat → St → Sto → Prop) : Prop := onPart a b S X fun O T S1 => ∃ (n c : Nat) (s : St), O.length = n ∧ T.length = n ∧ MRun n c ⟨0, O.map (wc T), T⟩ s ∧ SqN n s.M ∧ s.B.length = n ∧ ∀ S2, Gr S1 S2 → P O T n s S2
def c_matched_basis : Ct := fun ds S Q X => ∃ a b, ds = [a, b] ∧ onMat a b S X fun _ _ _ s S' => Q (.tup (s.B.map VE)) S'
/-- matched_basis -/
def N_matched_basis : List Str := ["one", "other"]
def b_matched_basis : DB := (DB.cons (DS.expr (DE.call "check_part" c_check_part (DA.cons (DE.var 0) (DA.cons (DE.var 1) DA.nil))))
  (DB.cons (DS.ret (DE.ix (DE.call "matched" c_matched (DA.cons (DE.var 0) (DA.cons (DE.var 1) DA.nil))) (DE.con (.int 1))))
  DB.nil))
theorem w_matched_basis {ds : List D} {S : Sto} {Q : QD} {X : XD} (h : c_matched_basis ds S Q X) : ctOf N_matched_basis.length b_matched_basis ds S Q X := by
  obtain ⟨a, b, rfl, h⟩ := h
  unfold b_matched_basis N_matched_basis
  walk_at "wpc"
  refine h.chk fun O T S1 ea eb hO hT el wh g1 q => ?_
  subst ea eb
  obtain ⟨n, c, s, lO, lT, run, sq, lB, q⟩ := q
  walk_at "wpc"
  refine ⟨O, T, n, c, s, rfl, hO, hT, lO, lT, wh, run, sq, lB, fun S2 g2 => ?_⟩
  unfold matD
  walk_at "wpc"
  exact q S2 g2
/-! #### HG -/
/-! ### the order of a vector -/
/-! #### JA -/
/-! ### the classes of one grid in another one: what is closed under the rows has them all -/
theorem all_of_sub {α : Type} [DecidableEq α] {A B : List α} (hA : A.Nodup) (h : ∀ x ∈ A, x ∈ B) (hl : B.length ≤ A.length) : ∀ x ∈ B, x ∈ A := fun x hx => by
  refine Decidable.byContradiction fun hn => ?_
  have := sub_len (X := x :: A) (Y := B) (List.nodup_cons.mpr ⟨hn, hA⟩) fun y hy => by
    rcases List.mem_cons.mp hy with rfl | hy
    · exact hx
    · exact h y hy
  rw [List.length_cons] at this
  omega
section
variable {n : Nat} {O T F K : List (List Int)}
theorem NFull.rest_box (h : NFull n O F) {v : List Int} (hv : v ∈ bx (pv F)) : restV F v = v := by
  have l := h.blen hv
  obtain ⟨a, b⟩ := h.rest l
  refine (h.uniq hv a b).symm
/-- the class of v + k r is that of (the rest of v) + k r -/
theorem NFull.rest_plus (h : NFull n O F) {v r : List Int} (hv : v.length = n) (hr : r.length = n) (k : Int) : restV F (plusV (restV F v) k r) = restV F (plusV v k r) := by
  have lr := h.rest_len hv
  have l1 : (plusV (restV F v) k r).length = n := by rw [plus_len (by omega)]; exact lr
  have l2 : (plusV v k r).length = n := by rw [plus_len (by omega)]; exact hv
  rw [h.eq_rest l1 l2]
  refine lat_lin h.len .zero (h.rest hv).2 (-1) (by rw [sub_length (by omega)]; exact l1) fun i => ?_
  rw [sub_gt (by omega), sub_gt (by omega), gt_zero, gt_plus (by omega), gt_plus (by omega)]
  omega
structure ClsI (n : Nat) (O T F K : List (List Int)) : Prop where
  nf : NFull n O F
  lt : Len n T
  nd : K.Nodup
  box : ∀ v ∈ K, v ∈ bx (pv F)
  zero : List.replicate n 0 ∈ K
  cl : ∀ v ∈ K, ∀ r ∈ T, restV F (plusV v 1 r) ∈ K
theorem ClsI.back (c : ClsI n O T F K) : ∀ v ∈ K, ∀ r ∈ T, restV F (plusV v (-1) r) ∈ K := fun v hv r hr => by
  have h := c.nf
  have lr := c.lt r hr
  have lK : ∀ w ∈ K, w.length = n := fun w hw => h.blen (c.box w hw)
  have lp : ∀ w ∈ K, ∀ k, (plusV w k r).length = n := fun w hw k => by rw [plus_len (by rw [lK w hw, lr]), lK w hw]
  have nd : (K.map fun w => restV F (plusV w 1 r)).Nodup := nodup_map c.nd fun a ha b hb e => by
    rw [h.eq_rest (lp a ha 1) (lp b hb 1)] at e
    refine h.uniq (c.box a ha) (c.box b hb) ?_
    have la := lK a ha
    have lb := lK b hb
    refine lat_lin h.len .zero e 1 (by rw [sub_length (by omega)]; exact la) fun i => ?_
    have l1 := lp a ha 1
    have l2 := lp b hb 1
    rw [sub_gt (by omega), sub_gt (by omega), gt_zero, gt_plus (by omega), gt_plus (by omega)]
    omega
  have all := all_of_sub nd (B := K) (fun x hx => by
    obtain ⟨w, hw, rfl⟩ := List.mem_map.mp hx
    exact c.cl w hw r hr) (by rw [List.length_map]; exact Nat.le_refl _)
  obtain ⟨w, hw, e⟩ := List.mem_map.mp (all v hv)
  have lw := lK w hw
  have lv := lK v hv
  have e2 : restV F (plusV w 1 r) = restV F v := by rw [h.rest_box (c.box v hv)]; exact e
  rw [h.eq_rest (lp w hw 1) lv] at e2
  have e3 : restV F (plusV v (-1) r) = restV F w := by
    rw [h.eq_rest (lp v hv (-1)) lw]
    have l1 := lp w hw 1
    have l2 := lp v hv (-1)
    refine lat_lin h.len .zero e2 (-1) (by rw [sub_length (by omega)]; exact l2) fun i => ?_
    rw [sub_gt (by omega), sub_gt (by omega), gt_zero, gt_plus (by omega), gt_plus (by omega)]
    omega
  rw [e3, h.rest_box (c.box w hw)]
  exact hw
theorem ClsI.step (c : ClsI n O T F K) {v r : List Int} (hv : v.length = n) (hr : r ∈ T) (hK : restV F v ∈ K) : ∀ k : Nat, restV F (plusV v (k : Int) r) ∈ K ∧ restV F (plusV v (-(k : Int)) r) ∈ K
  | 0 => by
    have lr := c.lt r hr
    have e : ∀ z : Int, z = 0 → plusV v z r = v := fun z hz => ext_gt (by rw [plus_len (by omega)]) fun i _ => by rw [gt_plus (by omega), hz]; omega
    rw [e _ (by omega), e _ (by omega)]
    exact ⟨hK, hK⟩
  | k + 1 => by
    have lr := c.lt r hr
    obtain ⟨h1, h2⟩ := ClsI.step c hv hr hK k
    have lp : ∀ z, (plusV v z r).length = n := fun z => by rw [plus_len (by omega)]; exact hv
    have e : ∀ z y : Int, plusV v (z + y) r = plusV (plusV v z r) y r := fun z y => by
      have l1 := lp z
      refine ext_gt (by rw [lp, plus_len (by omega), lp]) fun i _ => ?_
      rw [gt_plus (by omega), gt_plus (by omega), gt_plus (by omega), Int.add_mul]
      omega
    constructor
    · rw [show ((k + 1 : Nat) : Int) = (k : Int) + 1 by omega, e, ← c.nf.rest_plus (lp _) lr]
      exact c.cl _ h1 r hr
    · rw [show -((k + 1 : Nat) : Int) = -(k : Int) + -1 by omega, e, ← c.nf.rest_plus (lp _) lr]
      exact c.back _ h2 r hr
/-- all classes are there -/
theorem ClsI.all (c : ClsI n O T F K) {v : List Int} (h : Lat n T v) : restV F v ∈ K := by
  induction h with
  | zero => rw [c.nf.rest_box (c.box _ c.zero)]; exact c.zero
  | @add v r k hv hr ih =>
    have lv := hv.len c.lt
    have := c.step lv hr ih k.natAbs
    rcases Int.natAbs_eq k with e | e
    · rw [e]; exact this.1
    · rw [e]; exact this.2
theorem ClsI.mem (c : ClsI n O T F K) (hT : ∀ v ∈ K, Lat n T v) (v : List Int) : v ∈ K ↔ v ∈ bx (pv F) ∧ Lat n T v := by
  constructor
  · intro h; exact ⟨c.box v h, hT v h⟩
  · rintro ⟨h1, h2⟩
    have := c.all h2
    rwa [c.nf.rest_box h1] at this
end
/-! #### JB -/
/-! ### the rest of a vector by a normal form; the classes -/
/-! #### JC -/
/-! ### index, numbers up to a length, the least unlike length, divisors -/
def c_divisors : Ct := fun ds S Q X => ∃ a b, ds = [a, b] ∧ onMat a b S X fun _ _ n s S' => Q (VE (diagL n s.M)) S'
/-- divisors -/
def N_divisors : List Str := ["one", "other"]
def b_divisors : DB := (DB.cons (DS.expr (DE.call "check_part" c_check_part (DA.cons (DE.var 0) (DA.cons (DE.var 1) DA.nil))))
  (DB.cons (DS.ret (DE.ix (DE.call "matched" c_matched (DA.cons (DE.var 0) (DA.cons (DE.var 1) DA.nil))) (DE.con (.int 0))))
  DB.nil))
theorem w_divisors {ds : List D} {S : Sto} {Q : QD} {X : XD} (h : c_divisors ds S Q X) : ctOf N_divisors.length b_divisors ds S Q X := by
  obtain ⟨a, b, rfl, h⟩ := h
  unfold b_divisors N_divisors
  walk_at "wpc"
  refine h.chk fun O T S1 ea eb hO hT el wh g1 q => ?_
  subst ea eb
  obtain ⟨n, c, s, lO, lT, run, sq, lB, q⟩ := q
  walk_at "wpc"
  refine ⟨O, T, n, c, s, rfl, hO, hT, lO, lT, wh, run, sq, lB, fun S2 g2 => ?_⟩
  unfold matD
  walk_at "wpc"
  exact q S2 g2
/-! #### NP -/
/-! ### elementary steps of `matched`: what they keep -/
inductive Ele (n : Nat) : List (List Int) × List (List Int) → List (List Int) × List (List Int) → Prop
  | swR {M B : List (List Int)} {i j : Nat} : i < n → j < n → Ele n (M, B) (swapL [] M i j, B)
  | swC {M B : List (List Int)} {i j : Nat} : i < n → j < n → Ele n (M, B) (swC i j M, swapL [] B i j)
  | row {M B : List (List Int)} {r a : Nat} {f : Int} : r < n → a < n → r ≠ a → Ele n (M, B) (M.set r (subF f (row M r) (row M a)), B)
  | col {M B : List (List Int)} {a c : Nat} {f : Int} : a < n → c < n → a ≠ c → Ele n (M, B) (M.map (colS a c f), B.set a (plusV (DLay.row B a) f (DLay.row B c)))
inductive Eles (n : Nat) : List (List Int) × List (List Int) → List (List Int) × List (List Int) → Prop
  | refl (s : List (List Int) × List (List Int)) : Eles n s s
  | step {s t u : List (List Int) × List (List Int)} : Eles n s t → Ele n t u → Eles n s u
theorem Eles.trans {n : Nat} {s t u : List (List Int) × List (List Int)} (h : Eles n s t) (g : Eles n t u) : Eles n s u := by
  induction g with
  | refl => exact h
  | step _ e ih => exact ih.step e
theorem same_swap {n : Nat} {R : List (List Int)} (hR : Len n R) {i j : Nat} (hi : i < R.length) (hj : j < R.length) : Len n (swapL [] R i j) ∧ SameL n (swapL [] R i j) R := by
  have mem : ∀ v, v ∈ swapL [] R i j → v ∈ R := fun v hv => by
    obtain ⟨m, hm, e⟩ := List.getElem_of_mem hv
    have h1 : (swapL [] R i j)[m]? = some v := by rw [List.getElem?_eq_getElem hm, e]
    rw [swapL_get [] R hi hj] at h1
    exact List.mem_of_getElem? h1
  have l1 : Len n (swapL [] R i j) := fun v hv => hR v (mem v hv)
  refine ⟨l1, SameL.of l1 hR (fun v hv => Lat.of_mem (mem v hv) (hR v (mem v hv))) fun v hv => ?_⟩
  obtain ⟨m, hm, e⟩ := List.getElem_of_mem hv
  have h1 : (swapL [] R i j)[sw i j m]? = some v := by
    rw [swapL_get [] R hi hj, show sw i j (sw i j m) = m by unfold sw; split <;> (try split) <;> (try split) <;> omega, List.getElem?_eq_getElem hm, e]
  exact Lat.of_mem (List.mem_of_getElem? h1) (hR v hv)
theorem same_setK {n : Nat} {R : List (List Int)} (hR : Len n R) {r a : Nat} (hr : r < R.length) (ha : a < R.length) (ne : r ≠ a) (k : Int) : Len n (R.set r (plusV (row R r) k (row R a))) ∧ SameL n (R.set r (plusV (row R r) k (row R a))) R := by
  have mr : row R r ∈ R := by rw [row_lt hr]; exact List.getElem_mem _
  have ma : row R a ∈ R := by rw [row_lt ha]; exact List.getElem_mem _
  have lr := hR _ mr
  have la := hR _ ma
  have l1 : (row R r).length = (row R a).length := by rw [lr, la]
  have hl : Len n (R.set r (plusV (row R r) k (row R a))) := fun v hv => by
    rcases List.mem_or_eq_of_mem_set hv with q | rfl
    · exact hR v q
    · rw [plus_len l1, lr]
  refine ⟨hl, SameL.of hl hR (fun v hv => ?_) fun v hv => ?_⟩
  · rcases List.mem_or_eq_of_mem_set hv with q | rfl
    · exact Lat.of_mem q (hR v q)
    · exact (Lat.of_mem mr lr).add k ma
  · obtain ⟨m, hm, e⟩ := List.getElem_of_mem hv
    have m2 : row R a ∈ R.set r (plusV (row R r) k (row R a)) := by
      refine List.mem_of_getElem? (i := a) ?_
      rw [List.getElem?_set_ne ne, List.getElem?_eq_getElem ha, row_lt ha]
    by_cases q : m = r
    · subst q
      have m1 : plusV (row R m) k (row R a) ∈ R.set m (plusV (row R m) k (row R a)) := List.mem_of_getElem? (i := m) (by rw [List.getElem?_set_self hr])
      have l2 : (plusV (row R m) k (row R a)).length = (row R a).length := by rw [plus_len l1, l1]
      have := (Lat.of_mem m1 (hl _ m1)).add (-k) m2
      have ev : plusV (plusV (row R m) k (row R a)) (-k) (row R a) = v := by
        rw [← e, ← row_lt hm]
        refine ext_gt (by rw [plus_len l2, l2, l1]) fun i _ => ?_
        rw [gt_plus l2, gt_plus l1]
        simp only [Int.neg_mul]; omega
      rwa [ev] at this
    · refine Lat.of_mem (List.mem_of_getElem? (i := m) ?_) (hR v hv)
      rw [List.getElem?_set_ne (fun h => q h.symm), List.getElem?_eq_getElem hm, e]
theorem mix_sub {n : Nat} {V : List (List Int)} (hV : Sqr n V) {u v : List Int} (hu : u.length = n) (hv : v.length = n) (f : Int) : mixV (subF f u v) V = plusV (mixV u V) (-f) (mixV v V) := by
  rcases hV.cases with ⟨rfl, a, rfl⟩ | ⟨rfl, a, b, c, d, rfl⟩ | ⟨rfl, a, b, c, d, e, f', g', h, i, rfl⟩
  · obtain ⟨x, rfl⟩ := len1 hu
    obtain ⟨x', rfl⟩ := len1 hv
    simp only [subF, List.zip_cons_cons, List.zip_nil_right, List.map_cons, List.map_nil, mixV1, plusV]
    simp only [List.zipWith_cons_cons, List.zipWith_nil_right, List.zip_cons_cons, List.zip_nil_right, List.map_cons, List.map_nil, List.cons.injEq, and_true]
    grind
  · obtain ⟨x, y, rfl⟩ := len2 hu
    obtain ⟨x', y', rfl⟩ := len2 hv
    simp only [subF, List.zip_cons_cons, List.zip_nil_right, List.map_cons, List.map_nil, mixV2, plusV]
    simp only [List.zipWith_cons_cons, List.zipWith_nil_right, List.zip_cons_cons, List.zip_nil_right, List.map_cons, List.map_nil, List.cons.injEq, and_true]
    constructor <;> grind
  · obtain ⟨x, y, z, rfl⟩ := len3 hu
    obtain ⟨x', y', z', rfl⟩ := len3 hv
    simp only [subF, List.zip_cons_cons, List.zip_nil_right, List.map_cons, List.map_nil, mixV3, plusV]
    simp only [List.zipWith_cons_cons, List.zipWith_nil_right, List.zip_cons_cons, List.zip_nil_right, List.map_cons, List.map_nil, List.cons.injEq, and_true]
    refine ⟨?_, ?_, ?_⟩ <;> grind
theorem mix_swap {n : Nat} {V : List (List Int)} (hV : Sqr n V) {u : List Int} (hu : u.length = n) {i j : Nat} (hi : i < n) (hj : j < n) : mixV (swapL 0 u i j) (swapL [] V i j) = mixV u V := by
  rcases hV.cases with ⟨rfl, a, rfl⟩ | ⟨rfl, a, b, c, d, rfl⟩ | ⟨rfl, a, b, c, d, e, f', g', h, k, rfl⟩
  · obtain ⟨x, rfl⟩ := len1 hu
    have : i = 0 := by omega
    have : j = 0 := by omega
    subst i; subst j
    rfl
  · obtain ⟨x, y, rfl⟩ := len2 hu
    rcases (by omega : i = 0 ∨ i = 1) with rfl | rfl <;> rcases (by omega : j = 0 ∨ j = 1) with rfl | rfl <;>
      simp [swapL, mixV2] <;> (try constructor) <;> grind
  · obtain ⟨x, y, z, rfl⟩ := len3 hu
    rcases (by omega : i = 0 ∨ i = 1 ∨ i = 2) with rfl | rfl | rfl <;> rcases (by omega : j = 0 ∨ j = 1 ∨ j = 2) with rfl | rfl | rfl <;>
      simp [swapL, mixV3] <;> (try refine ⟨?_, ?_, ?_⟩) <;> grind
theorem mix_col {n : Nat} {V : List (List Int)} (hV : Sqr n V) {u : List Int} (hu : u.length = n) {a c : Nat} (ha : a < n) (hc : c < n) (ne : a ≠ c) (f : Int) : mixV (colS a c f u) (V.set a (plusV (row V a) f (row V c))) = mixV u V := by
  rcases hV.cases with ⟨rfl, p, rfl⟩ | ⟨rfl, p, q, r, s, rfl⟩ | ⟨rfl, p, q, r, s, e, f', g', h, k, rfl⟩
  · omega
  · obtain ⟨x, y, rfl⟩ := len2 hu
    rcases (by omega : a = 0 ∨ a = 1) with rfl | rfl <;> rcases (by omega : c = 0 ∨ c = 1) with rfl | rfl <;> (try omega) <;>
      simp [colS, plusV, row, gt, mixV2] <;> (try constructor) <;> grind
  · obtain ⟨x, y, z, rfl⟩ := len3 hu
    rcases (by omega : a = 0 ∨ a = 1 ∨ a = 2) with rfl | rfl | rfl <;> rcases (by omega : c = 0 ∨ c = 1 ∨ c = 2) with rfl | rfl | rfl <;> (try omega) <;>
      simp [colS, plusV, row, gt, mixV3] <;> (try refine ⟨?_, ?_, ?_⟩) <;> grind
/-- the vectors that M's rows stand for -/
def mb (s : List (List Int) × List (List Int)) : List (List Int) := s.1.map fun v => mixV v s.2
theorem sqr_swap {n : Nat} {R : List (List Int)} (hR : Sqr n R) {i j : Nat} (hi : i < n) (hj : j < n) : Sqr n (swapL [] R i j) :=
  ⟨hR.1, hR.2.1, by rw [swapL_len, hR.2.2.1], (same_swap hR.2.2.2 (by rw [hR.2.2.1]; exact hi) (by rw [hR.2.2.1]; exact hj)).1⟩
structure EI (n : Nat) (O T : List (List Int)) (s : List (List Int) × List (List Int)) : Prop where
  m : Sqr n s.1
  b : Sqr n s.2
  o : SameL n (mb s) O
  t : SameL n s.2 T
theorem mb_len {n : Nat} {s : List (List Int) × List (List Int)} (hb : Sqr n s.2) : Len n (mb s) := fun v hv => by
  obtain ⟨u, _, rfl⟩ := List.mem_map.mp hv
  rw [mixV_len, hb.2.2.1]
theorem row_map' {M : List (List Int)} {f : List Int → List Int} {i : Nat} (h : i < M.length) : row (M.map f) i = f (row M i) := by
  rw [row_lt (by simpa using h), row_lt h, List.getElem_map]
theorem SameL.tr {n : Nat} {A B C : List (List Int)} (h : SameL n A B) (g : SameL n B C) : SameL n A C := fun v => (h v).trans (g v)
theorem Ele.keep {n : Nat} {O T : List (List Int)} {s s' : List (List Int) × List (List Int)} (e : Ele n s s') (h : EI n O T s) : EI n O T s' := by
  cases e with
  | @swR M B i j hi hj =>
    have lm := h.m.2.2.1
    refine ⟨sqr_swap h.m hi hj, h.b, ?_, h.t⟩
    have e1 : mb (swapL [] M i j, B) = swapL [] (mb (M, B)) i j := by
      unfold mb
      show (swapL [] M i j).map _ = swapL [] (M.map _) i j
      have := swapL_map (fun v => mixV v B) [] M (i := i) (j := j) (by simpa [lm] using hi) (by simpa [lm] using hj)
      rw [this]
      unfold swapL
      have g : ∀ k, k < n → ∀ d, (M.map fun v => mixV v B).getD k d = (M.map fun v => mixV v B).getD k [] := fun k hk d => by
        rw [List.getD_eq_getElem?_getD, List.getD_eq_getElem?_getD, List.getElem?_eq_getElem (by simp [lm]; exact hk)]; rfl
      rw [g i hi, g j hj]
    rw [e1]
    exact (same_swap (mb_len (s := (M, B)) h.b) (by simpa [mb, lm] using hi) (by simpa [mb, lm] using hj)).2.tr h.o
  | @swC M B i j hi hj =>
    refine ⟨⟨h.m.1, h.m.2.1, by simp [DLay.swC, h.m.2.2.1], fun v hv => ?_⟩, sqr_swap h.b hi hj, ?_, (same_swap h.b.2.2.2 (by rw [h.b.2.2.1]; exact hi) (by rw [h.b.2.2.1]; exact hj)).2.tr h.t⟩
    · obtain ⟨u, hu, rfl⟩ := List.mem_map.mp hv
      rw [swapL_len]; exact h.m.2.2.2 u hu
    · have e1 : mb (DLay.swC i j M, swapL [] B i j) = mb (M, B) := by
        unfold mb DLay.swC
        rw [List.map_map]
        exact List.map_congr_left fun v hv => mix_swap h.b (h.m.2.2.2 v hv) hi hj
      rw [e1]; exact h.o
  | @row M B r a f hr ha ne =>
    have lm := h.m.2.2.1
    have mr : DLay.row M r ∈ M := by rw [row_lt (by rw [lm]; exact hr)]; exact List.getElem_mem _
    have ma : DLay.row M a ∈ M := by rw [row_lt (by rw [lm]; exact ha)]; exact List.getElem_mem _
    refine ⟨⟨h.m.1, h.m.2.1, by simp [lm], fun v hv => ?_⟩, h.b, ?_, h.t⟩
    · rcases List.mem_or_eq_of_mem_set hv with q | rfl
      · exact h.m.2.2.2 v q
      · exact subF_len (h.m.2.2.2 _ mr) (h.m.2.2.2 _ ma) f
    · have e1 : mb (M.set r (subF f (DLay.row M r) (DLay.row M a)), B) = (mb (M, B)).set r (plusV (DLay.row (mb (M, B)) r) (-f) (DLay.row (mb (M, B)) a)) := by
        unfold mb
        show (M.set r _).map _ = (M.map _).set r _
        rw [List.map_set, mix_sub h.b (h.m.2.2.2 _ mr) (h.m.2.2.2 _ ma), row_map' (by rw [lm]; exact hr), row_map' (by rw [lm]; exact ha)]
      rw [e1]
      exact (same_setK (mb_len (s := (M, B)) h.b) (by simpa [mb, lm] using hr) (by simpa [mb, lm] using ha) ne (-f)).2.tr h.o
  | @col M B a c f ha hc ne =>
    have lb := h.b.2.2.1
    have k := same_setK h.b.2.2.2 (by rw [lb]; exact ha) (by rw [lb]; exact hc) ne f
    refine ⟨⟨h.m.1, h.m.2.1, by simp [h.m.2.2.1], fun v hv => ?_⟩, ⟨h.b.1, h.b.2.1, by simp [lb], k.1⟩, ?_, k.2.tr h.t⟩
    · obtain ⟨u, hu, rfl⟩ := List.mem_map.mp hv
      simp only [colS, List.length_set]
      exact h.m.2.2.2 u hu
    · have e1 : mb (M.map (colS a c f), B.set a (plusV (DLay.row B a) f (DLay.row B c))) = mb (M, B) := by
        unfold mb
        rw [List.map_map]
        exact List.map_congr_left fun v hv => mix_col h.b (h.m.2.2.2 v hv) ha hc ne f
      rw [e1]; exact h.o
theorem Eles.keep {n : Nat} {O T : List (List Int)} {s s' : List (List Int) × List (List Int)} (e : Eles n s s') (h : EI n O T s) : EI n O T s' := by
  induction e with
  | refl => exact h
  | step _ e ih => exact e.keep ih
/-! #### NQ -/
/-! ### what divides all minors, and elementary steps -/
def dv1 (g : Int) (E : Nat → Nat → Int) : Prop := ∀ i j, g ∣ E i j
def dv2 (g : Int) (E : Nat → Nat → Int) : Prop := ∀ i j c d, g ∣ E i c * E j d - E i d * E j c
theorem dv1_row {g : Int} {E E' : Nat → Nat → Int} {r a : Nat} {f : Int} (h : ∀ i j, E' i j = if i = r then E r j - f * E a j else E i j) (k : dv1 g E) : dv1 g E' := fun i j => by
  rw [h]
  split
  · exact Int.dvd_sub (k r j) (Int.dvd_mul_of_dvd_right (k a j))
  · exact k i j
theorem dv2_row {g : Int} {E E' : Nat → Nat → Int} {r a : Nat} {f : Int} (h : ∀ i j, E' i j = if i = r then E r j - f * E a j else E i j) (k : dv2 g E) : dv2 g E' := fun i j c d => by
  rw [h i c, h j d, h i d, h j c]
  by_cases e1 : i = r
  · rw [if_pos e1, if_pos e1]
    by_cases e2 : j = r
    · rw [if_pos e2, if_pos e2]
      have : (E r c - f * E a c) * (E r d - f * E a d) - (E r d - f * E a d) * (E r c - f * E a c) = 0 := by grind
      rw [this]; exact Int.dvd_zero g
    · rw [if_neg e2, if_neg e2]
      have : (E r c - f * E a c) * E j d - (E r d - f * E a d) * E j c = (E r c * E j d - E r d * E j c) - f * (E a c * E j d - E a d * E j c) := by grind
      rw [this]; exact Int.dvd_sub (k r j c d) (Int.dvd_mul_of_dvd_right (k a j c d))
  · rw [if_neg e1, if_neg e1]
    by_cases e2 : j = r
    · rw [if_pos e2, if_pos e2]
      have : E i c * (E r d - f * E a d) - E i d * (E r c - f * E a c) = (E i c * E r d - E i d * E r c) - f * (E i c * E a d - E i d * E a c) := by grind
      rw [this]; exact Int.dvd_sub (k i r c d) (Int.dvd_mul_of_dvd_right (k i a c d))
    · rw [if_neg e2, if_neg e2]; exact k i j c d
theorem row_back {E E' : Nat → Nat → Int} {r a : Nat} {f : Int} (ne : r ≠ a) (h : ∀ i j, E' i j = if i = r then E r j - f * E a j else E i j) (i j : Nat) : E i j = if i = r then E' r j - (-f) * E' a j else E' i j := by
  have h1 := h r j
  have h2 := h a j
  rw [if_pos rfl] at h1
  rw [if_neg (fun e => ne e.symm)] at h2
  by_cases e : i = r
  · subst e; rw [if_pos rfl, h1, h2, Int.neg_mul]; omega
  · rw [if_neg e, h i j, if_neg e]
def tr (E : Nat → Nat → Int) : Nat → Nat → Int := fun i j => E j i
theorem dv1_tr {g : Int} {E : Nat → Nat → Int} : dv1 g (tr E) ↔ dv1 g E := ⟨fun h i j => h j i, fun h i j => h j i⟩
theorem dv2_tr {g : Int} {E : Nat → Nat → Int} : dv2 g (tr E) ↔ dv2 g E := by
  constructor <;> intro h i j c d
  · have := h c d i j
    unfold tr at this
    rwa [Int.mul_comm (E j c)] at this
  · have := h c d i j
    unfold tr
    rwa [Int.mul_comm (E d i)]
theorem dv_row {g : Int} {E E' : Nat → Nat → Int} {r a : Nat} {f : Int} (ne : r ≠ a) (h : ∀ i j, E' i j = if i = r then E r j - f * E a j else E i j) : (dv1 g E' ↔ dv1 g E) ∧ (dv2 g E' ↔ dv2 g E) :=
  ⟨⟨dv1_row (row_back ne h), dv1_row h⟩, ⟨dv2_row (row_back ne h), dv2_row h⟩⟩
theorem sw_sw (i j k : Nat) : sw i j (sw i j k) = k := by unfold sw; split <;> (try split) <;> (try split) <;> omega
theorem dv_sw {g : Int} {E E' : Nat → Nat → Int} {x y : Nat} (h : ∀ i j, E' i j = E (sw x y i) j) : (dv1 g E' ↔ dv1 g E) ∧ (dv2 g E' ↔ dv2 g E) := by
  refine ⟨⟨fun k i j => ?_, fun k i j => by rw [h]; exact k _ _⟩, ⟨fun k i j c d => ?_, fun k i j c d => by rw [h, h, h, h]; exact k _ _ _ _⟩⟩
  · have := k (sw x y i) j
    rwa [h, sw_sw] at this
  · have := k (sw x y i) (sw x y j) c d
    rwa [h, h, h, h, sw_sw, sw_sw] at this
/-- all in one: the two quantities of a step -/
theorem Ele.dv {n : Nat} {g : Int} {O T : List (List Int)} {s s' : List (List Int) × List (List Int)} (e : Ele n s s') (hI : EI n O T s) : (dv1 g (en s'.1) ↔ dv1 g (en s.1)) ∧ (dv2 g (en s'.1) ↔ dv2 g (en s.1)) := by
  have sq : SqN n s.1 := ⟨hI.m.2.2.1, fun i hi => hI.m.2.2.2 _ (by rw [row_lt (by rw [hI.m.2.2.1]; exact hi)]; exact List.getElem_mem _)⟩
  cases e with
  | @swR M B i j hi hj => exact dv_sw fun k l => swap_en sq hi hj k l
  | @swC M B i j hi hj =>
    have := dv_sw (g := g) (E := tr (en M)) (E' := tr (en (DLay.swC i j M))) (x := i) (y := j) fun k l => swC_en sq hi hj l k
    rw [dv1_tr, dv1_tr, dv2_tr, dv2_tr] at this
    exact this
  | @row M B r a f hr ha ne =>
    refine dv_row (f := f) ne fun i j => ?_
    show en (M.set r _) i j = _
    unfold en
    rw [set_row _ _ (by rw [sq.1]; exact hr)]
    split
    · exact gt_sub (sq.2 r hr) (sq.2 a ha) _ j
    · rfl
  | @col M B a c f ha hc ne =>
    have hen : ∀ i j, en (M.map (colS a c f)) i j = if j = c then en M i c - f * en M i a else en M i j := fun i j => by
      by_cases hi : i < n
      · have hi' : i < M.length := by rw [sq.1]; exact hi
        unfold en
        rw [row_map' hi']
        exact colS_gt (sq.2 i hi) a hc _ j
      · rw [en_out (by simp; rw [sq.1]; omega), en_out (by rw [sq.1]; omega), en_out (by rw [sq.1]; omega), en_out (by rw [sq.1]; omega)]
        split <;> simp
    have := dv_row (g := g) (E := tr (en M)) (E' := tr (en (M.map (colS a c f)))) (r := c) (a := a) (f := f) (fun e => ne e.symm) fun i j => hen j i
    rw [dv1_tr, dv1_tr, dv2_tr, dv2_tr] at this
    exact this
theorem Eles.dv {n : Nat} {g : Int} {O T : List (List Int)} {s s' : List (List Int) × List (List Int)} (e : Eles n s s') (hI : EI n O T s) : (dv1 g (en s'.1) ↔ dv1 g (en s.1)) ∧ (dv2 g (en s'.1) ↔ dv2 g (en s.1)) := by
  induction e with
  | refl => exact ⟨Iff.rfl, Iff.rfl⟩
  | step h e ih => exact ⟨(e.dv (h.keep hI)).1.trans ih.1, (e.dv (h.keep hI)).2.trans ih.2⟩
/-! #### NR -/
/-! ### a round, as elementary steps and by its entries -/
theorem rows_eles {n a : Nat} {p : Int} {B : List (List Int)} (ha : a < n) : ∀ (L : List Nat) (M : List (List Int)), (∀ r ∈ L, r < n ∧ r ≠ a) → Eles n (M, B) (L.foldl (rowS a p) M, B)
  | [], M, _ => .refl _
  | r :: L, M, h => by
    have hr := h r (by simp)
    exact (Eles.step (.refl _) (Ele.row (f := (en M r a).fdiv p) hr.1 ha hr.2)).trans (rows_eles ha L _ fun x hx => h x (List.mem_cons_of_mem _ hx))
theorem cols_eles {n a : Nat} {p : Int} (ha : a < n) : ∀ (L : List Nat) (st : List (List Int) × List (List Int)), (∀ r ∈ L, r < n ∧ r ≠ a) → Eles n st (L.foldl (colM a p) st)
  | [], st, _ => .refl _
  | c :: L, (M, B), h => by
    have hc := h c (by simp)
    exact (Eles.step (.refl _) (Ele.col (f := (en M a c).fdiv p) ha hc.1 (fun e => hc.2 e.symm))).trans (cols_eles ha L _ fun x hx => h x (List.mem_cons_of_mem _ hx))
theorem addF_sub (u v : List Int) : addF u v = subF (-1) u v := by
  unfold addF subF
  refine List.map_congr_left fun p _ => ?_
  omega
theorem end_eles {n a : Nat} {M B : List (List Int)} (ha : a < n) : Eles n (M, B) ((endF n a M B).M, (endF n a M B).B) := by
  unfold endF
  split
  · exact .refl _
  split
  · rename_i o ho
    have mo := List.mem_of_find?_eq_some ho
    have := rg_mem.mp mo
    rw [addF_sub]
    exact Eles.step (.refl _) (Ele.row (r := a) (a := o) (f := -1) ha this.2 (by omega))
  · exact .refl _
theorem rg_ne {n a : Nat} : ∀ r ∈ rg (a + 1) n, r < n ∧ r ≠ a := fun r hr => by have := rg_mem.mp hr; omega
theorem round_eles {n i j : Nat} {s : St} (ha : s.a < n) (hi : i < n) (hj : j < n) : Eles n (s.M, s.B) ((roundF n s i j).M, (roundF n s i j).B) := by
  have h1 : Eles n (s.M, s.B) (swC s.a j (swapL [] s.M s.a i), swapL [] s.B s.a j) := ((Eles.refl (s.M, s.B)).step (Ele.swR ha hi)).step (Ele.swC ha hj)
  unfold roundF mainF
  generalize swC s.a j (swapL [] s.M s.a i) = M1 at h1 ⊢
  generalize swapL [] s.B s.a j = B1 at h1 ⊢
  have h2 := rows_eles (p := en M1 s.a s.a) (B := B1) ha (rg (s.a + 1) n) M1 rg_ne
  have h3 := cols_eles (p := en M1 s.a s.a) ha (rg (s.a + 1) n) (rowsF n s.a (en M1 s.a s.a) M1, B1) rg_ne
  exact (h1.trans h2).trans (h3.trans (end_eles ha))
/-- entries after the rows' steps -/
theorem rows_en {n a : Nat} {p : Int} (ha : a < n) : ∀ (L : List Nat) (M : List (List Int)), SqN n M → L.Nodup → (∀ r ∈ L, r < n ∧ r ≠ a) → SqN n (L.foldl (rowS a p) M) ∧ ∀ i j, en (L.foldl (rowS a p) M) i j = if i ∈ L then en M i j - (en M i a).fdiv p * en M a j else en M i j
  | [], M, sq, _, _ => ⟨sq, fun i j => by simp⟩
  | r :: L, M, sq, nd, h => by
    have hr := h r (by simp)
    rw [List.nodup_cons] at nd
    have sq1 := rowS_sq (p := p) sq ha hr.1
    obtain ⟨k1, k2⟩ := rows_en (p := p) ha L (rowS a p M r) sq1 nd.2 fun x hx => h x (List.mem_cons_of_mem _ hx)
    refine ⟨k1, fun i j => ?_⟩
    rw [List.foldl_cons, k2, rowS_en sq ha hr.1, rowS_en sq ha hr.1, rowS_en sq ha hr.1, if_neg (fun e : a = r => hr.2 e.symm)]
    by_cases e : i = r
    · subst e
      rw [if_neg nd.1, if_pos rfl, if_pos (by simp)]
    · by_cases m : i ∈ L
      · rw [if_pos m, if_neg e, if_neg e, if_pos (by simp [m])]
      · rw [if_neg m, if_neg e, if_neg (by simp [m, e])]
theorem colM_sqN {n a c : Nat} {p : Int} {M B : List (List Int)} (sq : SqN n M) : SqN n (colM a p (M, B) c).1 := by
  refine ⟨by simp [colM, sq.1], fun i hi => ?_⟩
  have hi' : i < M.length := by rw [sq.1]; exact hi
  show (row (M.map _) i).length = n
  rw [row_map' hi']
  simp only [colS, List.length_set]
  exact sq.2 i hi
theorem cols_en {n a : Nat} {p : Int} (ha : a < n) : ∀ (L : List Nat) (st : List (List Int) × List (List Int)), SqN n st.1 → L.Nodup → (∀ r ∈ L, r < n ∧ r ≠ a) → SqN n (L.foldl (colM a p) st).1 ∧ ∀ i j, i < n → en (L.foldl (colM a p) st).1 i j = if j ∈ L then en st.1 i j - (en st.1 a j).fdiv p * en st.1 i a else en st.1 i j
  | [], st, sq, _, _ => ⟨sq, fun i j _ => by simp⟩
  | c :: L, (M, B), sq, nd, h => by
    have hc := h c (by simp)
    rw [List.nodup_cons] at nd
    have sq1 : SqN n (colM a p (M, B) c).1 := colM_sqN sq
    obtain ⟨k1, k2⟩ := cols_en (p := p) ha L (colM a p (M, B) c) sq1 nd.2 fun x hx => h x (List.mem_cons_of_mem _ hx)
    refine ⟨k1, fun i j hi => ?_⟩
    rw [List.foldl_cons, k2 i j hi, colM_en sq hc.1 hi, colM_en sq hc.1 ha, colM_en sq hc.1 hi, if_neg (fun e : a = c => hc.2 e.symm)]
    by_cases e : j = c
    · subst e
      rw [if_neg nd.1, if_pos rfl, if_pos (by simp)]
    · by_cases m : j ∈ L
      · rw [if_pos m, if_neg e, if_neg e, if_pos (by simp [m])]
      · rw [if_neg m, if_neg e, if_neg (by simp [m, e])]
theorem rg_nd (a n : Nat) : (rg a n).Nodup := by
  unfold rg
  rw [List.Nodup, List.pairwise_map]
  exact List.nodup_range.imp fun h e => h (by omega)
/-- the table after the steps of a round, ahead of its end -/
def redF (n a : Nat) (M B : List (List Int)) : List (List Int) × List (List Int) := colsF n a (en M a a) (rowsF n a (en M a a) M, B)
structure RedE (n a : Nat) (M N : List (List Int)) : Prop where
  sq : SqN n N
  low : ∀ i j, i < n → i < a → j ≤ a → en N i j = en M i j
  rl : ∀ i j, i < n → a ≤ i → j < a → en M a j = 0 → en N i j = en M i j
  aa : en N a a = en M a a
  u : ∀ r, a < r → r < n → en N r a = (en M r a).fmod (en M a a)
  v : ∀ c, a < c → c < n → en N a c = (en M a c).fmod (en M a a)
  w : ∀ r c, a < r → r < n → a < c → c < n → en M a a * en N r c - en N r a * en N a c = en M a a * en M r c - en M r a * en M a c
theorem red_en {n a : Nat} {M B : List (List Int)} (sq : SqN n M) (ha : a < n) : RedE n a M (redF n a M B).1 := by
  generalize hp : en M a a = p
  obtain ⟨s1, e1⟩ := rows_en (p := p) ha (rg (a + 1) n) M sq (rg_nd _ _) rg_ne
  obtain ⟨s2, e2⟩ := cols_en (p := p) ha (rg (a + 1) n) (rowsF n a p M, B) s1 (rg_nd _ _) rg_ne
  have i1 : ∀ {r}, a < r → r < n → r ∈ rg (a + 1) n := fun h1 h2 => rg_mem.mpr ⟨by omega, h2⟩
  have i2 : ∀ {r}, r ≤ a → r ∉ rg (a + 1) n := fun h1 h2 => by have := rg_mem.mp h2; omega
  have eN : (redF n a M B).1 = ((rg (a + 1) n).foldl (colM a p) (rowsF n a p M, B)).1 := by unfold redF colsF; rw [hp]
  rw [eN]
  have E1 : ∀ i j, en (rowsF n a p M) i j = if i ∈ rg (a + 1) n then en M i j - (en M i a).fdiv p * en M a j else en M i j := e1
  have fm : ∀ x : Int, x - x.fdiv p * p = x.fmod p := fun x => by have := Int.fmod_def x p; rw [this, Int.mul_comm]
  refine ⟨s2, fun i j hi hia hja => ?_, fun i j hi hai hja z => ?_, ?_, fun r h1 h2 => ?_, fun c h1 h2 => ?_, fun r c h1 h2 h3 h4 => ?_⟩
  · rw [e2 i j hi, if_neg (i2 hja), E1, if_neg (i2 (by omega))]
  · rw [e2 i j hi, if_neg (i2 (by omega)), E1]
    split
    · rw [z]; omega
    · rfl
  · rw [e2 a a ha, if_neg (i2 (by omega)), E1, if_neg (i2 (by omega))]
  · rw [e2 r a h2, if_neg (i2 (by omega)), E1, if_pos (i1 h1 h2), hp, fm]
  · rw [e2 a c ha, if_pos (i1 h1 h2), E1, E1, if_neg (i2 (by omega)), if_neg (i2 (by omega)), hp, fm]
  · rw [e2 r c h2, e2 r a h2, e2 a c ha, if_pos (i1 h3 h4), if_neg (i2 (by omega)), if_pos (i1 h3 h4)]
    simp only [E1]
    rw [if_pos (i1 h1 h2), if_pos (i1 h1 h2), if_neg (i2 (Nat.le_refl a)), if_neg (i2 (Nat.le_refl a)), hp]
    grind
/-! #### NS -/
/-! ### the least entry -/
theorem best_keep (M : List (List Int)) : ∀ (L : List (Nat × Nat)) (b : Nat × Nat × Nat), (b.1 = (en M b.2.1 b.2.2).natAbs) → ∃ c : Nat × Nat × Nat, L.foldl (bestS M) (some b) = some c ∧ c.1 = (en M c.2.1 c.2.2).natAbs ∧ (c = b ∨ ((c.2.1, c.2.2) ∈ L ∧ en M c.2.1 c.2.2 ≠ 0)) ∧ c.1 ≤ b.1 ∧ (∀ q ∈ L, en M q.1 q.2 ≠ 0 → c.1 ≤ (en M q.1 q.2).natAbs) ∧ ((∀ q ∈ L, en M q.1 q.2 ≠ 0 → b.1 ≤ (en M q.1 q.2).natAbs) → c = b)
  | [], b, hb => ⟨b, rfl, hb, .inl rfl, Nat.le_refl _, (fun q hq => by cases hq), fun _ => rfl⟩
  | q :: L, b, hb => by
    rw [List.foldl_cons]
    by_cases z : en M q.1 q.2 = 0
    · have e : bestS M (some b) q = some b := by unfold bestS; rw [if_pos z]
      rw [e]
      obtain ⟨c, h1, h2, h3, h4, h5, h6⟩ := best_keep M L b hb
      refine ⟨c, h1, h2, h3.imp id fun h => ⟨List.mem_cons_of_mem _ h.1, h.2⟩, h4, fun x hx hn => ?_, fun h => h6 fun x hx => h x (List.mem_cons_of_mem _ hx)⟩
      rcases List.mem_cons.mp hx with rfl | hx
      · exact absurd z hn
      · exact h5 x hx hn
    · by_cases lt : (en M q.1 q.2).natAbs < b.1
      · have e : bestS M (some b) q = some ((en M q.1 q.2).natAbs, q.1, q.2) := by unfold bestS; rw [if_neg z]; simp only; rw [if_pos lt]
        rw [e]
        obtain ⟨c, h1, h2, h3, h4, h5, h6⟩ := best_keep M L ((en M q.1 q.2).natAbs, q.1, q.2) rfl
        refine ⟨c, h1, h2, ?_, by simp only at h4; omega, fun x hx hn => ?_, fun h => ?_⟩
        · rcases h3 with rfl | h3
          · exact .inr ⟨by simp, z⟩
          · exact .inr ⟨List.mem_cons_of_mem _ h3.1, h3.2⟩
        · rcases List.mem_cons.mp hx with rfl | hx
          · exact h4
          · exact h5 x hx hn
        · have := h q (by simp) z
          omega
      · have e : bestS M (some b) q = some b := by unfold bestS; rw [if_neg z]; simp only; rw [if_neg lt]
        rw [e]
        obtain ⟨c, h1, h2, h3, h4, h5, h6⟩ := best_keep M L b hb
        refine ⟨c, h1, h2, h3.imp id fun h => ⟨List.mem_cons_of_mem _ h.1, h.2⟩, h4, fun x hx hn => ?_, fun h => h6 fun x hx => h x (List.mem_cons_of_mem _ hx)⟩
        rcases List.mem_cons.mp hx with rfl | hx
        · omega
        · exact h5 x hx hn
theorem best_none (M : List (List Int)) : ∀ (L : List (Nat × Nat)), (∃ q ∈ L, en M q.1 q.2 ≠ 0) → ∃ c : Nat × Nat × Nat, L.foldl (bestS M) none = some c ∧ c.1 = (en M c.2.1 c.2.2).natAbs ∧ (c.2.1, c.2.2) ∈ L ∧ en M c.2.1 c.2.2 ≠ 0 ∧ ∀ q ∈ L, en M q.1 q.2 ≠ 0 → c.1 ≤ (en M q.1 q.2).natAbs
  | [], h => by obtain ⟨q, hq, _⟩ := h; cases hq
  | q :: L, h => by
    rw [List.foldl_cons]
    by_cases z : en M q.1 q.2 = 0
    · have e : bestS M none q = none := by unfold bestS; rw [if_pos z]
      rw [e]
      obtain ⟨c, h1, h2, h3, h4, h5⟩ := best_none M L (by
        obtain ⟨x, hx, hn⟩ := h
        rcases List.mem_cons.mp hx with rfl | hx
        · exact absurd z hn
        · exact ⟨x, hx, hn⟩)
      refine ⟨c, h1, h2, List.mem_cons_of_mem _ h3, h4, fun x hx hn => ?_⟩
      rcases List.mem_cons.mp hx with rfl | hx
      · exact absurd z hn
      · exact h5 x hx hn
    · have e : bestS M none q = some ((en M q.1 q.2).natAbs, q.1, q.2) := by unfold bestS; rw [if_neg z]
      rw [e]
      obtain ⟨c, h1, h2, h3, h4, h5, _⟩ := best_keep M L ((en M q.1 q.2).natAbs, q.1, q.2) rfl
      refine ⟨c, h1, h2, ?_, ?_, fun x hx hn => ?_⟩
      · rcases h3 with rfl | h3
        · simp
        · exact List.mem_cons_of_mem _ h3.1
      · rcases h3 with rfl | h3
        · exact z
        · exact h3.2
      · rcases List.mem_cons.mp hx with rfl | hx
        · exact h4
        · exact h5 x hx hn
theorem mem_sq {a n : Nat} {q : Nat × Nat} : q ∈ ((rg a n).flatMap fun i => (rg a n).map fun j => (i, j)) ↔ (a ≤ q.1 ∧ q.1 < n) ∧ (a ≤ q.2 ∧ q.2 < n) := by
  rw [List.mem_flatMap]
  constructor
  · rintro ⟨i, hi, h⟩
    obtain ⟨j, hj, rfl⟩ := List.mem_map.mp h
    exact ⟨rg_mem.mp hi, rg_mem.mp hj⟩
  · rintro ⟨h1, h2⟩
    exact ⟨q.1, rg_mem.mpr h1, List.mem_map.mpr ⟨q.2, rg_mem.mpr h2, rfl⟩⟩
/-- the least entry is found -/
theorem least_some {M : List (List Int)} {n a : Nat} (h : ∃ i j, a ≤ i ∧ i < n ∧ a ≤ j ∧ j < n ∧ en M i j ≠ 0) : ∃ i j, leastP M n a = some ((en M i j).natAbs, i, j) ∧ a ≤ i ∧ i < n ∧ a ≤ j ∧ j < n ∧ en M i j ≠ 0 ∧ ∀ i' j', a ≤ i' → i' < n → a ≤ j' → j' < n → en M i' j' ≠ 0 → (en M i j).natAbs ≤ (en M i' j').natAbs := by
  obtain ⟨i, j, h1, h2, h3, h4, h5⟩ := h
  obtain ⟨c, k1, k2, k3, k4, k5⟩ := best_none M _ ⟨(i, j), mem_sq.mpr ⟨⟨h1, h2⟩, h3, h4⟩, h5⟩
  obtain ⟨⟨m1, m2⟩, m3, m4⟩ := mem_sq.mp k3
  refine ⟨c.2.1, c.2.2, ?_, m1, m2, m3, m4, k4, fun i' j' g1 g2 g3 g4 g5 => ?_⟩
  · unfold leastP
    rw [k1, ← k2]
  · rw [← k2]
    exact k5 (i', j') (mem_sq.mpr ⟨⟨g1, g2⟩, g3, g4⟩) g5
/-- the first place wins -/
theorem least_first {M : List (List Int)} {n a : Nat} (ha : a < n) (h0 : en M a a ≠ 0) (h : ∀ i' j', a ≤ i' → i' < n → a ≤ j' → j' < n → en M i' j' ≠ 0 → (en M a a).natAbs ≤ (en M i' j').natAbs) : leastP M n a = some ((en M a a).natAbs, a, a) := by
  have e : rg a n = a :: rg (a + 1) n := by
    unfold rg
    rw [show n - a = (n - (a + 1)) + 1 by omega, List.range_succ_eq_map, List.map_cons, List.map_map]
    congr 1
    refine List.map_congr_left fun k _ => ?_
    show a + (k + 1) = a + 1 + k
    omega
  have e2 : ((rg a n).flatMap fun i => (rg a n).map fun j => (i, j)) = (a, a) :: (((rg (a + 1) n).map fun j => (a, j)) ++ (rg (a + 1) n).flatMap fun i => (rg a n).map fun j => (i, j)) := by
    have g : ∀ (R L : List Nat) (f : Nat → List (Nat × Nat)), R = a :: L → R.flatMap f = f a ++ L.flatMap f := fun R L f h => by rw [h, List.flatMap_cons]
    rw [g (rg a n) _ _ e]
    have g2 : ∀ (R L : List Nat) (f : Nat → Nat × Nat), R = a :: L → R.map f = f a :: L.map f := fun R L f h => by rw [h, List.map_cons]
    show (rg a n).map (fun j => (a, j)) ++ _ = _
    rw [g2 (rg a n) _ (fun j => (a, j)) e]
    rfl
  have hm : ∀ q ∈ (((rg (a + 1) n).map fun j => (a, j)) ++ (rg (a + 1) n).flatMap fun i => (rg a n).map fun j => (i, j)), en M q.1 q.2 ≠ 0 → (en M a a).natAbs ≤ (en M q.1 q.2).natAbs := fun q hq => by
    have : q ∈ ((rg a n).flatMap fun i => (rg a n).map fun j => (i, j)) := by rw [e2]; exact List.mem_cons_of_mem _ hq
    obtain ⟨⟨m1, m2⟩, m3, m4⟩ := mem_sq.mp this
    exact h q.1 q.2 m1 m2 m3 m4
  unfold leastP
  rw [e2, List.foldl_cons]
  have e3 : bestS M none (a, a) = some ((en M a a).natAbs, a, a) := by unfold bestS; rw [if_neg h0]
  rw [e3]
  obtain ⟨c, h1, _, _, _, _, h6⟩ := best_keep M _ ((en M a a).natAbs, a, a) rfl
  rw [h1, h6 hm]
/-! #### NU -/
/-! ### two rows and two columns left: the pivot is halved within five rounds -/
def Rdm (q x : Int) : Prop := x = 0 ∨ (0 < q ∧ 0 < x ∧ x < q) ∨ (q < 0 ∧ x < 0 ∧ q < x)
theorem fm_red (a : Int) {q : Int} (h : q ≠ 0) : Rdm q (a.fmod q) ∧ ∃ c, a.fmod q = a - q * c := by
  refine ⟨?_, _, Int.fmod_def a q⟩
  rcases Int.lt_or_gt_of_ne h with n | p
  · have e : a.fmod q = -((-a).fmod (-q)) := by
      rw [Int.fmod_def, Int.fmod_def, Int.neg_fdiv_neg, Int.neg_mul]
      omega
    have h1 := Int.fmod_nonneg_of_pos (-a) (show 0 < -q by omega)
    have h2 := Int.fmod_lt_of_pos (-a) (show 0 < -q by omega)
    unfold Rdm
    omega
  · have h1 := Int.fmod_nonneg_of_pos a p
    have h2 := Int.fmod_lt_of_pos a p
    unfold Rdm
    omega
theorem red_lt {q x : Int} (h : Rdm q x) (hx : x ≠ 0) : x.natAbs < q.natAbs := by
  unfold Rdm at h
  omega
theorem fm_zero {a q : Int} : a.fmod q = 0 ↔ q ∣ a := ⟨Int.dvd_of_fmod_eq_zero, Int.fmod_eq_zero_of_dvd⟩
/-- a multiple within two steps -/
theorem fm_one {q x : Int} (h : Rdm q x) (hx : x ≠ 0) (h2 : q.natAbs < 2 * x.natAbs) : q.fmod x = q - x := by
  obtain ⟨r, c, hc⟩ := fm_red q hx
  have : c = 1 := by
    rcases h with h | ⟨h1, h3, h4⟩ | ⟨h1, h3, h4⟩
    · exact absurd h hx
    · unfold Rdm at r
      refine Decidable.byContradiction fun z => ?_
      rcases (by omega : c ≤ 0 ∨ 2 ≤ c) with z | z
      · have := Int.mul_nonpos_of_nonneg_of_nonpos (Int.le_of_lt h3) z
        omega
      · have := Int.mul_le_mul_of_nonneg_left z (Int.le_of_lt h3)
        omega
    · unfold Rdm at r
      refine Decidable.byContradiction fun z => ?_
      rcases (by omega : c ≤ 0 ∨ 2 ≤ c) with z | z
      · have := Int.mul_nonneg_of_nonpos_of_nonpos (Int.le_of_lt h3) z
        omega
      · have := Int.mul_nonneg_of_nonpos_of_nonpos (Int.le_of_lt h3) (show 2 - c ≤ 0 by omega)
        rw [Int.mul_sub] at this
        omega
  rw [hc, this, Int.mul_one]
def Rot (p v u w q x y z : Int) : Prop := (q = p ∧ x = v ∧ y = u ∧ z = w) ∨ (q = v ∧ x = p ∧ y = w ∧ z = u) ∨ (q = u ∧ x = w ∧ y = p ∧ z = v) ∨ (q = w ∧ x = u ∧ y = v ∧ z = p)
/-- a round that does not end the stage -/
structure Nx (p v u w p' v' u' w' q x y z x' y' z' : Int) : Prop where
  rot : Rot p v u w q x y z
  ne : q ≠ 0
  lx : x ≠ 0 → q.natAbs ≤ x.natAbs
  ly : y ≠ 0 → q.natAbs ≤ y.natAbs
  lz : z ≠ 0 → q.natAbs ≤ z.natAbs
  ex : x' = x.fmod q
  ey : y' = y.fmod q
  det : q * z' - x' * y' = q * z - x * y
  out : (¬ (x' = 0 ∧ y' = 0) ∧ p' = q ∧ v' = x' ∧ u' = y' ∧ w' = z') ∨ (x' = 0 ∧ y' = 0 ∧ ¬ q ∣ z' ∧ p' = q ∧ v' = z' ∧ u' = 0 ∧ w' = z')
def Nxt (p v u w p' v' u' w' : Int) : Prop := ∃ q x y z x' y' z', Nx p v u w p' v' u' w' q x y z x' y' z'
structure OkB (D X p v u w : Int) : Prop where
  det : p * w - v * u = D ∨ p * w - v * u = -D
  bp : p.natAbs ≤ D.natAbs + X.natAbs
  bv : v.natAbs ≤ D.natAbs + X.natAbs
  bu : u.natAbs ≤ D.natAbs + X.natAbs
  bw : w.natAbs ≤ D.natAbs + X.natAbs
  few : ∃ t, (t = p ∨ t = v ∨ t = u ∨ t = w) ∧ t ≠ 0 ∧ t.natAbs ≤ X.natAbs
theorem rot_det {D p v u w q x y z : Int} (r : Rot p v u w q x y z) (h : p * w - v * u = D ∨ p * w - v * u = -D) : q * z - x * y = D ∨ q * z - x * y = -D := by
  rcases r with ⟨rfl, rfl, rfl, rfl⟩ | ⟨rfl, rfl, rfl, rfl⟩ | ⟨rfl, rfl, rfl, rfl⟩ | ⟨rfl, rfl, rfl, rfl⟩
  · exact h
  · rcases h with h | h
    · right; rw [← h]; grind
    · left; have : D = -(x * y - q * z) := by omega
      rw [this]; grind
  · rcases h with h | h
    · right; rw [← h]; grind
    · left; have : D = -(y * x - z * q) := by omega
      rw [this]; grind
  · rcases h with h | h
    · left; rw [← h]; grind
    · right; rw [← h]; grind
theorem quot_bound {q z x y D : Int} (hq : q ≠ 0) (h : q * z - x * y = D ∨ q * z - x * y = -D) (hx : x.natAbs ≤ q.natAbs) (hy : y.natAbs ≤ q.natAbs) : z.natAbs ≤ D.natAbs + q.natAbs := by
  have e : (q * z).natAbs ≤ D.natAbs + (x * y).natAbs := by omega
  rw [Int.natAbs_mul, Int.natAbs_mul] at e
  have h1 : x.natAbs * y.natAbs ≤ q.natAbs * q.natAbs := Nat.mul_le_mul hx hy
  have q1 : 1 ≤ q.natAbs := by omega
  refine Nat.le_of_mul_le_mul_left (c := q.natAbs) ?_ q1
  have h2 : D.natAbs ≤ q.natAbs * D.natAbs := Nat.le_mul_of_pos_left _ q1
  rw [Nat.mul_add]
  omega
theorem Nxt.ok {D X p v u w p' v' u' w' : Int} (o : OkB D X p v u w) (n : Nxt p v u w p' v' u' w') : OkB D X p' v' u' w' := by
  obtain ⟨q, x, y, z, x', y', z', n⟩ := n
  have d := rot_det n.rot o.det
  rw [← n.det] at d
  have lq : q.natAbs ≤ X.natAbs := by
    obtain ⟨t, ht, h0, hX⟩ := o.few
    have h1 := n.lx
    have h2 := n.ly
    have h3 := n.lz
    rcases n.rot with ⟨rfl, rfl, rfl, rfl⟩ | ⟨rfl, rfl, rfl, rfl⟩ | ⟨rfl, rfl, rfl, rfl⟩ | ⟨rfl, rfl, rfl, rfl⟩ <;> rcases ht with rfl | rfl | rfl | rfl <;> first | exact hX | exact Nat.le_trans (h1 h0) hX | exact Nat.le_trans (h2 h0) hX | exact Nat.le_trans (h3 h0) hX
  have rx := (fm_red x n.ne).1
  have ry := (fm_red y n.ne).1
  rw [← n.ex] at rx
  rw [← n.ey] at ry
  have bx : x'.natAbs ≤ q.natAbs := by unfold Rdm at rx; omega
  have by' : y'.natAbs ≤ q.natAbs := by unfold Rdm at ry; omega
  have bz := quot_bound n.ne d bx by'
  rcases n.out with ⟨_, rfl, rfl, rfl, rfl⟩ | ⟨e1, e2, _, rfl, rfl, rfl, rfl⟩
  · exact ⟨d, by omega, by omega, by omega, by omega, p', .inl rfl, n.ne, lq⟩
  · rw [e1, e2] at d
    exact ⟨by simpa using d, by omega, by omega, by omega, by omega, p', .inl rfl, n.ne, lq⟩
section
variable {G : Nat → Int → Int → Int → Int → Prop} {D X : Int} (hG : ∀ k p v u w, OkB D X p v u w → (∀ p' v' u' w', Nxt p v u w p' v' u' w' → G k p' v' u' w') → G (k + 1) p v u w)
  {e b : Nat} (IH : ∀ k p v u w, OkB D X p v u w → (∃ t, (t = p ∨ t = v ∨ t = u ∨ t = w) ∧ t ≠ 0 ∧ t.natAbs < 2 ^ e) → b ≤ k → G k p v u w)
include hG IH
/-- the fourth entry is not the next pivot -/
theorem hv_r0 {k : Nat} {q x y z : Int} (o : OkB D X q x y z) (hx : Rdm q x) (hy : Rdm q y) (hn : x ≠ 0 ∨ y ≠ 0) (hq : q.natAbs < 2 ^ (e + 1)) (hz : z ≠ 0 → q.natAbs ≤ z.natAbs) (hk : b + 1 ≤ k) : G k q x y z := by
  by_cases sm : ∃ t, (t = q ∨ t = x ∨ t = y ∨ t = z) ∧ t ≠ 0 ∧ t.natAbs < 2 ^ e
  · exact IH k _ _ _ _ o sm (by omega)
  obtain ⟨j, rfl⟩ : ∃ j, k = j + 1 := ⟨k - 1, by omega⟩
  refine hG j _ _ _ _ o fun p' v' u' w' n => ?_
  have o' := n.ok o
  obtain ⟨q1, x1, y1, z1, x', y', z', n⟩ := n
  have h2 : 2 ^ (e + 1) = 2 * 2 ^ e := by rw [Nat.pow_succ]; omega
  have big : ∀ t, (t = q ∨ t = x ∨ t = y ∨ t = z) → t ≠ 0 → 2 ^ e ≤ t.natAbs := fun t ht h0 => Nat.le_of_not_lt fun z => sm ⟨t, ht, h0, z⟩
  have lx := fun h => red_lt hx h
  have ly := fun h => red_lt hy h
  rcases n.rot with ⟨rfl, rfl, rfl, rfl⟩ | ⟨rfl, rfl, rfl, rfl⟩ | ⟨rfl, rfl, rfl, rfl⟩ | ⟨rfl, rfl, rfl, rfl⟩
  · rcases hn with h | h
    · have := n.lx h; have := lx h; omega
    · have := n.ly h; have := ly h; omega
  · have bq := big q1 (.inr (.inl rfl)) n.ne
    have e1 := fm_one hx n.ne (by omega)
    have l1 := lx n.ne
    rw [← n.ex] at e1
    have ne1 : x' ≠ 0 := by omega
    have s1 : x'.natAbs < 2 ^ e := by unfold Rdm at hx; omega
    rcases n.out with ⟨_, rfl, rfl, rfl, rfl⟩ | ⟨z0, _⟩
    · exact IH j _ _ _ _ o' ⟨_, .inr (.inl rfl), ne1, s1⟩ (by omega)
    · exact absurd z0 ne1
  · have bq := big q1 (.inr (.inr (.inl rfl))) n.ne
    have e1 := fm_one hy n.ne (by omega)
    have l1 := ly n.ne
    rw [← n.ey] at e1
    have ne1 : y' ≠ 0 := by omega
    have s1 : y'.natAbs < 2 ^ e := by unfold Rdm at hy; omega
    rcases n.out with ⟨_, rfl, rfl, rfl, rfl⟩ | ⟨_, z0, _⟩
    · exact IH j _ _ _ _ o' ⟨_, .inr (.inr (.inl rfl)), ne1, s1⟩ (by omega)
    · exact absurd z0 ne1
  · have := hz n.ne
    rcases hn with h | h
    · have := n.ly h; have := lx h; omega
    · have := n.lx h; have := ly h; omega
/-- after a row was added: the pivot is less than the rest -/
theorem hv_o1 {k : Nat} {q z : Int} (o : OkB D X q z 0 z) (q0 : q ≠ 0) (hd : ¬ q ∣ z) (hq : q.natAbs < 2 ^ (e + 1)) (hz : q.natAbs < z.natAbs) (hk : b + 2 ≤ k) : G k q z 0 z := by
  obtain ⟨j, rfl⟩ : ∃ j, k = j + 1 := ⟨k - 1, by omega⟩
  refine hG j _ _ _ _ o fun p' v' u' w' n => ?_
  have o' := n.ok o
  obtain ⟨q1, x1, y1, z1, x', y', z', n⟩ := n
  have z0 : z ≠ 0 := by omega
  rcases n.rot with ⟨rfl, rfl, rfl, rfl⟩ | ⟨rfl, rfl, rfl, rfl⟩ | ⟨rfl, rfl, rfl, rfl⟩ | ⟨rfl, rfl, rfl, rfl⟩
  · have nx : x' ≠ 0 := fun h => hd (fm_zero.mp (n.ex.symm.trans h))
    have ey : y' = 0 := by rw [n.ey]; exact Int.zero_fmod _
    have ez : z' = z1 := by
      have d := n.det
      rw [ey] at d
      simp only [Int.mul_zero, Int.sub_zero] at d
      exact Int.eq_of_mul_eq_mul_left q0 d
    rcases n.out with ⟨_, rfl, rfl, rfl, rfl⟩ | ⟨h, _⟩
    · have rx := (fm_red z1 q0).1
      rw [← n.ex] at rx
      exact hv_r0 hG IH o' rx (.inl ey) (.inl nx) hq (fun _ => by rw [ez]; omega) (by omega)
    · exact absurd h nx
  · have := n.lx q0; omega
  · exact absurd rfl n.ne
  · have := n.lz q0; omega
theorem hv_o {k : Nat} {q z : Int} (o : OkB D X q z 0 z) (q0 : q ≠ 0) (hd : ¬ q ∣ z) (hq : q.natAbs < 2 ^ (e + 1)) (hk : b + 3 ≤ k) : G k q z 0 z := by
  have z0 : z ≠ 0 := fun h => hd (h ▸ Int.dvd_zero q)
  have nab : q.natAbs ≠ z.natAbs := fun h => hd (Int.natAbs_dvd_natAbs.mp (h ▸ Nat.dvd_refl _))
  by_cases lt : q.natAbs < z.natAbs
  · exact hv_o1 hG IH o q0 hd hq lt (by omega)
  by_cases sm : ∃ t, (t = q ∨ t = z ∨ t = 0 ∨ t = z) ∧ t ≠ 0 ∧ t.natAbs < 2 ^ e
  · exact IH k _ _ _ _ o sm (by omega)
  obtain ⟨j, rfl⟩ : ∃ j, k = j + 1 := ⟨k - 1, by omega⟩
  refine hG j _ _ _ _ o fun p' v' u' w' n => ?_
  have o' := n.ok o
  obtain ⟨q1, x1, y1, z1, x', y', z', n⟩ := n
  have h2 : 2 ^ (e + 1) = 2 * 2 ^ e := by rw [Nat.pow_succ]; omega
  have bz : 2 ^ e ≤ z.natAbs := Nat.le_of_not_lt fun h => sm ⟨z, .inr (.inl rfl), z0, h⟩
  rcases n.rot with ⟨rfl, rfl, rfl, rfl⟩ | ⟨rfl, rfl, rfl, rfl⟩ | ⟨rfl, rfl, rfl, rfl⟩ | ⟨rfl, rfl, rfl, rfl⟩
  · have := n.lx z0; omega
  · -- the pivot stands at the right of the first row
    have ey : y' = 0 := by rw [n.ey]; exact fm_zero.mpr (Int.dvd_refl _)
    have ez : z' = -x1 := by
      have d := n.det
      rw [ey] at d
      simp only [Int.mul_zero, Int.sub_zero] at d
      refine Int.eq_of_mul_eq_mul_left z0 ?_
      rw [d]; grind
    obtain ⟨rx, c, hc⟩ := fm_red x1 z0
    rw [← n.ex] at rx hc
    have nx : x' ≠ 0 := by
      intro h
      have dv := fm_zero.mp (n.ex.symm.trans h)
      obtain ⟨c, hc⟩ := dv
      have ha := congrArg Int.natAbs hc
      rw [Int.natAbs_mul] at ha
      have : c.natAbs = 1 := by
        rcases (by omega : c.natAbs = 0 ∨ c.natAbs = 1 ∨ 2 ≤ c.natAbs) with k | k | k
        · rw [k] at ha; omega
        · exact k
        · have := Nat.mul_le_mul_left y1.natAbs k
          omega
      rw [this] at ha
      omega
    rcases n.out with ⟨_, rfl, rfl, rfl, rfl⟩ | ⟨h, _⟩
    · exact hv_r0 hG IH o' rx (.inl ey) (.inl nx) (by omega) (fun _ => by rw [ez]; omega) (by omega)
    · exact absurd h nx
  · exact absurd rfl n.ne
  · have ex : x' = 0 := by rw [n.ex]; exact Int.zero_fmod _
    have ey : y' = 0 := by rw [n.ey]; exact fm_zero.mpr (Int.dvd_refl _)
    have ez : z' = z1 := by
      have d := n.det
      rw [ey, ex] at d
      simp only [Int.mul_zero, Int.sub_zero, Int.zero_mul] at d
      exact Int.eq_of_mul_eq_mul_left z0 d
    rcases n.out with ⟨h, _⟩ | ⟨_, _, hd2, rfl, rfl, rfl, rfl⟩
    · exact absurd ⟨ex, ey⟩ h
    · subst ez
      exact hv_o1 hG IH o' z0 hd2 (by omega) (by omega) (by omega)
theorem hv_r {k : Nat} {q x y z : Int} (o : OkB D X q x y z) (q0 : q ≠ 0) (hx : Rdm q x) (hy : Rdm q y) (hn : x ≠ 0 ∨ y ≠ 0) (hq : q.natAbs < 2 ^ (e + 1)) (hk : b + 4 ≤ k) : G k q x y z := by
  by_cases hz : z ≠ 0 → q.natAbs ≤ z.natAbs
  · exact hv_r0 hG IH o hx hy hn hq hz (by omega)
  have z0 : z ≠ 0 := fun h => hz fun h' => absurd h h'
  have zq : z.natAbs < q.natAbs := Nat.lt_of_not_le fun h => hz fun _ => h
  by_cases sm : ∃ t, (t = q ∨ t = x ∨ t = y ∨ t = z) ∧ t ≠ 0 ∧ t.natAbs < 2 ^ e
  · exact IH k _ _ _ _ o sm (by omega)
  obtain ⟨j, rfl⟩ : ∃ j, k = j + 1 := ⟨k - 1, by omega⟩
  refine hG j _ _ _ _ o fun p' v' u' w' n => ?_
  have o' := n.ok o
  obtain ⟨q1, x1, y1, z1, x', y', z', n⟩ := n
  have h2 : 2 ^ (e + 1) = 2 * 2 ^ e := by rw [Nat.pow_succ]; omega
  have big : ∀ t, (t = q ∨ t = x ∨ t = y ∨ t = z) → t ≠ 0 → 2 ^ e ≤ t.natAbs := fun t ht h0 => Nat.le_of_not_lt fun z => sm ⟨t, ht, h0, z⟩
  have lx := fun h => red_lt hx h
  have ly := fun h => red_lt hy h
  have bz := big z (.inr (.inr (.inr rfl))) z0
  rcases n.rot with ⟨rfl, rfl, rfl, rfl⟩ | ⟨rfl, rfl, rfl, rfl⟩ | ⟨rfl, rfl, rfl, rfl⟩ | ⟨rfl, rfl, rfl, rfl⟩
  · rcases hn with h | h
    · have := n.lx h; have := lx h; omega
    · have := n.ly h; have := ly h; omega
  · have bq := big q1 (.inr (.inl rfl)) n.ne
    have e1 := fm_one hx n.ne (by omega)
    have l1 := lx n.ne
    rw [← n.ex] at e1
    have ne1 : x' ≠ 0 := by omega
    have s1 : x'.natAbs < 2 ^ e := by unfold Rdm at hx; omega
    rcases n.out with ⟨_, rfl, rfl, rfl, rfl⟩ | ⟨z0, _⟩
    · exact IH j _ _ _ _ o' ⟨_, .inr (.inl rfl), ne1, s1⟩ (by omega)
    · exact absurd z0 ne1
  · have bq := big q1 (.inr (.inr (.inl rfl))) n.ne
    have e1 := fm_one hy n.ne (by omega)
    have l1 := ly n.ne
    rw [← n.ey] at e1
    have ne1 : y' ≠ 0 := by omega
    have s1 : y'.natAbs < 2 ^ e := by unfold Rdm at hy; omega
    rcases n.out with ⟨_, rfl, rfl, rfl, rfl⟩ | ⟨_, z0, _⟩
    · exact IH j _ _ _ _ o' ⟨_, .inr (.inr (.inl rfl)), ne1, s1⟩ (by omega)
    · exact absurd z0 ne1
  · -- the fourth entry is the pivot
    have rx := (fm_red x1 z0).1
    have ry := (fm_red y1 z0).1
    rw [← n.ex] at rx
    rw [← n.ey] at ry
    rcases n.out with ⟨nn, rfl, rfl, rfl, rfl⟩ | ⟨e1, e2, hd2, rfl, rfl, rfl, rfl⟩
    · by_cases same : (0 < p' ∧ 0 < z1) ∨ (p' < 0 ∧ z1 < 0)
      · -- the remainders are less than half
        have key : ∀ t r : Int, Rdm z1 t → (t ≠ 0 → p'.natAbs ≤ t.natAbs) → r = t.fmod p' → r ≠ 0 → r.natAbs < 2 ^ e := fun t r ht hl hr h0 => by
          by_cases t0 : t = 0
          · rw [t0, Int.zero_fmod] at hr; exact absurd hr h0
          have lt := red_lt ht t0
          have le := hl t0
          by_cases eq : t = p'
          · rw [eq] at hr; rw [fm_zero.mpr (Int.dvd_refl _)] at hr; exact absurd hr h0
          have rd : Rdm t p' := by unfold Rdm at ht ⊢; omega
          have := fm_one rd z0 (by omega)
          rw [← hr] at this
          unfold Rdm at ht
          omega
        by_cases c : v' = 0
        · have c2 : u' ≠ 0 := fun h => nn ⟨c, h⟩
          exact IH j _ _ _ _ o' ⟨u', .inr (.inr (.inl rfl)), c2, key y1 u' hx n.ly n.ey c2⟩ (by omega)
        · exact IH j _ _ _ _ o' ⟨v', .inr (.inl rfl), c, key x1 v' hy n.lx n.ex c⟩ (by omega)
      · -- signs differ: the new fourth entry is greater than the pivot before
        refine hv_r0 hG IH o' rx ry (by
          by_cases c : v' = 0
          · exact .inr fun h => nn ⟨c, h⟩
          · exact .inl c) (by omega) (fun _ => ?_) (by omega)
        have d := n.det
        have m1 : (v' * u').natAbs ≤ (x1 * y1).natAbs := by
          rw [Int.natAbs_mul, Int.natAbs_mul]
          refine Nat.mul_le_mul ?_ ?_
          · by_cases x0 : x1 = 0
            · have : v' = 0 := by rw [n.ex, x0]; exact Int.zero_fmod _
              omega
            · have := n.lx x0
              unfold Rdm at rx
              omega
          · by_cases x0 : y1 = 0
            · have : u' = 0 := by rw [n.ey, x0]; exact Int.zero_fmod _
              omega
            · have := n.ly x0
              unfold Rdm at ry
              omega
        have pz : p' * z1 < 0 := by
          have hp := z0
          rcases Int.lt_or_gt_of_ne hp with h | h
          · have : 0 < z1 := by omega
            exact Int.mul_neg_of_neg_of_pos h this
          · have : z1 < 0 := by omega
            exact Int.mul_neg_of_pos_of_neg h this
        have xy : 0 ≤ x1 * y1 := by
          unfold Rdm at hx hy
          rcases hx with h | ⟨_, h, _⟩ | ⟨g, h, _⟩
          · rw [h]; simp
          · rcases hy with h' | ⟨_, h', _⟩ | ⟨g', h', _⟩
            · rw [h']; simp
            · exact Int.mul_nonneg (by omega) (by omega)
            · omega
          · rcases hy with h' | ⟨_, h', _⟩ | ⟨g', h', _⟩
            · rw [h']; simp
            · omega
            · exact Int.mul_nonneg_of_nonpos_of_nonpos (by omega) (by omega)
        have vu : 0 ≤ v' * u' := by
          unfold Rdm at rx ry
          rcases rx with h | ⟨_, h, _⟩ | ⟨g, h, _⟩
          · rw [h]; simp
          · rcases ry with h' | ⟨_, h', _⟩ | ⟨g', h', _⟩
            · rw [h']; simp
            · exact Int.mul_nonneg (by omega) (by omega)
            · omega
          · rcases ry with h' | ⟨_, h', _⟩ | ⟨g', h', _⟩
            · rw [h']; simp
            · omega
            · exact Int.mul_nonneg_of_nonpos_of_nonpos (by omega) (by omega)
        have le : (p' * z1).natAbs ≤ (p' * w').natAbs := by omega
        rw [Int.natAbs_mul, Int.natAbs_mul] at le
        have := Nat.le_of_mul_le_mul_left le (by omega)
        omega
    · exact hv_o hG IH o' z0 hd2 (by omega) (by omega)
/-- within five rounds there is an entry with a bit less -/
theorem hv_all {k : Nat} {p v u w : Int} (o : OkB D X p v u w) (hs : ∃ t, (t = p ∨ t = v ∨ t = u ∨ t = w) ∧ t ≠ 0 ∧ t.natAbs < 2 ^ (e + 1)) (hk : b + 5 ≤ k) : G k p v u w := by
  obtain ⟨j, rfl⟩ : ∃ j, k = j + 1 := ⟨k - 1, by omega⟩
  refine hG j _ _ _ _ o fun p' v' u' w' n => ?_
  have o' := n.ok o
  obtain ⟨q, x, y, z, x', y', z', n⟩ := n
  have lq : q.natAbs < 2 ^ (e + 1) := by
    obtain ⟨t, ht, h0, hX⟩ := hs
    have h1 := n.lx
    have h2 := n.ly
    have h3 := n.lz
    rcases n.rot with ⟨rfl, rfl, rfl, rfl⟩ | ⟨rfl, rfl, rfl, rfl⟩ | ⟨rfl, rfl, rfl, rfl⟩ | ⟨rfl, rfl, rfl, rfl⟩ <;> rcases ht with rfl | rfl | rfl | rfl <;> first | exact hX | exact Nat.lt_of_le_of_lt (h1 h0) hX | exact Nat.lt_of_le_of_lt (h2 h0) hX | exact Nat.lt_of_le_of_lt (h3 h0) hX
  have rx := (fm_red x n.ne).1
  have ry := (fm_red y n.ne).1
  rw [← n.ex] at rx
  rw [← n.ey] at ry
  rcases n.out with ⟨nn, rfl, rfl, rfl, rfl⟩ | ⟨_, _, hd, rfl, rfl, rfl, rfl⟩
  · exact hv_r hG IH o' n.ne rx ry (by
      by_cases c : v' = 0
      · exact .inr fun h => nn ⟨c, h⟩
      · exact .inl c) lq (by omega)
  · exact hv_o hG IH o' n.ne hd lq (by omega)
end
/-- the two by two stage ends -/
theorem hv_end {G : Nat → Int → Int → Int → Int → Prop} {D X : Int} (hG : ∀ k p v u w, OkB D X p v u w → (∀ p' v' u' w', Nxt p v u w p' v' u' w' → G k p' v' u' w') → G (k + 1) p v u w) :
    ∀ (e k : Nat) (p v u w : Int), OkB D X p v u w → (∃ t, (t = p ∨ t = v ∨ t = u ∨ t = w) ∧ t ≠ 0 ∧ t.natAbs < 2 ^ e) → 5 * e ≤ k → G k p v u w
  | 0, k, p, v, u, w, o, ⟨t, _, h0, h⟩, _ => by simp at h; omega
  | e + 1, k, p, v, u, w, o, hs, hk => hv_all hG (e := e) (b := 5 * e) (fun k p v u w o h hk => hv_end hG e k p v u w o h hk) o hs (by omega)
/-! #### NV -/
/-! ### a round of `matched`, told by its entries -/
theorem sqN_swap {n : Nat} {M : List (List Int)} (sq : SqN n M) {i j : Nat} (hi : i < n) (hj : j < n) : SqN n (swapL [] M i j) := by
  refine ⟨by rw [swapL_len, sq.1], fun m hm => ?_⟩
  have e : row (swapL [] M i j) m = row M (sw i j m) := by
    have := swapL_get [] M (i := i) (j := j) (by rw [sq.1]; exact hi) (by rw [sq.1]; exact hj) m
    unfold row
    rw [List.getD_eq_getElem?_getD, List.getD_eq_getElem?_getD, this]
  rw [e]
  exact sq.2 _ (by unfold sw; split <;> (try split) <;> omega)
theorem sqN_swC {n : Nat} {M : List (List Int)} (sq : SqN n M) (a j : Nat) : SqN n (swC a j M) := by
  refine ⟨by simp [swC, sq.1], fun m hm => ?_⟩
  unfold swC
  rw [row_map' (by rw [sq.1]; exact hm), swapL_len]
  exact sq.2 m hm
/-- the columns' steps: how the basis grows -/
theorem cols_B {n a k : Nat} {p : Int} (p0 : p ≠ 0) (hp : Sm k p) (ha : a < n) : ∀ (L : List Nat) (st : List (List Int) × List (List Int)) (b : Nat), SqN n st.1 → st.2.length = n → (∀ v ∈ st.2, VecOk b n v) → L.Nodup → (∀ c ∈ L, c < n ∧ c ≠ a) → (∀ c ∈ L, Sm k (en st.1 a c)) → (L.foldl (colM a p) st).2.length = n ∧ ∀ v ∈ (L.foldl (colM a p) st).2, VecOk (b + L.length * (k + 2)) n v
  | [], st, b, sq, hl, hv, _, _, _ => ⟨hl, by simpa using hv⟩
  | c :: L, (M, B), b, sq, hl, hv, nd, hr, hs => by
    have hc := hr c (by simp)
    rw [List.nodup_cons] at nd
    have sq1 : SqN n (colM a p (M, B) c).1 := colM_sqN sq
    have sf := sm_fdiv (hs c (by simp)) hp p0
    have hl' : B.length = n := hl
    have mb : ∀ i, i < n → row B i ∈ B := fun i hi => by rw [row_lt (by rw [hl']; exact hi)]; exact List.getElem_mem _
    have v1 : ∀ v ∈ (colM a p (M, B) c).2, VecOk (b + (k + 2)) n v := fun v hv' => by
      rcases List.mem_or_eq_of_mem_set (show v ∈ B.set a _ from hv') with q | rfl
      · exact (hv v q).mono (by omega)
      · exact ((hv _ (mb a ha)).plus sf (hv _ (mb c hc.1))).mono (by simp only [Nat.max_def]; split <;> omega)
    obtain ⟨k1, k2⟩ := cols_B p0 hp ha L (colM a p (M, B) c) (b + (k + 2)) sq1 (by show (B.set a _).length = n; rw [List.length_set]; exact hl') v1 nd.2 (fun x hx => hr x (List.mem_cons_of_mem _ hx)) fun x hx => by
      have ne : x ≠ c := fun e => nd.1 (e ▸ hx)
      rw [colM_en sq hc.1 ha, if_neg ne]
      exact hs x (List.mem_cons_of_mem _ hx)
    refine ⟨k1, fun v hv' => (k2 v hv').mono ?_⟩
    rw [List.length_cons, Nat.add_mul]
    omega
theorem odd_iff {N : List (List Int)} {n a r : Nat} (sq : SqN n N) (hr : r < n) : oddR N n a r = true ↔ ∃ c, a < c ∧ c < n ∧ ¬ en N a a ∣ en N r c := by
  unfold oddR
  rw [List.any_eq_true]
  have l := sq.2 r hr
  constructor
  · rintro ⟨x, hx, h⟩
    obtain ⟨i, hi, rfl⟩ := List.getElem_of_mem hx
    rw [List.length_drop] at hi
    refine ⟨a + 1 + i, by omega, by omega, fun d => ?_⟩
    rw [List.getElem_drop] at h
    have h := of_decide_eq_true h
    apply h
    have : en N r (a + 1 + i) = (row N r)[a + 1 + i] := gt_lt (by omega)
    rw [← this]
    exact Int.fmod_eq_zero_of_dvd d
  · rintro ⟨c, h1, h2, h3⟩
    refine ⟨(row N r)[c]'(by omega), ?_, ?_⟩
    · rw [List.mem_iff_getElem]
      refine ⟨c - (a + 1), by rw [List.length_drop]; omega, ?_⟩
      rw [List.getElem_drop]
      congr 1
      omega
    · refine decide_eq_true fun h => h3 ?_
      have : en N r c = (row N r)[c]'(by omega) := gt_lt (by omega)
      rw [this]
      exact Int.dvd_of_fmod_eq_zero h
/-- the outcomes of a round -/
structure RndC (n a : Nat) (M1 N BN : List (List Int)) (s' : St) : Prop where
  red : RedE n a M1 N
  lowz : ∀ i j, i < a → a < j → j < n → en M1 i a = 0 → en N i j = en M1 i j
  out : ((∃ r, a < r ∧ r < n ∧ (en N r a ≠ 0 ∨ en N a r ≠ 0)) ∧ s' = ⟨a, N, BN⟩) ∨
    (∀ r, a < r → r < n → en N r a = 0 ∧ en N a r = 0) ∧
      ((∃ o c N', a < o ∧ o < n ∧ a < c ∧ c < n ∧ ¬ en N a a ∣ en N o c ∧ SqN n N' ∧ (∀ i j, i < n → en N' i j = if i = a then en N a j + en N o j else en N i j) ∧ s' = ⟨a, N', BN⟩) ∨
      ((∀ r c, a < r → r < n → a < c → c < n → en N a a ∣ en N r c) ∧ s' = ⟨a + 1, N, BN⟩))
theorem round_spec {n i j : Nat} {s : St} (sq : SqN n s.M) (ha : s.a < n) (hi : i < n) (hj : j < n) :
    ∃ M1 N BN, (∀ r c, en M1 r c = en s.M (sw s.a i r) (sw s.a j c)) ∧ RndC n s.a M1 N BN (roundF n s i j) ∧
      (∀ b k, s.B.length = n → (∀ v ∈ s.B, VecOk b n v) → (∀ i j, Sm k (en s.M i j)) → en s.M i j ≠ 0 → BN.length = n ∧ ∀ v ∈ BN, VecOk (b + (n - (s.a + 1)) * (k + 2)) n v) := by
  have sq0 := sqN_swap sq ha hi
  have sq1 := sqN_swC sq0 s.a j
  refine ⟨swC s.a j (swapL [] s.M s.a i), (redF n s.a (swC s.a j (swapL [] s.M s.a i)) (swapL [] s.B s.a j)).1, (redF n s.a (swC s.a j (swapL [] s.M s.a i)) (swapL [] s.B s.a j)).2, fun r c => by rw [swC_en sq0 ha hj, swap_en sq ha hi], ?_, ?_⟩
  · have eR : roundF n s i j = endF n s.a (redF n s.a (swC s.a j (swapL [] s.M s.a i)) (swapL [] s.B s.a j)).1 (redF n s.a (swC s.a j (swapL [] s.M s.a i)) (swapL [] s.B s.a j)).2 := rfl
    rw [eR]
    generalize swC s.a j (swapL [] s.M s.a i) = M1 at sq1 ⊢
    generalize swapL [] s.B s.a j = B1
    have R := red_en (B := B1) sq1 ha
    have low : ∀ i j, i < s.a → s.a < j → j < n → en M1 i s.a = 0 → en (redF n s.a M1 B1).1 i j = en M1 i j := fun i j h1 h2 h3 h4 => by
      obtain ⟨s1, e1⟩ := rows_en (p := en M1 s.a s.a) ha (rg (s.a + 1) n) M1 sq1 (rg_nd _ _) rg_ne
      obtain ⟨s2, e2⟩ := cols_en (p := en M1 s.a s.a) ha (rg (s.a + 1) n) (rowsF n s.a (en M1 s.a s.a) M1, B1) s1 (rg_nd _ _) rg_ne
      have E1 : ∀ i j, en (rowsF n s.a (en M1 s.a s.a) M1) i j = if i ∈ rg (s.a + 1) n then en M1 i j - (en M1 i s.a).fdiv (en M1 s.a s.a) * en M1 s.a j else en M1 i j := e1
      have ni : i ∉ rg (s.a + 1) n := fun h => by have := rg_mem.mp h; omega
      show en ((rg (s.a + 1) n).foldl (colM s.a (en M1 s.a s.a)) (rowsF n s.a (en M1 s.a s.a) M1, B1)).1 i j = _
      rw [e2 i j (by omega), if_pos (rg_mem.mpr ⟨by omega, h3⟩)]
      simp only [E1]
      rw [if_neg ni, if_neg ni, h4]
      omega
    generalize (redF n s.a M1 B1).1 = N at R low ⊢
    generalize (redF n s.a M1 B1).2 = BN
    refine ⟨R, low, ?_⟩
    have anyI : anyF N n s.a = true ↔ ∃ r, s.a < r ∧ r < n ∧ (en N r s.a ≠ 0 ∨ en N s.a r ≠ 0) := by
      unfold anyF
      rw [List.any_eq_true]
      constructor
      · rintro ⟨r, hr, h⟩
        have := rg_mem.mp hr
        refine ⟨r, by omega, this.2, ?_⟩
        rw [Bool.or_eq_true, decide_eq_true_iff, decide_eq_true_iff] at h
        exact h
      · rintro ⟨r, h1, h2, h⟩
        refine ⟨r, rg_mem.mpr ⟨by omega, h2⟩, ?_⟩
        rw [Bool.or_eq_true, decide_eq_true_iff, decide_eq_true_iff]
        exact h
    unfold endF
    by_cases c : anyF N n s.a = true
    · rw [if_pos c]
      exact .inl ⟨anyI.mp c, rfl⟩
    · rw [if_neg c]
      right
      refine ⟨fun r h1 h2 => ?_, ?_⟩
      · refine Decidable.byContradiction fun h => c (anyI.mpr ⟨r, h1, h2, ?_⟩)
        by_cases z : en N r s.a = 0
        · exact .inr fun z' => h ⟨z, z'⟩
        · exact .inl z
      · cases ho : oddP N n s.a with
        | some o =>
          left
          have mo := rg_mem.mp (List.mem_of_find?_eq_some ho)
          obtain ⟨c', h1, h2, h3⟩ := (odd_iff R.sq mo.2).mp (List.find?_some ho)
          refine ⟨o, c', _, by omega, mo.2, h1, h2, h3, ?_, fun i j hi => ?_, rfl⟩
          · refine ⟨by rw [List.length_set, R.sq.1], fun m hm => ?_⟩
            rw [set_row _ _ (by rw [R.sq.1]; exact ha)]
            split
            · rw [addF_sub]
              exact subF_len (R.sq.2 _ ha) (R.sq.2 _ mo.2) _
            · exact R.sq.2 m hm
          · show gt (row (N.set s.a _) i) j = _
            rw [set_row _ _ (by rw [R.sq.1]; exact ha)]
            split
            · rw [addF_sub, gt_sub (R.sq.2 _ ha) (R.sq.2 _ mo.2)]
              show gt (row N s.a) j - -1 * gt (row N o) j = gt (row N s.a) j + gt (row N o) j
              omega
            · rfl
        | none =>
          right
          refine ⟨fun r c' h1 h2 h3 h4 => ?_, rfl⟩
          have := List.find?_eq_none.mp ho r (rg_mem.mpr ⟨by omega, h2⟩)
          refine Decidable.byContradiction fun h => this ((odd_iff R.sq h2).mpr ⟨c', h3, h4, h⟩)
  · intro b k hl hv hs h0
    have e0 : en (swC s.a j (swapL [] s.M s.a i)) s.a s.a = en s.M i j := by
      rw [swC_en sq0 ha hj, swap_en sq ha hi]
      congr 1 <;> (unfold sw; split <;> (try split) <;> omega)
    have sE : ∀ r c, Sm k (en (swC s.a j (swapL [] s.M s.a i)) r c) := fun r c => by
      rw [swC_en sq0 ha hj, swap_en sq ha hi]; exact hs _ _
    obtain ⟨s1, e1⟩ := rows_en (p := en (swC s.a j (swapL [] s.M s.a i)) s.a s.a) ha (rg (s.a + 1) n) _ sq1 (rg_nd _ _) rg_ne
    have memB : ∀ v ∈ swapL [] s.B s.a j, VecOk b n v := fun v hv' => by
      obtain ⟨m, hm, e⟩ := List.getElem_of_mem hv'
      have h1 : (swapL [] s.B s.a j)[m]? = some v := by rw [List.getElem?_eq_getElem hm, e]
      rw [swapL_get [] s.B (by rw [hl]; exact ha) (by rw [hl]; exact hj)] at h1
      exact hv v (List.mem_of_getElem? h1)
    obtain ⟨k1, k2⟩ := cols_B (k := k) (p := en (swC s.a j (swapL [] s.M s.a i)) s.a s.a) (by rw [e0]; exact h0) (sE _ _) ha (rg (s.a + 1) n) (rowsF n s.a (en (swC s.a j (swapL [] s.M s.a i)) s.a s.a) (swC s.a j (swapL [] s.M s.a i)), swapL [] s.B s.a j) b s1 (by rw [swapL_len]; exact hl) memB (rg_nd _ _) rg_ne fun c hc => by
      show Sm k (en (rowsF n s.a _ _) s.a c)
      unfold rowsF
      rw [e1, if_neg (fun h => by have := rg_mem.mp h; omega)]
      exact sE _ _
    have el : (rg (s.a + 1) n).length = n - (s.a + 1) := by simp [rg]
    rw [el] at k2
    exact ⟨k1, k2⟩
/-! #### NW -/
/-! ### the last two stages of `matched` end -/
def Fin (n : Nat) (s : St) : Prop := ∃ c s', MRun n c s s' ∧ SqN n s'.M ∧ s'.B.length = n ∧ (∀ v ∈ s'.B, VecOk 130000 n v) ∧ Eles n (s.M, s.B) (s'.M, s'.B) ∧ (∀ i j, i < n → j < n → i ≠ j → en s'.M i j = 0) ∧ ∀ i, i + 1 < n → en s'.M i i ∣ en s'.M (i + 1) (i + 1)
theorem Fin.step {n m i j kk : Nat} {s : St} (ha : s.a < n) (hl : leastP s.M n s.a = some (m, i, j)) (sq : SqN n s.M) (hs : ∀ i j, Sm kk (en s.M i j)) (h6 : 6 ≤ kk) (h170 : kk ≤ 170) (hi : i < n) (hj : j < n) (h0 : en s.M i j ≠ 0) (lB : s.B.length = n) (vB : ∀ v ∈ s.B, VecOk 800000 n v) (h : Fin n (roundF n s i j)) : Fin n s := by
  obtain ⟨c, s', h1, h2, h3, h3', h4, h5⟩ := h
  exact ⟨c + 1, s', .step ha hl sq hs h6 h170 hi hj h0 lB vB h1, h2, h3, h3', (round_eles ha hi hj).trans h4, h5⟩
theorem sw_self (a r : Nat) : sw a a r = r := by unfold sw; split <;> (try split) <;> omega
theorem sm_out {n k : Nat} {M : List (List Int)} (sq : SqN n M) (h : ∀ i j, i < n → j < n → Sm k (en M i j)) (i j : Nat) : Sm k (en M i j) := by
  by_cases hi : i < n
  · by_cases hj : j < n
    · exact h i j hi hj
    · have : en M i j = 0 := gt_ge (by rw [sq.2 i hi]; omega)
      rw [this]; unfold Sm; simp; exact Nat.pow_pos (by omega)
  · rw [en_out (by rw [sq.1]; omega)]; unfold Sm; simp; exact Nat.pow_pos (by omega)
/-- one row and one column left -/
theorem fin1 {n : Nat} {s : St} (sq : SqN n s.M) (ha : s.a + 1 = n) (hz : ∀ i j, i < n → j < n → i ≠ j → en s.M i j = 0) (hc : ∀ i, i + 1 < n → en s.M i i ∣ en s.M (i + 1) (i + 1)) (h0 : en s.M s.a s.a ≠ 0) (hs : ∀ i j, Sm 136 (en s.M i j)) (lB : s.B.length = n) (vB : ∀ v ∈ s.B, VecOk 130000 n v) (n3 : n ≤ 3) : Fin n s := by
  obtain ⟨i, j, hl, i1, i2, j1, j2, ne, _⟩ := least_some (M := s.M) (n := n) (a := s.a) ⟨s.a, s.a, Nat.le_refl _, by omega, Nat.le_refl _, by omega, h0⟩
  obtain rfl : i = s.a := by omega
  obtain rfl : j = s.a := by omega
  refine Fin.step (by omega) hl sq hs (by omega) (by omega) (by omega) (by omega) h0 lB (fun v hv => (vB v hv).mono (by omega)) ?_
  obtain ⟨M1, N, BN, e1, R, hB⟩ := round_spec (s := s) (i := s.a) (j := s.a) sq (by omega) (by omega) (by omega)
  obtain ⟨b1, b2⟩ := hB _ _ lB vB hs h0
  have ez : n - (s.a + 1) = 0 := by omega
  rw [ez, Nat.zero_mul, Nat.add_zero] at b2
  simp only [sw_self] at e1
  have eN : ∀ i j, i < n → j < n → en N i j = en s.M i j := fun i j hi hj => by
    by_cases h : i < s.a
    · rw [R.red.low i j hi h (by omega), e1]
    · obtain rfl : i = s.a := by omega
      by_cases h2 : j < s.a
      · rw [R.red.rl _ j (by omega) (Nat.le_refl _) h2 (by rw [e1]; exact hz _ _ (by omega) (by omega) (by omega)), e1]
      · obtain rfl : j = s.a := by omega
        rw [R.red.aa, e1]
  rcases R.out with ⟨⟨r, h1, h2, _⟩, _⟩ | ⟨_, ⟨o, c, N', h1, h2, _⟩ | ⟨_, e⟩⟩
  · omega
  · omega
  · rw [e]
    refine ⟨0, _, .done (show n ≤ s.a + 1 by omega) R.red.sq, R.red.sq, b1, b2, .refl _, fun i j hi hj ne => ?_, fun i hi => ?_⟩
    · show en N i j = 0
      rw [eN i j hi hj]; exact hz i j hi hj ne
    · show en N i i ∣ en N (i + 1) (i + 1)
      rw [eN i i (by omega) (by omega), eN _ _ hi hi]; exact hc i hi
/-- what stands outside the rows and columns that are left -/
structure Outer (n a : Nat) (M : List (List Int)) : Prop where
  z : ∀ i, i < a → ∀ r, a ≤ r → r < n → en M i r = 0 ∧ en M r i = 0
  d : ∀ i, i < a → dv1 (en M i i) (en M)
  sm : ∀ i, i < a → Sm 100 (en M i i)
def G2 (n a : Nat) (k : Nat) (p v u w : Int) : Prop := ∀ s : St, s.a = a → SqN n s.M → en s.M a a = p → en s.M a (a + 1) = v → en s.M (a + 1) a = u → en s.M (a + 1) (a + 1) = w → Outer n a s.M → s.B.length = n → (∀ v ∈ s.B, VecOk (128000 - 140 * k) n v) → (∃ O T, EI n O T (s.M, s.B)) → Fin n s
theorem g2_step {n a : Nat} (hn : a + 2 = n) (n3 : n ≤ 3) {D X : Int} (D0 : D ≠ 0) (hX : D.natAbs + X.natAbs < 2 ^ 136) (k : Nat) (hk : 140 * (k + 1) ≤ 128000) (p v u w : Int) (o : OkB D X p v u w) (hnext : ∀ p' v' u' w', Nxt p v u w p' v' u' w' → G2 n a k p' v' u' w') : G2 n a (k + 1) p v u w := by
  intro s sa sq ep ev eu ew O lB vB ei
  subst sa
  have a1 : s.a ≤ 1 := by omega
  have hs : ∀ i j, Sm 136 (en s.M i j) := sm_out sq fun i j hi hj => by
    have bp := o.bp
    have bv := o.bv
    have bu := o.bu
    have bw := o.bw
    by_cases h1 : i < s.a
    · by_cases h2 : j < s.a
      · obtain rfl : i = j := by omega
        exact (O.sm i h1).mono (by omega)
      · rw [(O.z i h1 j (by omega) hj).1]; unfold Sm; simp
    · by_cases h2 : j < s.a
      · rw [(O.z j h2 i (by omega) hi).2]; unfold Sm; simp
      · rcases (by omega : i = s.a ∨ i = s.a + 1) with rfl | rfl <;> rcases (by omega : j = s.a ∨ j = s.a + 1) with rfl | rfl
        · rw [ep]; unfold Sm; omega
        · rw [ev]; unfold Sm; omega
        · rw [eu]; unfold Sm; omega
        · rw [ew]; unfold Sm; omega
  have ex0 : ∃ i j, s.a ≤ i ∧ i < n ∧ s.a ≤ j ∧ j < n ∧ en s.M i j ≠ 0 := by
    obtain ⟨t, ht, h0, _⟩ := o.few
    rcases ht with rfl | rfl | rfl | rfl
    · exact ⟨s.a, s.a, by omega, by omega, by omega, by omega, by rw [ep]; exact h0⟩
    · exact ⟨s.a, s.a + 1, by omega, by omega, by omega, by omega, by rw [ev]; exact h0⟩
    · exact ⟨s.a + 1, s.a, by omega, by omega, by omega, by omega, by rw [eu]; exact h0⟩
    · exact ⟨s.a + 1, s.a + 1, by omega, by omega, by omega, by omega, by rw [ew]; exact h0⟩
  obtain ⟨i, j, hl, i1, i2, j1, j2, ne, hmin⟩ := least_some ex0
  refine Fin.step (by omega) hl sq hs (by omega) (by omega) i2 j2 ne lB (fun v hv => (vB v hv).mono (by omega)) ?_
  have EL := round_eles (s := s) (i := i) (j := j) (n := n) (by omega) i2 j2
  obtain ⟨M1, N, BN, e1, R, hB⟩ := round_spec (s := s) (i := i) (j := j) sq (by omega) i2 j2
  obtain ⟨b1, b2⟩ := hB _ _ lB vB hs ne
  have ez : n - (s.a + 1) = 1 := by omega
  rw [ez, Nat.one_mul] at b2
  have b3 : ∀ v ∈ BN, VecOk (128000 - 140 * k) n v := fun v hv => (b2 v hv).mono (by omega)
  obtain ⟨O0, T0, ei⟩ := ei
  have ei' := EL.keep ei
  have dvE : ∀ g, dv1 g (en (roundF n s i j).M) ↔ dv1 g (en s.M) := fun g => (EL.dv ei).1
  -- the corner
  have q1 : en M1 s.a s.a = en s.M i j := by
    rw [e1]; congr 1 <;> (unfold sw; split <;> (try split) <;> omega)
  have qN : en N s.a s.a = en s.M i j := by rw [R.red.aa, q1]
  have xN := R.red.v (s.a + 1) (by omega) (by omega)
  have yN := R.red.u (s.a + 1) (by omega) (by omega)
  have wN := R.red.w (s.a + 1) (s.a + 1) (by omega) (by omega) (by omega) (by omega)
  rw [q1] at xN yN wN
  have rot : Rot p v u w (en s.M i j) (en M1 s.a (s.a + 1)) (en M1 (s.a + 1) s.a) (en M1 (s.a + 1) (s.a + 1)) := by
    rw [e1, e1, e1, ← ep, ← ev, ← eu, ← ew]
    unfold Rot
    have f1 : ∀ {x y : Nat}, x = y → sw s.a x s.a = y := fun h => by subst h; unfold sw; split <;> (try split) <;> omega
    have f2 : sw s.a s.a (s.a + 1) = s.a + 1 := sw_self _ _
    have f3 : sw s.a (s.a + 1) (s.a + 1) = s.a := by unfold sw; split <;> (try split) <;> omega
    rcases (by omega : i = s.a ∨ i = s.a + 1) with h | h <;> rcases (by omega : j = s.a ∨ j = s.a + 1) with h' | h'
    · rw [h, h', f2, sw_self]
      exact .inl ⟨rfl, rfl, rfl, rfl⟩
    · rw [h, h', f2, sw_self, f3, f1 rfl]
      exact .inr (.inl ⟨rfl, rfl, rfl, rfl⟩)
    · rw [h, h', f2, sw_self, f3, f1 rfl]
      exact .inr (.inr (.inl ⟨rfl, rfl, rfl, rfl⟩))
    · rw [h, h', f3, f1 rfl]
      exact .inr (.inr (.inr ⟨rfl, rfl, rfl, rfl⟩))
  have swr : ∀ x r, s.a ≤ x → x < n → s.a ≤ r → r < n → s.a ≤ sw s.a x r ∧ sw s.a x r < n := fun x r h1 h2 h3 h4 => by unfold sw; split <;> (try split) <;> omega
  have least : ∀ r c, s.a ≤ r → r < n → s.a ≤ c → c < n → en M1 r c ≠ 0 → (en s.M i j).natAbs ≤ (en M1 r c).natAbs := fun r c h1 h2 h3 h4 h5 => by
    rw [e1] at h5 ⊢
    obtain ⟨g1, g2⟩ := swr i r i1 i2 h1 h2
    obtain ⟨g3, g4⟩ := swr j c j1 j2 h3 h4
    exact hmin _ _ g1 g2 g3 g4 h5
  have lx := least s.a (s.a + 1) (by omega) (by omega) (by omega) (by omega)
  have ly := least (s.a + 1) s.a (by omega) (by omega) (by omega) (by omega)
  have lz := least (s.a + 1) (s.a + 1) (by omega) (by omega) (by omega) (by omega)
  have dt : en s.M i j * en N (s.a + 1) (s.a + 1) - en N s.a (s.a + 1) * en N (s.a + 1) s.a = en s.M i j * en M1 (s.a + 1) (s.a + 1) - en M1 s.a (s.a + 1) * en M1 (s.a + 1) s.a := by
    rw [Int.mul_comm (en N s.a (s.a + 1)), Int.mul_comm (en M1 s.a (s.a + 1))]; exact wN
  -- outside
  have m1low : ∀ i', i' < s.a → ∀ r, s.a ≤ r → r < n → en M1 i' r = 0 ∧ en M1 r i' = 0 := fun i' h r h1 h2 => by
    have f : ∀ x, s.a ≤ x → sw s.a x i' = i' := fun x hx => by unfold sw; split <;> (try split) <;> omega
    obtain ⟨g1, g2⟩ := swr i r i1 i2 h1 h2
    obtain ⟨g3, g4⟩ := swr j r j1 j2 h1 h2
    rw [e1, e1, f i i1, f j j1]
    exact ⟨(O.z i' h _ g3 g4).1, (O.z i' h _ g1 g2).2⟩
  have nz : ∀ i', i' < s.a → ∀ r, s.a ≤ r → r < n → en N i' r = 0 ∧ en N r i' = 0 := fun i' h r h1 h2 => by
    refine ⟨?_, ?_⟩
    · by_cases h3 : r = s.a
      · rw [R.red.low i' r (by omega) h (by omega)]; exact (m1low i' h r h1 h2).1
      · rw [R.lowz i' r h (by omega) h2 (m1low i' h s.a (by omega) (by omega)).1]; exact (m1low i' h r h1 h2).1
    · rw [R.red.rl r i' h2 h1 h (m1low i' h s.a (by omega) (by omega)).2]; exact (m1low i' h r h1 h2).2
  have nd : ∀ i', i' < s.a → en N i' i' = en s.M i' i' := fun i' h => by
    have f : ∀ x, s.a ≤ x → sw s.a x i' = i' := fun x hx => by unfold sw; split <;> (try split) <;> omega
    rw [R.red.low i' i' (by omega) h (by omega), e1, f i i1, f j j1]
  rcases R.out with ⟨⟨r, h1, h2, hr⟩, e⟩ | ⟨hz, ⟨o', c, N', h1, h2, h3, h4, hd, sq', eN', e⟩ | ⟨hd, e⟩⟩
  · obtain rfl : r = s.a + 1 := by omega
    rw [e] at ei' dvE ⊢
    refine hnext _ _ _ _ ⟨_, _, _, _, _, _, _, rot, ne, lx, ly, lz, xN, yN, dt, .inl ⟨fun h => ?_, rfl, rfl, rfl, rfl⟩⟩ _ rfl R.red.sq qN rfl rfl rfl ⟨nz, fun i' h => ?_, fun i' h => ?_⟩ b1 b3 ⟨_, _, ei'⟩
    · rcases hr with hr | hr
      · exact hr h.2
      · exact hr h.1
    · show dv1 (en N i' i') (en N)
      rw [nd i' h]; exact (dvE _).mpr (O.d i' h)
    · show Sm 100 (en N i' i')
      rw [nd i' h]; exact O.sm i' h
  · obtain rfl : o' = s.a + 1 := by omega
    obtain rfl : c = s.a + 1 := by omega
    obtain ⟨z1, z2⟩ := hz (s.a + 1) (by omega) (by omega)
    rw [e] at ei' dvE ⊢
    rw [qN] at hd
    have n1 : en N' s.a s.a = en s.M i j := by rw [eN' _ _ (by omega), if_pos rfl, z1, qN]; omega
    have n2 : en N' s.a (s.a + 1) = en N (s.a + 1) (s.a + 1) := by rw [eN' _ _ (by omega), if_pos rfl, z2]; omega
    have n3' : en N' (s.a + 1) s.a = 0 := by rw [eN' _ _ (by omega), if_neg (by omega), z1]
    have n4 : en N' (s.a + 1) (s.a + 1) = en N (s.a + 1) (s.a + 1) := by rw [eN' _ _ (by omega), if_neg (by omega)]
    have dg : ∀ i', i' < s.a → en N' i' i' = en s.M i' i' := fun i' h => by rw [eN' _ _ (by omega), if_neg (by omega), nd i' h]
    refine hnext _ _ _ _ ⟨_, _, _, _, _, _, _, rot, ne, lx, ly, lz, xN, yN, dt, .inr ⟨z2, z1, hd, rfl, rfl, rfl, rfl⟩⟩ _ rfl sq' n1 n2 n3' n4 ⟨fun i' h r g1 g2 => ?_, fun i' h => ?_, fun i' h => ?_⟩ b1 b3 ⟨_, _, ei'⟩
    · show en N' i' r = 0 ∧ en N' r i' = 0
      rw [eN' i' r (by omega), if_neg (by omega), eN' r i' g2]
      refine ⟨(nz i' h r g1 g2).1, ?_⟩
      split
      · rw [(nz i' h _ (Nat.le_refl _) (by omega)).2, (nz i' h (s.a + 1) (by omega) (by omega)).2]; rfl
      · exact (nz i' h r g1 g2).2
    · show dv1 (en N' i' i') (en N')
      rw [dg i' h]; exact (dvE _).mpr (O.d i' h)
    · show Sm 100 (en N' i' i')
      rw [dg i' h]; exact O.sm i' h
  · obtain ⟨z1, z2⟩ := hz (s.a + 1) (by omega) (by omega)
    have hd := hd (s.a + 1) (s.a + 1) (by omega) (by omega) (by omega) (by omega)
    rw [e] at ei' dvE ⊢
    have dtr := rot_det rot o.det
    rw [← dt, z1, z2] at dtr
    have bw := quot_bound (D := D) ne (x := 0) (y := 0) (by simpa using dtr) (by simp) (by simp)
    have lq : (en s.M i j).natAbs < 2 ^ 136 := hs i j
    have lq2 : (en s.M i j).natAbs ≤ X.natAbs := by
      obtain ⟨t, ht, h0, hX'⟩ := o.few
      refine Nat.le_trans ?_ hX'
      rcases ht with rfl | rfl | rfl | rfl
      · rw [← ep]; exact hmin _ _ (by omega) (by omega) (by omega) (by omega) (by rw [ep]; exact h0)
      · rw [← ev]; exact hmin _ _ (by omega) (by omega) (by omega) (by omega) (by rw [ev]; exact h0)
      · rw [← eu]; exact hmin _ _ (by omega) (by omega) (by omega) (by omega) (by rw [eu]; exact h0)
      · rw [← ew]; exact hmin _ _ (by omega) (by omega) (by omega) (by omega) (by rw [ew]; exact h0)
    have offz : ∀ x y, x < n → y < n → x ≠ y → en N x y = 0 := fun x y hx hy hne => by
      by_cases h1 : x < s.a
      · exact (nz x h1 y (by omega) hy).1
      · by_cases h2 : y < s.a
        · exact (nz y h2 x (by omega) hx).2
        · rcases (by omega : x = s.a ∧ y = s.a + 1 ∨ x = s.a + 1 ∧ y = s.a) with ⟨rfl, rfl⟩ | ⟨rfl, rfl⟩
          · exact z2
          · exact z1
    have w0 : en N (s.a + 1) (s.a + 1) ≠ 0 := fun h => by
      rw [h] at dtr
      simp at dtr
      omega
    refine fin1 R.red.sq (show s.a + 1 + 1 = n by omega) offz (fun x hx => ?_) w0 (sm_out R.red.sq fun x y hx hy => ?_) b1 (fun v hv => (b3 v hv).mono (by omega)) n3
    · show en N x x ∣ en N (x + 1) (x + 1)
      by_cases h1 : x < s.a
      · have := (dvE (en s.M x x)).mpr (O.d x h1)
        rw [nd x h1]
        exact this _ _
      · obtain rfl : x = s.a := by omega
        exact hd
    · show Sm 136 (en N x y)
      by_cases hxy : x = y
      · subst hxy
        by_cases h1 : x < s.a
        · rw [nd x h1]; exact (O.sm x h1).mono (by omega)
        · rcases (by omega : x = s.a ∨ x = s.a + 1) with rfl | rfl
          · rw [qN]; exact lq
          · unfold Sm; omega
      · rw [offz x y hx hy hxy]; unfold Sm; simp
/-- two rows and two columns left -/
theorem fin2 {n : Nat} {s : St} (hn : s.a + 2 = n) (n3 : n ≤ 3) (sq : SqN n s.M) (O : Outer n s.a s.M) (hD : en s.M s.a s.a * en s.M (s.a + 1) (s.a + 1) - en s.M s.a (s.a + 1) * en s.M (s.a + 1) s.a ≠ 0) (hD2 : (en s.M s.a s.a * en s.M (s.a + 1) (s.a + 1) - en s.M s.a (s.a + 1) * en s.M (s.a + 1) s.a).natAbs ≤ 2 ^ 133)
    (hb : ∀ i j, s.a ≤ i → i < n → s.a ≤ j → j < n → (en s.M i j).natAbs ≤ 2 ^ 133) (lB : s.B.length = n) (vB : ∀ v ∈ s.B, VecOk 30000 n v) (ei : ∃ O T, EI n O T (s.M, s.B)) : Fin n s := by
  generalize hd : en s.M s.a s.a * en s.M (s.a + 1) (s.a + 1) - en s.M s.a (s.a + 1) * en s.M (s.a + 1) s.a = D at hD hD2
  have b1 := hb s.a s.a (by omega) (by omega) (by omega) (by omega)
  have b2 := hb s.a (s.a + 1) (by omega) (by omega) (by omega) (by omega)
  have b3 := hb (s.a + 1) s.a (by omega) (by omega) (by omega) (by omega)
  have b4 := hb (s.a + 1) (s.a + 1) (by omega) (by omega) (by omega) (by omega)
  have ex : ∃ t, (t = en s.M s.a s.a ∨ t = en s.M s.a (s.a + 1) ∨ t = en s.M (s.a + 1) s.a ∨ t = en s.M (s.a + 1) (s.a + 1)) ∧ t ≠ 0 ∧ t.natAbs ≤ 2 ^ 133 := by
    by_cases h1 : en s.M s.a s.a = 0
    · by_cases h2 : en s.M s.a (s.a + 1) = 0
      · exact absurd (by rw [← hd, h1, h2]; simp) hD
      · exact ⟨_, .inr (.inl rfl), h2, b2⟩
    · exact ⟨_, .inl rfl, h1, b1⟩
  have o : OkB D (2 ^ 133) (en s.M s.a s.a) (en s.M s.a (s.a + 1)) (en s.M (s.a + 1) s.a) (en s.M (s.a + 1) (s.a + 1)) := ⟨.inl hd, by omega, by omega, by omega, by omega, by
    obtain ⟨t, h1, h2, h3⟩ := ex
    exact ⟨t, h1, h2, by omega⟩⟩
  -- with a budget of 675 rounds
  have key := hv_end (G := fun k p v u w => k ≤ 675 → G2 n s.a k p v u w) (D := D) (X := 2 ^ 133) (fun k p v u w o h hk => g2_step hn n3 hD (by omega) k (by omega) p v u w o fun p' v' u' w' nx => h p' v' u' w' nx (by omega)) 134 670 _ _ _ _ o (by
    obtain ⟨t, h1, h2, h3⟩ := ex
    exact ⟨t, h1, h2, by omega⟩) (by omega) (by omega)
  exact key s rfl sq rfl rfl rfl rfl O lB (fun v hv => (vB v hv).mono (by omega)) ei
/-! #### NT -/
/-! ### the order of a vector, as the least multiple; products of tables (k11) -/
theorem det_mixM {n : Nat} {W T : List (List Int)} (hW : Sqr n W) (hT : Sqr n T) : detL (W.map fun r => mixV r T) = detL W * detL T := by
  rcases hT.cases with ⟨rfl, a, rfl⟩ | ⟨rfl, a, b, c, d, rfl⟩ | ⟨rfl, a, b, c, d, e, f, g, h, i, rfl⟩
  · rcases hW.cases with ⟨_, x, rfl⟩ | ⟨z, _⟩ | ⟨z, _⟩
    · simp [mixV1, detL]
    · omega
    · omega
  · rcases hW.cases with ⟨z, _⟩ | ⟨_, x, y, u, v, rfl⟩ | ⟨z, _⟩
    · omega
    · simp only [List.map_cons, List.map_nil, mixV2]
      exact det_mul2 ..
    · omega
  · rcases hW.cases with ⟨z, _⟩ | ⟨z, _⟩ | ⟨_, x1, x2, x3, y1, y2, y3, z1, z2, z3, rfl⟩
    · omega
    · omega
    · simp only [List.map_cons, List.map_nil, mixV3]
      exact det_mul3 ..
/-! the order -/
def nP (d t : Int) : Nat := d.natAbs / Int.gcd t d
/-! #### NX -/
/-! ### the first stage of `matched` in three dimensions ends -/
def mn (E : Nat → Nat → Int) (i j c d : Nat) : Int := E i c * E j d - E i d * E j c
def det3 (E : Nat → Nat → Int) : Int := E 0 0 * (E 1 1 * E 2 2 - E 1 2 * E 2 1) - E 0 1 * (E 1 0 * E 2 2 - E 1 2 * E 2 0) + E 0 2 * (E 1 0 * E 2 1 - E 1 1 * E 2 0)
theorem detL_en {M : List (List Int)} (h : Sqr 3 M) : detL M = det3 (en M) := by
  rcases h.cases with ⟨z, _⟩ | ⟨z, _⟩ | ⟨_, a, b, c, d, e, f, g, k, i, rfl⟩
  · omega
  · omega
  · simp [det3, en, row, gt, detL]
theorem detL_en2 {M : List (List Int)} (h : Sqr 2 M) : detL M = en M 0 0 * en M 1 1 - en M 0 1 * en M 1 0 := by
  rcases h.cases with ⟨z, _⟩ | ⟨_, a, b, c, d, rfl⟩ | ⟨z, _⟩
  · omega
  · simp [en, row, gt, detL]
  · omega
theorem detL_en1 {M : List (List Int)} (h : Sqr 1 M) : detL M = en M 0 0 := by
  rcases h.cases with ⟨_, a, rfl⟩ | ⟨z, _⟩ | ⟨z, _⟩
  · simp [en, row, gt, detL]
  · omega
  · omega
theorem mb_sqr {n : Nat} {s : List (List Int) × List (List Int)} (hm : Sqr n s.1) (hb : Sqr n s.2) : Sqr n (mb s) := ⟨hm.1, hm.2.1, by simp [mb, hm.2.2.1], mb_len hb⟩
theorem EI.det {n : Nat} {O T : List (List Int)} {s : List (List Int) × List (List Int)} (h : EI n O T s) (hO : Sqr n O) (hT : Sqr n T) (dT : detL T ≠ 0) : (detL s.1).natAbs * (detL T).natAbs = (detL O).natAbs := by
  have h1 := det_same (mb_sqr h.m h.b) hO h.o
  have h2 := det_same h.b hT h.t
  have h3 : detL (mb s) = detL s.1 * detL s.2 := det_mixM h.m h.b
  rw [h3, Int.natAbs_mul] at h1
  first
    | rw [h1, ← h2]
    | rw [← h1, h2]
    | rw [← h2, h1]
    | (rw [h2]; exact h1.symm)
    | (rw [← h2]; exact h1)
theorem det_const {n : Nat} {O T : List (List Int)} {s s' : List (List Int) × List (List Int)} (h : EI n O T s) (h' : EI n O T s') (hO : Sqr n O) (hT : Sqr n T) (dT : detL T ≠ 0) : (detL s'.1).natAbs = (detL s.1).natAbs := by
  have a := h.det hO hT dT
  have b := h'.det hO hT dT
  exact Nat.eq_of_mul_eq_mul_right (by omega) (b.trans a.symm)
theorem mn_all {E : Nat → Nat → Int} {Q : Nat} (h : ∀ i j c d, i < j → j < 3 → c < d → d < 3 → (mn E i j c d).natAbs ≤ Q) : ∀ i j c d, i < 3 → j < 3 → c < 3 → d < 3 → (mn E i j c d).natAbs ≤ Q := by
  have s1 : ∀ i j c d, mn E j i c d = -mn E i j c d := fun i j c d => by unfold mn; grind
  have s2 : ∀ i j c d, mn E i j d c = -mn E i j c d := fun i j c d => by unfold mn; grind
  have z1 : ∀ i c d, mn E i i c d = 0 := fun i c d => by unfold mn; grind
  have z2 : ∀ i j c, mn E i j c c = 0 := fun i j c => by unfold mn; grind
  intro i j c d hi hj hc hd
  rcases Nat.lt_trichotomy i j with h1 | h1 | h1
  · rcases Nat.lt_trichotomy c d with h2 | h2 | h2
    · exact h i j c d h1 hj h2 hd
    · rw [h2, z2]; simp
    · rw [s2, Int.natAbs_neg]; exact h i j d c h1 hj h2 hc
  · rw [h1, z1]; simp
  · rcases Nat.lt_trichotomy c d with h2 | h2 | h2
    · rw [s1, Int.natAbs_neg]; exact h j i c d h1 hi h2 hd
    · rw [h2, z2]; simp
    · rw [s1, s2, Int.natAbs_neg, Int.natAbs_neg]; exact h j i d c h1 hi h2 hc
/-- a quotient is no greater -/
theorem le_quot {q X : Int} {K : Nat} (hq : q ≠ 0) (h : (q * X).natAbs ≤ q.natAbs * K) : X.natAbs ≤ K := by
  rw [Int.natAbs_mul] at h
  exact Nat.le_of_mul_le_mul_left h (by omega)
theorem ab2 {q v1 v2 A B : Int} {Q : Nat} (h1 : v1.natAbs ≤ q.natAbs) (h2 : v2.natAbs ≤ q.natAbs) (hA : A.natAbs ≤ Q) (hB : B.natAbs ≤ Q) : (v1 * A - v2 * B).natAbs ≤ q.natAbs * (2 * Q) := by
  have e1 : (v1 * A).natAbs ≤ q.natAbs * Q := by rw [Int.natAbs_mul]; exact Nat.mul_le_mul h1 hA
  have e2 : (v2 * B).natAbs ≤ q.natAbs * Q := by rw [Int.natAbs_mul]; exact Nat.mul_le_mul h2 hB
  have : q.natAbs * (2 * Q) = q.natAbs * Q + q.natAbs * Q := by rw [Nat.mul_left_comm]; omega
  omega
theorem mi_after {q v1 v2 u1 u2 w11 w12 w21 w22 : Int} {Q : Nat} (hq : q ≠ 0) (b1 : v1.natAbs ≤ q.natAbs) (b2 : v2.natAbs ≤ q.natAbs) (c1 : u1.natAbs ≤ q.natAbs) (c2 : u2.natAbs ≤ q.natAbs) (m11 : (q * w11 - u1 * v1).natAbs ≤ Q) (m12 : (q * w12 - u1 * v2).natAbs ≤ Q) (m21 : (q * w21 - u2 * v1).natAbs ≤ Q) (m22 : (q * w22 - u2 * v2).natAbs ≤ Q)
    (hd : (q * (w11 * w22 - w12 * w21) - v1 * (u1 * w22 - w12 * u2) + v2 * (u1 * w21 - w11 * u2)).natAbs ≤ Q) :
    (v1 * w12 - v2 * w11).natAbs ≤ 2 * Q ∧ (v1 * w22 - v2 * w21).natAbs ≤ 2 * Q ∧ (u1 * w21 - w11 * u2).natAbs ≤ 2 * Q ∧ (u1 * w22 - w12 * u2).natAbs ≤ 2 * Q ∧ (w11 * w22 - w12 * w21).natAbs ≤ 5 * Q := by
  have r1 : (v1 * w12 - v2 * w11).natAbs ≤ 2 * Q := le_quot hq (by
    have : q * (v1 * w12 - v2 * w11) = v1 * (q * w12 - u1 * v2) - v2 * (q * w11 - u1 * v1) := by grind
    rw [this]; exact ab2 b1 b2 m12 m11)
  have r2 : (v1 * w22 - v2 * w21).natAbs ≤ 2 * Q := le_quot hq (by
    have : q * (v1 * w22 - v2 * w21) = v1 * (q * w22 - u2 * v2) - v2 * (q * w21 - u2 * v1) := by grind
    rw [this]; exact ab2 b1 b2 m22 m21)
  have r3 : (u1 * w21 - w11 * u2).natAbs ≤ 2 * Q := le_quot hq (by
    have : q * (u1 * w21 - w11 * u2) = u1 * (q * w21 - u2 * v1) - u2 * (q * w11 - u1 * v1) := by grind
    rw [this]; exact ab2 c1 c2 m21 m11)
  have r4 : (u1 * w22 - w12 * u2).natAbs ≤ 2 * Q := le_quot hq (by
    have : q * (u1 * w22 - w12 * u2) = u1 * (q * w22 - u2 * v2) - u2 * (q * w12 - u1 * v2) := by grind
    rw [this]; exact ab2 c1 c2 m22 m12)
  refine ⟨r1, r2, r3, r4, le_quot hq ?_⟩
  have e := ab2 b1 b2 r4 r3
  have e2 : q.natAbs * (5 * Q) = q.natAbs * Q + q.natAbs * (2 * (2 * Q)) := by rw [← Nat.mul_add]; congr 1; omega
  have e3 : Q ≤ q.natAbs * Q := Nat.le_mul_of_pos_left _ (by omega)
  rw [e2]
  omega
theorem w_bound {q w u v : Int} {Q : Nat} (hq : q ≠ 0) (hu : u.natAbs ≤ q.natAbs) (hv : v.natAbs ≤ q.natAbs) (m : (q * w - u * v).natAbs ≤ Q) : w.natAbs ≤ Q + q.natAbs := le_quot hq (by
  have e1 : (u * v).natAbs ≤ q.natAbs * q.natAbs := by rw [Int.natAbs_mul]; exact Nat.mul_le_mul hu hv
  have e3 : Q ≤ q.natAbs * Q := Nat.le_mul_of_pos_left _ (by omega)
  rw [Nat.mul_add]
  omega)
theorem rdm_le {q x : Int} (h : Rdm q x) : x.natAbs ≤ q.natAbs := by unfold Rdm at h; omega
structure T3 (Q : Nat) (s : St) : Prop where
  a0 : s.a = 0
  sq : SqN 3 s.M
  mi : ∀ i j c d, i < 3 → j < 3 → c < 3 → d < 3 → (mn (en s.M) i j c d).natAbs ≤ Q
  bd : ∀ i j, i < 3 → j < 3 → (en s.M i j).natAbs ≤ Q + 24
theorem n3_bounds {M1 N : List (List Int)} {Q : Nat} (R : RedE 3 0 M1 N) (q0 : en M1 0 0 ≠ 0) (q24 : (en M1 0 0).natAbs ≤ 24) (mi : ∀ i j c d, i < 3 → j < 3 → c < 3 → d < 3 → (mn (en M1) i j c d).natAbs ≤ Q) (hd : (det3 (en N)).natAbs ≤ Q) :
    (∀ i j c d, i < 3 → j < 3 → c < 3 → d < 3 → (mn (en N) i j c d).natAbs ≤ 5 * Q) ∧ ∀ i j, i < 3 → j < 3 → (en N i j).natAbs ≤ Q + 24 := by
  have qa := R.aa
  have v : ∀ c, 0 < c → c < 3 → (en N 0 c).natAbs ≤ (en M1 0 0).natAbs := fun c h1 h2 => by rw [R.v c h1 h2]; exact rdm_le (fm_red _ q0).1
  have u : ∀ r, 0 < r → r < 3 → (en N r 0).natAbs ≤ (en M1 0 0).natAbs := fun r h1 h2 => by rw [R.u r h1 h2]; exact rdm_le (fm_red _ q0).1
  have m : ∀ r c, 0 < r → r < 3 → 0 < c → c < 3 → (en M1 0 0 * en N r c - en N r 0 * en N 0 c).natAbs ≤ Q := fun r c h1 h2 h3 h4 => by
    rw [R.w r c h1 h2 h3 h4]
    have := mi 0 r 0 c (by omega) h2 (by omega) h4
    unfold mn at this
    rw [Int.mul_comm (en M1 r 0)]
    exact this
  have k := mi_after q0 (v 1 (by omega) (by omega)) (v 2 (by omega) (by omega)) (u 1 (by omega) (by omega)) (u 2 (by omega) (by omega)) (m 1 1 (by omega) (by omega) (by omega) (by omega)) (m 1 2 (by omega) (by omega) (by omega) (by omega)) (m 2 1 (by omega) (by omega) (by omega) (by omega)) (m 2 2 (by omega) (by omega) (by omega) (by omega)) (by
    unfold det3 at hd
    rw [qa] at hd
    exact hd)
  obtain ⟨k1, k2, k3, k4, k5⟩ := k
  constructor
  · refine mn_all fun i j c d h1 h2 h3 h4 => ?_
    rcases (by omega : i = 0 ∧ j = 1 ∨ i = 0 ∧ j = 2 ∨ i = 1 ∧ j = 2) with ⟨rfl, rfl⟩ | ⟨rfl, rfl⟩ | ⟨rfl, rfl⟩ <;> rcases (by omega : c = 0 ∧ d = 1 ∨ c = 0 ∧ d = 2 ∨ c = 1 ∧ d = 2) with ⟨rfl, rfl⟩ | ⟨rfl, rfl⟩ | ⟨rfl, rfl⟩ <;> unfold mn
    · have := m 1 1 (by omega) (by omega) (by omega) (by omega)
      rw [qa, Int.mul_comm (en N 0 1)]; omega
    · have := m 1 2 (by omega) (by omega) (by omega) (by omega)
      rw [qa, Int.mul_comm (en N 0 2)]; omega
    · omega
    · have := m 2 1 (by omega) (by omega) (by omega) (by omega)
      rw [qa, Int.mul_comm (en N 0 1)]; omega
    · have := m 2 2 (by omega) (by omega) (by omega) (by omega)
      rw [qa, Int.mul_comm (en N 0 2)]; omega
    · omega
    · omega
    · omega
    · omega
  · intro i j hi hj
    rcases (by omega : i = 0 ∨ 0 < i) with rfl | hi'
    · rcases (by omega : j = 0 ∨ 0 < j) with rfl | hj'
      · rw [qa]; omega
      · have := v j hj' hj; omega
    · rcases (by omega : j = 0 ∨ 0 < j) with rfl | hj'
      · have := u i hi' hi; omega
      · have := w_bound q0 (u i hi' hi) (v j hj' hj) (m i j hi' hi hj' hj)
        omega
/-- the same where the pivot's row and column are clean -/
theorem n3_clean {M1 N : List (List Int)} {Q : Nat} (R : RedE 3 0 M1 N) (q0 : en M1 0 0 ≠ 0) (mi : ∀ i j c d, i < 3 → j < 3 → c < 3 → d < 3 → (mn (en M1) i j c d).natAbs ≤ Q) (hd : (det3 (en N)).natAbs ≤ Q) (hz : ∀ r, 0 < r → r < 3 → en N r 0 = 0 ∧ en N 0 r = 0) :
    (∀ i j c d, i < 3 → j < 3 → c < 3 → d < 3 → (mn (en N) i j c d).natAbs ≤ Q) ∧ (∀ r c, 0 < r → r < 3 → 0 < c → c < 3 → (en N r c).natAbs ≤ Q) ∧ det3 (en N) = en M1 0 0 * (en N 1 1 * en N 2 2 - en N 1 2 * en N 2 1) := by
  have qa := R.aa
  obtain ⟨a1, b1⟩ := hz 1 (by omega) (by omega)
  obtain ⟨a2, b2⟩ := hz 2 (by omega) (by omega)
  have m : ∀ r c, 0 < r → r < 3 → 0 < c → c < 3 → (en M1 0 0 * en N r c).natAbs ≤ Q := fun r c h1 h2 h3 h4 => by
    have e := R.w r c h1 h2 h3 h4
    rw [(hz r h1 h2).1] at e
    have := mi 0 r 0 c (by omega) h2 (by omega) h4
    unfold mn at this
    rw [Int.mul_comm (en M1 r 0)] at e
    rw [← e] at this
    simpa using this
  have ed : det3 (en N) = en M1 0 0 * (en N 1 1 * en N 2 2 - en N 1 2 * en N 2 1) := by
    unfold det3
    rw [b1, b2, qa]; simp
  have mq : ∀ r c, 0 < r → r < 3 → 0 < c → c < 3 → (en N r c).natAbs ≤ Q := fun r c h1 h2 h3 h4 => by
    have := m r c h1 h2 h3 h4
    rw [Int.natAbs_mul] at this
    exact Nat.le_trans (Nat.le_mul_of_pos_left _ (by omega)) this
  refine ⟨mn_all fun i j c d h1 h2 h3 h4 => ?_, mq, ed⟩
  rcases (by omega : i = 0 ∧ j = 1 ∨ i = 0 ∧ j = 2 ∨ i = 1 ∧ j = 2) with ⟨rfl, rfl⟩ | ⟨rfl, rfl⟩ | ⟨rfl, rfl⟩ <;> rcases (by omega : c = 0 ∧ d = 1 ∨ c = 0 ∧ d = 2 ∨ c = 1 ∧ d = 2) with ⟨rfl, rfl⟩ | ⟨rfl, rfl⟩ | ⟨rfl, rfl⟩ <;> unfold mn
  · rw [qa, b1]; simpa using m 1 1 (by omega) (by omega) (by omega) (by omega)
  · rw [qa, b2]; simpa using m 1 2 (by omega) (by omega) (by omega) (by omega)
  · rw [b1, b2]; simp
  · rw [qa, b1]; simpa using m 2 1 (by omega) (by omega) (by omega) (by omega)
  · rw [qa, b2]; simpa using m 2 2 (by omega) (by omega) (by omega) (by omega)
  · rw [b1, b2]; simp
  · rw [a1, a2]; simp
  · rw [a1, a2]; simp
  · rw [ed, Int.natAbs_mul] at hd
    exact Nat.le_trans (Nat.le_mul_of_pos_left _ (by omega)) hd
section
variable {O T : List (List Int)} (hO : Sqr 3 O) (hT : Sqr 3 T) (dT : detL T ≠ 0)
include hO hT dT
theorem t3_core {Q b mm i j : Nat} {s : St} (k : T3 Q s) (hQ : 5 * Q + 24 ≤ 2 ^ 132) (hD : (detL s.M).natAbs ≤ Q) (dne : detL s.M ≠ 0) (ei : EI 3 O T (s.M, s.B)) (lB : s.B.length = 3) (vB : ∀ v ∈ s.B, VecOk b 3 v) (hb : b + 280 ≤ 29000)
    (hl : leastP s.M 3 s.a = some (mm, i, j)) (hi : i < 3) (hj : j < 3) (ne : en s.M i j ≠ 0) (q24 : (en s.M i j).natAbs ≤ 24)
    (hA : ∀ s', T3 (5 * Q) s' → (detL s'.M).natAbs = (detL s.M).natAbs → EI 3 O T (s'.M, s'.B) → s'.B.length = 3 → (∀ v ∈ s'.B, VecOk (b + 280) 3 v) → (∃ i' j', i' < 3 ∧ j' < 3 ∧ en s'.M i' j' ≠ 0 ∧ (en s'.M i' j').natAbs < (en s.M i j).natAbs) → Fin 3 s')
    (hB : ∀ s', T3 (5 * Q) s' → (detL s'.M).natAbs = (detL s.M).natAbs → EI 3 O T (s'.M, s'.B) → s'.B.length = 3 → (∀ v ∈ s'.B, VecOk (b + 280) 3 v) → en s'.M 0 0 = en s.M i j → (∃ c, 0 < c ∧ c < 3 ∧ ¬ en s'.M 0 0 ∣ en s'.M 0 c) → (∀ c, 0 < c → c < 3 → en s.M i j ∣ en s.M (sw 0 i 0) (sw 0 j c)) → Fin 3 s') : Fin 3 s := by
  have sa := k.a0
  have hs : ∀ i j, Sm 136 (en s.M i j) := sm_out k.sq fun i j hi hj => by
    have := k.bd i j hi hj
    unfold Sm; omega
  refine Fin.step (by omega) hl k.sq hs (by omega) (by omega) hi hj ne lB (fun v hv => (vB v hv).mono (by omega)) ?_
  have EL := round_eles (s := s) (i := i) (j := j) (n := 3) (by omega) hi hj
  obtain ⟨M1, N, BN, e1, R, hBB⟩ := round_spec (s := s) (i := i) (j := j) k.sq (by omega) hi hj
  obtain ⟨b1, b2⟩ := hBB _ _ lB vB hs ne
  have b3 : ∀ v ∈ BN, VecOk (b + 280) 3 v := fun v hv => (b2 v hv).mono (by omega)
  have ei' := EL.keep ei
  have dvE : ∀ g, dv1 g (en (roundF 3 s i j).M) ↔ dv1 g (en s.M) := fun g => (EL.dv ei).1
  have dc := det_const ei ei' hO hT dT
  rw [sa] at R e1
  have q1 : en M1 0 0 = en s.M i j := by
    rw [e1]; congr 1 <;> (unfold sw; split <;> (try split) <;> omega)
  have swr : ∀ x r, x < 3 → r < 3 → sw 0 x r < 3 := fun x r h1 h2 => by unfold sw; split <;> (try split) <;> omega
  have mi1 : ∀ i j c d, i < 3 → j < 3 → c < 3 → d < 3 → (mn (en M1) i j c d).natAbs ≤ Q := fun i' j' c d h1 h2 h3 h4 => by
    unfold mn
    rw [e1, e1, e1, e1]
    exact k.mi _ _ _ _ (swr _ _ hi h1) (swr _ _ hi h2) (swr _ _ hj h3) (swr _ _ hj h4)
  have q0 : en M1 0 0 ≠ 0 := by rw [q1]; exact ne
  have qN : en N 0 0 = en s.M i j := by rw [R.red.aa, q1]
  rcases R.out with ⟨⟨r, h1, h2, hr⟩, e⟩ | ⟨hz, ⟨o', c, N', h1, h2, h3, h4, hd, sq', eN', e⟩ | ⟨hd, e⟩⟩
  · rw [e] at ei' dc ⊢
    have sN : Sqr 3 N := ei'.m
    have eD := detL_en sN
    have dc' : (detL N).natAbs = (detL s.M).natAbs := dc
    obtain ⟨m1, m2⟩ := n3_bounds R.red q0 (by rw [q1]; exact q24) mi1 (by rw [← eD]; omega)
    refine hA ⟨0, N, BN⟩ ⟨rfl, R.red.sq, m1, fun i j hi hj => by have := m2 i j hi hj; show (en N i j).natAbs ≤ _; omega⟩ dc' ei' b1 b3 ?_
    rcases hr with hr | hr
    · refine ⟨r, 0, h2, by omega, hr, ?_⟩
      show (en N r 0).natAbs < _
      rw [← q1]
      have := red_lt (fm_red (en M1 r 0) q0).1
      rw [← R.red.u r h1 h2] at this
      exact this hr
    · refine ⟨0, r, by omega, h2, hr, ?_⟩
      show (en N 0 r).natAbs < _
      rw [← q1]
      have := red_lt (fm_red (en M1 0 r) q0).1
      rw [← R.red.v r h1 h2] at this
      exact this hr
  · rw [e] at ei' dc ⊢
    -- the determinant of N itself
    have dv : ∀ c, 0 < c → c < 3 → en s.M i j ∣ en s.M (sw 0 i 0) (sw 0 j c) := fun c h1 h2 => by
      have z := (hz c h1 h2).2
      rw [R.red.v c h1 h2] at z
      rw [← e1, ← q1]
      exact Int.dvd_of_fmod_eq_zero z
    have dN : det3 (en N') = det3 (en N) := by
      unfold det3
      rw [eN' 0 0 (by omega), eN' 0 1 (by omega), eN' 0 2 (by omega), eN' 1 0 (by omega), eN' 1 1 (by omega), eN' 1 2 (by omega), eN' 2 0 (by omega), eN' 2 1 (by omega), eN' 2 2 (by omega)]
      simp only [if_pos, show (1 : Nat) ≠ 0 by omega, show (2 : Nat) ≠ 0 by omega, if_false, if_true]
      rcases (by omega : o' = 1 ∨ o' = 2) with rfl | rfl <;> grind
    have sN : Sqr 3 N' := ei'.m
    have eD := detL_en sN
    have dc' : (detL N').natAbs = (detL s.M).natAbs := dc
    obtain ⟨m1, m2, _⟩ := n3_clean R.red q0 mi1 (by rw [← dN, ← eD]; omega) hz
    have n00 : en N' 0 0 = en s.M i j := by
      rw [eN' 0 0 (by omega), if_pos rfl, (hz o' h1 h2).1, qN]; omega
    refine hB ⟨0, N', BN⟩ ⟨rfl, sq', ?_, fun i' j' hi' hj' => ?_⟩ dc' ei' b1 b3 n00 ⟨c, h3, h4, ?_⟩ dv
    · refine mn_all fun x y c d g1 g2 g3 g4 => ?_
      show (mn (en N') x y c d).natAbs ≤ 5 * Q
      by_cases x0 : x = 0
      · subst x0
        have : mn (en N') 0 y c d = mn (en N) 0 y c d + mn (en N) o' y c d := by
          unfold mn
          rw [eN' 0 c (by omega), eN' 0 d (by omega), eN' y c (by omega), eN' y d (by omega), if_pos rfl, if_pos rfl, if_neg (by omega), if_neg (by omega)]
          grind
        rw [this]
        have k1 := m1 0 y c d (by omega) (by omega) (by omega) (by omega)
        have k2 := m1 o' y c d (by omega) (by omega) (by omega) (by omega)
        omega
      · have : mn (en N') x y c d = mn (en N) x y c d := by
          unfold mn
          rw [eN' x c (by omega), eN' x d (by omega), eN' y c (by omega), eN' y d (by omega), if_neg (by omega), if_neg (by omega), if_neg (by omega), if_neg (by omega)]
        rw [this]
        have k1 := m1 x y c d (by omega) (by omega) (by omega) (by omega)
        omega
    · show (en N' i' j').natAbs ≤ 5 * Q + 24
      rcases (by omega : j' = 0 ∨ 0 < j') with rfl | hj0
      · rw [eN' i' 0 hi']
        split
        · rw [qN, (hz o' h1 h2).1]; omega
        · rw [(hz i' (by omega) hi').1]; simp
      · rw [eN' i' j' hi']
        have k1 := m2 o' j' h1 h2 hj0 hj'
        split
        · rw [(hz j' hj0 hj').2]; omega
        · have := m2 i' j' (by omega) hi' hj0 hj'; omega
    · show ¬ en N' 0 0 ∣ en N' 0 c
      rw [n00, eN' 0 c (by omega), if_pos rfl, (hz c h3 h4).2, Int.zero_add, ← qN]
      exact hd
  · rw [e] at ei' dvE dc ⊢
    have sN : Sqr 3 N := ei'.m
    have eD := detL_en sN
    have dc' : (detL N).natAbs = (detL s.M).natAbs := dc
    obtain ⟨m1, m2, m3⟩ := n3_clean R.red q0 mi1 (by rw [← eD]; omega) hz
    have bne : en N 1 1 * en N 2 2 - en N 1 2 * en N 2 1 ≠ 0 := fun h => by
      rw [h, Int.mul_zero] at m3
      rw [eD, m3] at dc'
      simp at dc'
      exact dne (Int.natAbs_eq_zero.mp dc'.symm)
    have bb := m1 1 2 1 2 (by omega) (by omega) (by omega) (by omega)
    unfold mn at bb
    refine fin2 (s := ⟨0 + 1, N, BN⟩) rfl (by omega) R.red.sq ⟨fun i' h r g1 g2 => ?_, fun i' h => ?_, fun i' h => ?_⟩ bne (Nat.le_trans bb (by omega)) (fun i' j' g1 g2 g3 g4 => ?_) b1 (fun v hv => (b3 v hv).mono (by omega)) ⟨_, _, ei'⟩
    · have h : i' < 1 := h
      have g1 : 1 ≤ r := g1
      obtain rfl : i' = 0 := by omega
      exact ⟨(hz r (by omega) g2).2, (hz r (by omega) g2).1⟩
    · have h : i' < 1 := h
      obtain rfl : i' = 0 := by omega
      intro x y
      show en N 0 0 ∣ en N x y
      by_cases hx : x < 3
      · by_cases hy : y < 3
        · rcases (by omega : x = 0 ∨ 0 < x) with rfl | x0
          · rcases (by omega : y = 0 ∨ 0 < y) with rfl | y0
            · exact Int.dvd_refl _
            · rw [(hz y y0 hy).2]; exact Int.dvd_zero _
          · rcases (by omega : y = 0 ∨ 0 < y) with rfl | y0
            · rw [(hz x x0 hx).1]; exact Int.dvd_zero _
            · exact hd x y x0 hx y0 hy
        · have : en N x y = 0 := gt_ge (by rw [R.red.sq.2 x hx]; omega)
          rw [this]; exact Int.dvd_zero _
      · have : en N x y = 0 := en_out (by rw [R.red.sq.1]; omega) y
        rw [this]; exact Int.dvd_zero _
    · have h : i' < 1 := h
      obtain rfl : i' = 0 := by omega
      show Sm 100 (en N 0 0)
      rw [qN]; unfold Sm; omega
    · have g1 : 1 ≤ i' := g1
      have g3 : 1 ≤ j' := g3
      have := m2 i' j' (by omega) g2 (by omega) g4
      show (en N i' j').natAbs ≤ _
      omega
theorem fin3 : ∀ (m t Q b : Nat) (s : St), 2 * m ≤ t → 5 ^ t * Q ≤ 2 ^ 131 → b + 280 * t ≤ 29000 → T3 Q s → (detL s.M).natAbs ≤ Q → detL s.M ≠ 0 → EI 3 O T (s.M, s.B) → s.B.length = 3 → (∀ v ∈ s.B, VecOk b 3 v) → (∃ i j, i < 3 ∧ j < 3 ∧ en s.M i j ≠ 0 ∧ (en s.M i j).natAbs ≤ m) → m ≤ 24 → Fin 3 s
  | 0, t, Q, b, s, _, _, _, _, _, _, _, _, _, ⟨i, j, _, _, h0, h⟩, _ => by omega
  | m + 1, t, Q, b, s, ht, hQ, hb, k, hD, dne, ei, lB, vB, hm, m24 => by
    obtain ⟨t2, rfl⟩ : ∃ t2, t = t2 + 2 := ⟨t - 2, by omega⟩
    have p1 : 5 ^ (t2 + 2) = 5 ^ (t2 + 1) * 5 := Nat.pow_succ ..
    have p2 : 5 ^ (t2 + 1) = 5 ^ t2 * 5 := Nat.pow_succ ..
    have p0 : 1 ≤ 5 ^ t2 := Nat.pow_pos (by omega)
    have q5 : 5 ^ (t2 + 1) * (5 * Q) ≤ 2 ^ 131 := by rw [← Nat.mul_assoc, ← p1]; exact hQ
    have q25 : 5 ^ t2 * (5 * (5 * Q)) ≤ 2 ^ 131 := by rw [← Nat.mul_assoc, ← p2]; exact q5
    have Qb : 5 * (5 * Q) ≤ 2 ^ 131 := Nat.le_trans (Nat.le_mul_of_pos_left _ p0) q25
    have sa := k.a0
    have key : ∀ (t' Q' b' : Nat) (s' : St), 2 * m ≤ t' → 5 ^ t' * Q' ≤ 2 ^ 131 → b' + 280 * t' ≤ 29000 → T3 Q' s' → (detL s'.M).natAbs = (detL s.M).natAbs → Q ≤ Q' → EI 3 O T (s'.M, s'.B) → s'.B.length = 3 → (∀ v ∈ s'.B, VecOk b' 3 v) → (∃ i j, i < 3 ∧ j < 3 ∧ en s'.M i j ≠ 0 ∧ (en s'.M i j).natAbs ≤ m) → Fin 3 s' := fun t' Q' b' s' h1 h2 h3 h4 h5 h6 h7 h8 h9 h10 =>
      fin3 m t' Q' b' s' h1 h2 h3 h4 (by omega) (fun z => by rw [z] at h5; simp at h5; exact dne (Int.natAbs_eq_zero.mp h5.symm)) h7 h8 h9 h10 (by omega)
    obtain ⟨i0, j0, hi0, hj0, h0, hle⟩ := hm
    obtain ⟨i, j, hl, i1, i2, j1, j2, ne, hmin⟩ := least_some (M := s.M) (n := 3) (a := s.a) ⟨i0, j0, by omega, hi0, by omega, hj0, h0⟩
    have qle : (en s.M i j).natAbs ≤ m + 1 := Nat.le_trans (hmin i0 j0 (by omega) hi0 (by omega) hj0 h0) hle
    refine t3_core hO hT dT k (by omega) hD dne ei lB vB (by omega) hl i2 j2 ne (by omega) (fun s' k' d' e' l' v' hx => ?_) fun s' k' d' e' l' v' h00 hodd hdv => ?_
    · obtain ⟨x, y, hx, hy, h1, h2⟩ := hx
      exact key (t2 + 1) (5 * Q) (b + 280) s' (by omega) q5 (by omega) k' d' (by omega) e' l' v' ⟨x, y, hx, hy, h1, by omega⟩
    · by_cases sm : ∃ i j, i < 3 ∧ j < 3 ∧ en s'.M i j ≠ 0 ∧ (en s'.M i j).natAbs ≤ m
      · exact key (t2 + 1) (5 * Q) (b + 280) s' (by omega) q5 (by omega) k' d' (by omega) e' l' v' sm
      · have sa' := k'.a0
        have ne0 : en s'.M 0 0 ≠ 0 := by rw [h00]; exact ne
        have hl' := least_first (M := s'.M) (n := 3) (a := s'.a) (by omega) (by rw [sa']; exact ne0) fun x y h1 h2 h3 h4 h5 => by
          rw [sa', h00]
          have := Nat.lt_of_not_le fun h => sm ⟨x, y, h2, h4, h5, h⟩
          omega
        rw [sa'] at hl'
        have hl2 : leastP s'.M 3 s'.a = some ((en s'.M 0 0).natAbs, 0, 0) := by rw [sa']; exact hl'
        refine t3_core hO hT dT k' (by omega) (by omega) (fun z => by rw [z] at d'; simp at d'; exact dne (Int.natAbs_eq_zero.mp d'.symm)) e' l' v' (by omega) hl2 (by omega) (by omega) ne0 (by rw [h00]; omega) (fun s2 k2 d2 e2 l2 v2 hx => ?_) fun s2 k2 d2 e2 l2 v2 g00 godd gdv => ?_
        · obtain ⟨x, y, hx, hy, h1, h2⟩ := hx
          rw [h00] at h2
          exact key t2 (5 * (5 * Q)) (b + 280 + 280) s2 (by omega) q25 (by omega) k2 (by omega) (by omega) e2 l2 v2 ⟨x, y, hx, hy, h1, by omega⟩
        · obtain ⟨c, c1, c2, c3⟩ := hodd
          have := gdv c c1 c2
          rw [sw_self, sw_self] at this
          exact absurd this c3
end
/-! #### NY -/
/-! ### `matched` ends, and what it tells -/
theorem sqr_sqN {n : Nat} {M : List (List Int)} (h : Sqr n M) : SqN n M := ⟨h.2.2.1, fun i hi => by
  rw [row_lt (by rw [h.2.2.1]; exact hi)]
  exact h.2.2.2 _ (List.getElem_mem _)⟩
theorem wc_sqr {n : Nat} {O T : List (List Int)} (hO : Sqr n O) (hT : Sqr n T) : Sqr n (O.map (wc T)) := ⟨hO.1, hO.2.1, by simp [hO.2.2.1], fun v hv => by
  obtain ⟨u, _, rfl⟩ := List.mem_map.mp hv
  rw [wc_len, hT.2.2.1]⟩
theorem wc_mb {n : Nat} {O T : List (List Int)} (hO : Sqr n O) (hT : Sqr n T) (dT : detL T ≠ 0) (wh : ∀ v ∈ O, Whole T v) : mb (O.map (wc T), T) = O := by
  unfold mb
  show (O.map (wc T)).map (fun v => mixV v T) = O
  rw [List.map_map]
  have : O.map ((fun v => mixV v T) ∘ wc T) = O.map id := List.map_congr_left fun v hv => by
    have lv := hO.2.2.2 v hv
    exact wc_mix hT lv dT ((whole_iff hT lv dT).mp (wh v hv))
  rw [this, List.map_id]
theorem ei_start {n : Nat} {O T : List (List Int)} (hO : Sqr n O) (hT : Sqr n T) (dT : detL T ≠ 0) (wh : ∀ v ∈ O, Whole T v) : EI n O T (O.map (wc T), T) :=
  ⟨wc_sqr hO hT, hT, by rw [wc_mb hO hT dT wh]; exact SameL.refl n O, SameL.refl n T⟩
theorem abs_mul_le {a b : Int} {A B : Nat} (ha : a.natAbs ≤ A) (hb : b.natAbs ≤ B) : (a * b).natAbs ≤ A * B := by
  rw [Int.natAbs_mul]; exact Nat.mul_le_mul ha hb
theorem fin_all {n : Nat} {O T : List (List Int)} (hO : Sqr n O) (hT : Sqr n T) (dT : detL T ≠ 0) (dO : detL O ≠ 0) (wh : ∀ v ∈ O, Whole T v) (bd : ∀ i j, i < n → j < n → (en (O.map (wc T)) i j).natAbs ≤ 24) (vT : ∀ v ∈ T, VecOk 20 n v) : Fin n ⟨0, O.map (wc T), T⟩ := by
  have ei := ei_start hO hT dT wh
  have sM := wc_sqr hO hT
  have dM : detL (O.map (wc T)) ≠ 0 := fun z => by
    have h := det_mixM sM hT
    rw [show (O.map (wc T)).map (fun r => mixV r T) = O from wc_mb hO hT dT wh, z, Int.zero_mul] at h
    exact dO h
  generalize O.map (wc T) = M at ei sM dM bd
  have sq := sqr_sqN sM
  have hs : ∀ k, 5 ≤ k → ∀ i j, Sm k (en M i j) := fun k hk => sm_out sq fun i j hi hj => by
    have := bd i j hi hj
    refine Sm.mono (j := 5) ?_ hk
    unfold Sm; omega
  have n1 := hO.1
  have n3 := hO.2.1
  rcases (by omega : n = 1 ∨ n = 2 ∨ n = 3) with rfl | rfl | rfl
  · refine fin1 (s := ⟨0, M, T⟩) sq rfl (fun i j hi hj ne => by omega) (fun i hi => by omega) ?_ (hs 136 (by omega)) hT.2.2.1 (fun v hv => (vT v hv).mono (by omega)) (by omega)
    rw [detL_en1 sM] at dM
    exact dM
  · rw [detL_en2 sM] at dM
    have b1 := bd 0 0 (by omega) (by omega)
    have b2 := bd 0 1 (by omega) (by omega)
    have b3 := bd 1 0 (by omega) (by omega)
    have b4 := bd 1 1 (by omega) (by omega)
    have m1 := abs_mul_le b1 b4
    have m2 := abs_mul_le b2 b3
    refine fin2 (s := ⟨0, M, T⟩) rfl (by omega) sq ⟨fun i h => absurd h (Nat.not_lt_zero i), fun i h => absurd h (Nat.not_lt_zero i), fun i h => absurd h (Nat.not_lt_zero i)⟩ dM ?_ (fun i j _ hi _ hj => ?_) hT.2.2.1 (fun v hv => (vT v hv).mono (by omega)) ⟨O, T, ei⟩
    · show (en M 0 0 * en M 1 1 - en M 0 1 * en M 1 0).natAbs ≤ 2 ^ 133
      omega
    · have := bd i j hi hj
      show (en M i j).natAbs ≤ 2 ^ 133
      omega
  · have mi : ∀ i j c d, i < 3 → j < 3 → c < 3 → d < 3 → (mn (en M) i j c d).natAbs ≤ 1152 := fun i j c d hi hj hc hd => by
      have m1 := abs_mul_le (bd i c hi hc) (bd j d hj hd)
      have m2 := abs_mul_le (bd i d hi hd) (bd j c hj hc)
      unfold mn
      omega
    have ex : ∃ i j, i < 3 ∧ j < 3 ∧ en M i j ≠ 0 ∧ (en M i j).natAbs ≤ 24 := by
      refine Classical.byContradiction fun h => dM ?_
      have z : ∀ i j, i < 3 → j < 3 → en M i j = 0 := fun i j hi hj => Decidable.byContradiction fun h0 => h ⟨i, j, hi, hj, h0, bd i j hi hj⟩
      rw [detL_en sM]
      unfold det3
      rw [z 0 0 (by omega) (by omega), z 0 1 (by omega) (by omega), z 0 2 (by omega) (by omega)]
      simp
    have hd : (detL M).natAbs ≤ 100000 := by
      rw [detL_en sM]
      unfold det3
      have k0 := abs_mul_le (bd 0 0 (by omega) (by omega)) (mi 1 2 1 2 (by omega) (by omega) (by omega) (by omega))
      have k1 := abs_mul_le (bd 0 1 (by omega) (by omega)) (mi 1 2 0 2 (by omega) (by omega) (by omega) (by omega))
      have k2 := abs_mul_le (bd 0 2 (by omega) (by omega)) (mi 1 2 0 1 (by omega) (by omega) (by omega) (by omega))
      unfold mn at k0 k1 k2
      omega
    exact fin3 hO hT dT 24 48 100000 20 ⟨0, M, T⟩ (by omega) (by decide) (by omega) ⟨rfl, sq, fun i j c d hi hj hc hd => Nat.le_trans (mi i j c d hi hj hc hd) (by omega), fun i j hi hj => Nat.le_trans (bd i j hi hj) (by omega)⟩ hd dM ei hT.2.2.1 vT ex (by omega)
/-! what the diagonal tells -/
theorem diag_dv {E : Nat → Nat → Int} (h0 : ∀ i j, i ≠ j → E i j = 0) (h1 : ∀ k, E 0 0 ∣ E k k) (h2 : ∀ k, 1 ≤ k → E 1 1 ∣ E k k) (g : Int) : (dv1 g E ↔ g ∣ E 0 0) ∧ (dv2 g E ↔ g ∣ E 0 0 * E 1 1) := by
  refine ⟨⟨fun h => h 0 0, fun h i j => ?_⟩, ⟨fun h => ?_, fun h i j c d => ?_⟩⟩
  · by_cases e : i = j
    · subst e; exact Int.dvd_trans h (h1 i)
    · rw [h0 i j e]; exact Int.dvd_zero g
  · have := h 0 1 0 1
    rw [h0 0 1 (by omega)] at this
    simpa using this
  · have key : ∀ i j, i ≠ j → g ∣ E i i * E j j := fun i j ne => by
      refine Int.dvd_trans h ?_
      rcases Nat.lt_or_gt_of_ne ne with l | l
      · exact Int.mul_dvd_mul (h1 i) (h2 j (by omega))
      · rw [Int.mul_comm (E i i)]
        exact Int.mul_dvd_mul (h1 j) (h2 i (by omega))
    by_cases ij : i = j
    · subst ij
      have : E i c * E i d - E i d * E i c = 0 := by rw [Int.mul_comm]; omega
      rw [this]; exact Int.dvd_zero g
    · by_cases ic : i = c
      · subst ic
        rw [h0 j i (fun e => ij e.symm), Int.mul_zero, Int.sub_zero]
        by_cases jd : j = d
        · subst jd; exact key i j ij
        · rw [h0 j d jd, Int.mul_zero]; exact Int.dvd_zero g
      · rw [h0 i c ic, Int.zero_mul, Int.zero_sub]
        by_cases id : i = d
        · subst id
          by_cases jc : j = c
          · subst jc; exact Int.dvd_neg.mpr (key i j ij)
          · rw [h0 j c jc, Int.mul_zero]; exact Int.dvd_neg.mpr (Int.dvd_zero g)
        · rw [h0 i d id, Int.zero_mul]; exact Int.dvd_neg.mpr (Int.dvd_zero g)
/-- the multiples of vectors -/
def scB (d : List Int) (B : List (List Int)) : List (List Int) := (d.zip B).map fun p => smul p.1 p.2
structure MatOk (n : Nat) (O T W : List (List Int)) (d : List Int) (B : List (List Int)) : Prop where
  ld : d.length = n
  sB : Sqr n B
  vB : ∀ v ∈ B, VecOk 130000 n v
  same : SameL n B T
  sc : SameL n (scB d B) O
  pos : ∀ i, i < n → 0 < gt d i
  dvd : ∀ i, i + 1 < n → gt d i ∣ gt d (i + 1)
  g1 : ∀ g, dv1 g (en W) ↔ g ∣ gt d 0
  g2 : 2 ≤ n → ∀ g, dv2 g (en W) ↔ g ∣ gt d 0 * gt d 1
  p1 : n = 1 → ((detL W).natAbs : Int) = gt d 0
  p2 : n = 2 → ((detL W).natAbs : Int) = gt d 0 * gt d 1
  p3 : n = 3 → ((detL W).natAbs : Int) = gt d 0 * gt d 1 * gt d 2
theorem scB_len {n : Nat} {d : List Int} {B : List (List Int)} (hd : d.length = n) (hB : Sqr n B) : Len n (scB d B) := fun v hv => by
  obtain ⟨p, hp, rfl⟩ := List.mem_map.mp hv
  rw [smul_len]
  exact hB.2.2.2 _ (List.of_mem_zip hp).2
theorem scB_sqr {n : Nat} {d : List Int} {B : List (List Int)} (hd : d.length = n) (hB : Sqr n B) : Sqr n (scB d B) := ⟨hB.1, hB.2.1, by simp [scB, hd, hB.2.2.1], scB_len hd hB⟩
theorem row_sc {n : Nat} {d : List Int} {B : List (List Int)} (hd : d.length = n) (hB : Sqr n B) {i : Nat} (hi : i < n) : row (scB d B) i = smul (gt d i) (row B i) := by
  rw [row_lt (by rw [(scB_sqr hd hB).2.2.1]; exact hi), row_lt (by rw [hB.2.2.1]; exact hi), gt_lt (by omega)]
  simp [scB]
theorem lat_smulr {n : Nat} {R : List (List Int)} (hR : Len n R) {v : List Int} (h : Lat n R v) (k : Int) : Lat n R (smul k v) := by
  have lv := h.len hR
  refine lat_lin hR .zero h k (by rw [smul_len]; exact lv) fun i => ?_
  rw [gt_zero]
  unfold smul gt
  rw [List.getD_eq_getElem?_getD, List.getD_eq_getElem?_getD, List.getElem?_map]
  cases v[i]? <;> simp
theorem mix_diag {n : Nat} {B : List (List Int)} (hB : Sqr n B) {u : List Int} (hu : u.length = n) {i : Nat} (hi : i < n) (z : ∀ j, j < n → j ≠ i → gt u j = 0) : mixV u B = smul (gt u i) (row B i) := by
  rcases hB.cases with ⟨rfl, a, rfl⟩ | ⟨rfl, a, b, c, d, rfl⟩ | ⟨rfl, a, b, c, d, e, f, g, h, k, rfl⟩
  · obtain ⟨x, rfl⟩ := len1 hu
    obtain rfl : i = 0 := by omega
    simp [mixV1, smul, row, gt]
  · obtain ⟨x, y, rfl⟩ := len2 hu
    rcases (by omega : i = 0 ∨ i = 1) with rfl | rfl
    · have := z 1 (by omega) (by omega)
      simp [gt] at this
      simp [mixV2, smul, row, gt, this]
    · have := z 0 (by omega) (by omega)
      simp [gt] at this
      simp [mixV2, smul, row, gt, this]
  · obtain ⟨x, y, w, rfl⟩ := len3 hu
    rcases (by omega : i = 0 ∨ i = 1 ∨ i = 2) with rfl | rfl | rfl
    · have h1 := z 1 (by omega) (by omega)
      have h2 := z 2 (by omega) (by omega)
      simp [gt] at h1 h2
      simp [mixV3, smul, row, gt, h1, h2]
    · have h1 := z 0 (by omega) (by omega)
      have h2 := z 2 (by omega) (by omega)
      simp [gt] at h1 h2
      simp [mixV3, smul, row, gt, h1, h2]
    · have h1 := z 0 (by omega) (by omega)
      have h2 := z 1 (by omega) (by omega)
      simp [gt] at h1 h2
      simp [mixV3, smul, row, gt, h1, h2]
theorem gt_diag {n i : Nat} (M : List (List Int)) (hi : i < n) : gt (diagL n M) i = ((en M i i).natAbs : Nat) := by
  rw [gt_lt (by simp [diagL]; exact hi)]
  simp [diagL]
theorem smul_smul' (a b : Int) (v : List Int) : smul a (smul b v) = smul (a * b) v := by
  unfold smul
  rw [List.map_map]
  exact List.map_congr_left fun x _ => by show a * (b * x) = _; rw [Int.mul_assoc]
theorem sgn_ex (x : Int) : ∃ s : Int, (x.natAbs : Int) = s * x ∧ x = s * (x.natAbs : Int) := by
  rcases Int.le_total 0 x with h | h
  · exact ⟨1, by omega, by omega⟩
  · exact ⟨-1, by omega, by omega⟩
/-- the run of `matched`, and what it makes -/
theorem mat_ok {n : Nat} {O T : List (List Int)} (hO : Sqr n O) (hT : Sqr n T) (dT : detL T ≠ 0) (dO : detL O ≠ 0) (wh : ∀ v ∈ O, Whole T v) (bd : ∀ i j, i < n → j < n → (en (O.map (wc T)) i j).natAbs ≤ 24) (vT : ∀ v ∈ T, VecOk 20 n v) :
    ∃ c s', MRun n c ⟨0, O.map (wc T), T⟩ s' ∧ SqN n s'.M ∧ s'.B.length = n ∧ MatOk n O T (O.map (wc T)) (diagL n s'.M) s'.B := by
  obtain ⟨c, s', run, sq, lB, vB, es, z, dv⟩ := fin_all hO hT dT dO wh bd vT
  have ei := ei_start hO hT dT wh
  have ei' := es.keep ei
  have dvs := fun g => es.dv (g := g) ei
  have dc := det_const ei ei' hO hT dT
  have sM := wc_sqr hO hT
  have dM : detL (O.map (wc T)) ≠ 0 := fun z => by
    have h := det_mixM sM hT
    rw [show (O.map (wc T)).map (fun r => mixV r T) = O from wc_mb hO hT dT wh, z, Int.zero_mul] at h
    exact dO h
  refine ⟨c, s', run, sq, lB, ?_⟩
  generalize O.map (wc T) = W at *
  have n1 := hO.1
  have n3 := hO.2.1
  have hB : Sqr n s'.B := ei'.b
  have hM : Sqr n s'.M := ei'.m
  have ld : (diagL n s'.M).length = n := by simp [diagL]
  have z' : ∀ i j, i ≠ j → en s'.M i j = 0 := fun i j ne => by
    by_cases hi : i < n
    · by_cases hj : j < n
      · exact z i j hi hj ne
      · exact gt_ge (by rw [sq.2 i hi]; omega)
    · exact en_out (by rw [sq.1]; omega) j
  have zo : ∀ k, n ≤ k → en s'.M k k = 0 := fun k hk => en_out (by rw [sq.1]; exact hk) k
  have h1 : ∀ k, en s'.M 0 0 ∣ en s'.M k k := fun k => by
    by_cases hk : k < n
    · rcases (by omega : k = 0 ∨ k = 1 ∨ k = 2) with rfl | rfl | rfl
      · exact Int.dvd_refl _
      · exact dv 0 (by omega)
      · exact Int.dvd_trans (dv 0 (by omega)) (dv 1 (by omega))
    · rw [zo k (by omega)]; exact Int.dvd_zero _
  have h2 : ∀ k, 1 ≤ k → en s'.M 1 1 ∣ en s'.M k k := fun k k1 => by
    by_cases hk : k < n
    · rcases (by omega : k = 1 ∨ k = 2) with rfl | rfl
      · exact Int.dvd_refl _
      · exact dv 1 (by omega)
    · rw [zo k (by omega)]; exact Int.dvd_zero _
  have dd := diag_dv z' h1 h2
  have pr : (n = 1 → ((detL W).natAbs : Int) = gt (diagL n s'.M) 0) ∧ (n = 2 → ((detL W).natAbs : Int) = gt (diagL n s'.M) 0 * gt (diagL n s'.M) 1) ∧ (n = 3 → ((detL W).natAbs : Int) = gt (diagL n s'.M) 0 * gt (diagL n s'.M) 1 * gt (diagL n s'.M) 2) := by
    have dc' : (detL s'.M).natAbs = (detL W).natAbs := dc
    refine ⟨fun e => ?_, fun e => ?_, fun e => ?_⟩
    · subst e
      rw [gt_diag _ (by omega), ← dc', detL_en1 hM]
    · subst e
      rw [gt_diag _ (by omega), gt_diag _ (by omega), ← dc', detL_en2 hM, z' 0 1 (by omega), Int.zero_mul, Int.sub_zero, Int.natAbs_mul, Int.natCast_mul]
    · subst e
      rw [gt_diag _ (by omega), gt_diag _ (by omega), gt_diag _ (by omega), ← dc', detL_en hM]
      unfold det3
      rw [z' 0 1 (by omega), z' 0 2 (by omega), z' 1 2 (by omega)]
      simp only [Int.zero_mul, Int.sub_zero, Int.add_zero]
      rw [Int.natAbs_mul, Int.natAbs_mul, Int.natCast_mul, Int.natCast_mul, Int.mul_assoc]
  have ne0 : ∀ i, i < n → en s'.M i i ≠ 0 := fun i hi h => by
    have hp : (0 : Int) < ((detL W).natAbs : Int) := by omega
    have gi := gt_diag s'.M hi
    rw [h] at gi
    obtain ⟨q1, q2, q3⟩ := pr
    rcases (by omega : n = 1 ∨ n = 2 ∨ n = 3) with rfl | rfl | rfl
    · obtain rfl : i = 0 := by omega
      rw [q1 rfl, gi] at hp; simp at hp
    · rcases (by omega : i = 0 ∨ i = 1) with rfl | rfl <;> (rw [q2 rfl, gi] at hp; simp at hp)
    · rcases (by omega : i = 0 ∨ i = 1 ∨ i = 2) with rfl | rfl | rfl <;> (rw [q3 rfl, gi] at hp; simp at hp)
  refine ⟨ld, hB, vB, ei'.t, ?_, fun i hi => ?_, fun i hi => ?_, fun g => ?_, fun n2 g => ?_, pr.1, pr.2.1, pr.2.2⟩
  · -- the multiples
    refine SameL.tr ?_ ei'.o
    have lm : (mb (s'.M, s'.B)).length = n := by simp [mb, sq.1]
    have lenm := mb_len (s := (s'.M, s'.B)) hB
    have lens := scB_len ld hB
    have rm : ∀ i, i < n → row (mb (s'.M, s'.B)) i = smul (en s'.M i i) (row s'.B i) := fun i hi => by
      unfold mb
      show row (s'.M.map _) i = _
      rw [row_map' (by rw [sq.1]; exact hi)]
      exact mix_diag hB (sq.2 i hi) hi fun j hj ne => z i j hi hj (fun e => ne e.symm)
    have rs : ∀ i, i < n → row (scB (diagL n s'.M) s'.B) i = smul ((en s'.M i i).natAbs : Nat) (row s'.B i) := fun i hi => by rw [row_sc ld hB hi, gt_diag _ hi]
    have mem : ∀ {R : List (List Int)} {i : Nat}, i < R.length → row R i ∈ R := fun h => by rw [row_lt h]; exact List.getElem_mem _
    refine SameL.of lens lenm (fun v hv => ?_) fun v hv => ?_
    · obtain ⟨i, hi, rfl⟩ := List.getElem_of_mem hv
      have hi' : i < n := by rw [(scB_sqr ld hB).2.2.1] at hi; exact hi
      rw [← row_lt hi, rs i hi']
      obtain ⟨s, e1, _⟩ := sgn_ex (en s'.M i i)
      rw [e1, ← smul_smul', ← rm i hi']
      exact lat_smulr lenm (Lat.of_mem (mem (by rw [lm]; exact hi')) (lenm _ (mem (by rw [lm]; exact hi')))) s
    · obtain ⟨i, hi, rfl⟩ := List.getElem_of_mem hv
      have hi' : i < n := by rw [lm] at hi; exact hi
      rw [← row_lt hi, rm i hi']
      obtain ⟨s, _, e1⟩ := sgn_ex (en s'.M i i)
      have hs : i < (scB (diagL n s'.M) s'.B).length := by rw [(scB_sqr ld hB).2.2.1]; exact hi'
      rw [e1, ← smul_smul', ← rs i hi']
      exact lat_smulr lens (Lat.of_mem (mem hs) (lens _ (mem hs))) s
  · rw [gt_diag _ hi]
    have := ne0 i hi
    omega
  · rw [gt_diag _ (by omega), gt_diag _ hi]
    exact Int.natCast_dvd_natCast.mpr (Int.natAbs_dvd_natAbs.mpr (dv i hi))
  · rw [← (dvs g).1, gt_diag _ (by omega), (dd g).1]
    exact (Int.dvd_natAbs).symm
  · rw [← (dvs g).2, gt_diag _ (by omega), gt_diag _ (by omega), (dd g).2, ← Int.natCast_mul, ← Int.natAbs_mul]
    exact (Int.dvd_natAbs).symm
/-! #### NZ -/
/-! ### the greatest common divisors of the minors (k12) -/
def gcdL (L : List Int) : Nat := L.foldl (fun g x => Nat.gcd x.natAbs g) 0
theorem gcd_fold (g : Nat) : ∀ (L : List Int) (m : Nat), g ∣ L.foldl (fun g x => Nat.gcd x.natAbs g) m ↔ g ∣ m ∧ ∀ x ∈ L, (g : Int) ∣ x
  | [], m => by simp
  | x :: L, m => by
    rw [List.foldl_cons, gcd_fold g L, Nat.dvd_gcd_iff, List.forall_mem_cons, Int.ofNat_dvd_left]
    constructor
    · rintro ⟨⟨h1, h2⟩, h3⟩; exact ⟨h2, h1, h3⟩
    · rintro ⟨h2, h1, h3⟩; exact ⟨⟨h1, h2⟩, h3⟩
theorem gcdL_dvd (g : Nat) (L : List Int) : g ∣ gcdL L ↔ ∀ x ∈ L, (g : Int) ∣ x := by
  unfold gcdL
  rw [gcd_fold]
  simp
theorem gcdL_eq {L : List Int} {d : Nat} (h : ∀ g : Nat, (∀ x ∈ L, (g : Int) ∣ x) ↔ g ∣ d) : gcdL L = d :=
  Nat.dvd_antisymm ((h _).mp ((gcdL_dvd _ L).mp (Nat.dvd_refl _))) ((gcdL_dvd _ L).mpr ((h _).mpr (Nat.dvd_refl _)))
def dropV (j : Nat) (v : List Int) : List Int := v.take j ++ v.drop (j + 1)
def minR (i : Nat) (W : List (List Int)) : List (List Int) := W.take i ++ W.drop (i + 1)
def minL (n k : Nat) (W : List (List Int)) : List Int :=
  if k = 1 then W.flatten else if k = n then [detL W] else (List.range n).flatMap fun i => (List.range n).map fun j => detL ((minR i W).map (dropV j))
theorem dv1_mem {n : Nat} {W : List (List Int)} (hW : Sqr n W) (g : Int) : dv1 g (en W) ↔ ∀ x ∈ W.flatten, g ∣ x := by
  have sq := sqr_sqN hW
  constructor
  · intro h x hx
    obtain ⟨v, hv, hx⟩ := List.mem_flatten.mp hx
    obtain ⟨i, hi, rfl⟩ := List.getElem_of_mem hv
    obtain ⟨j, hj, rfl⟩ := List.getElem_of_mem hx
    have := h i j
    unfold en at this
    rw [row_lt hi, gt_lt hj] at this
    exact this
  · intro h i j
    by_cases hi : i < n
    · have hi' : i < W.length := by rw [hW.2.2.1]; exact hi
      by_cases hj : j < n
      · have hj' : j < (row W i).length := by rw [sq.2 i hi]; exact hj
        unfold en
        rw [gt_lt hj']
        exact h _ (List.mem_flatten.mpr ⟨row W i, by rw [row_lt hi']; exact List.getElem_mem _, List.getElem_mem _⟩)
      · have : en W i j = 0 := gt_ge (by rw [sq.2 i hi]; omega)
        rw [this]; exact Int.dvd_zero g
    · rw [en_out (by rw [hW.2.2.1]; omega)]; exact Int.dvd_zero g
theorem dv2_3 {E : Nat → Nat → Int} (z : ∀ i j, 3 ≤ i ∨ 3 ≤ j → E i j = 0) {g : Int} (h : ∀ i j c d, i < j → j < 3 → c < d → d < 3 → g ∣ mn E i j c d) : dv2 g E := by
  have s1 : ∀ i j c d, mn E j i c d = -mn E i j c d := fun i j c d => by unfold mn; grind
  have s2 : ∀ i j c d, mn E i j d c = -mn E i j c d := fun i j c d => by unfold mn; grind
  have z1 : ∀ i c d, mn E i i c d = 0 := fun i c d => by unfold mn; grind
  have z2 : ∀ i j c, mn E i j c c = 0 := fun i j c => by unfold mn; grind
  intro i j c d
  show g ∣ mn E i j c d
  by_cases hi : i < 3
  · by_cases hj : j < 3
    · by_cases hc : c < 3
      · by_cases hd : d < 3
        · rcases Nat.lt_trichotomy i j with h1 | h1 | h1
          · rcases Nat.lt_trichotomy c d with h2 | h2 | h2
            · exact h i j c d h1 hj h2 hd
            · rw [h2, z2]; exact Int.dvd_zero g
            · rw [s2]; exact Int.dvd_neg.mpr (h i j d c h1 hj h2 hc)
          · rw [h1, z1]; exact Int.dvd_zero g
          · rcases Nat.lt_trichotomy c d with h2 | h2 | h2
            · rw [s1]; exact Int.dvd_neg.mpr (h j i c d h1 hi h2 hd)
            · rw [h2, z2]; exact Int.dvd_zero g
            · rw [s1, s2, Int.neg_neg]; exact h j i d c h1 hi h2 hc
        · unfold mn
          rw [z i d (.inr (by omega)), z j d (.inr (by omega))]; simp
      · unfold mn
        rw [z i c (.inr (by omega)), z j c (.inr (by omega))]; simp
    · unfold mn
      rw [z j d (.inl (by omega)), z j c (.inl (by omega))]; simp
  · unfold mn
    rw [z i c (.inl (by omega)), z i d (.inl (by omega))]; simp
theorem min_3 {W : List (List Int)} (hW : Sqr 3 W) (g : Int) : dv2 g (en W) ↔ ∀ x ∈ minL 3 2 W, g ∣ x := by
  have sq := sqr_sqN hW
  have z : ∀ i j, 3 ≤ i ∨ 3 ≤ j → en W i j = 0 := fun i j h => by
    by_cases hi : i < 3
    · exact gt_ge (by rw [sq.2 i hi]; omega)
    · exact en_out (by rw [hW.2.2.1]; omega) j
  have key : (∀ x ∈ minL 3 2 W, g ∣ x) ↔ (g ∣ mn (en W) 1 2 1 2 ∧ g ∣ mn (en W) 1 2 0 2 ∧ g ∣ mn (en W) 1 2 0 1) ∧ (g ∣ mn (en W) 0 2 1 2 ∧ g ∣ mn (en W) 0 2 0 2 ∧ g ∣ mn (en W) 0 2 0 1) ∧ (g ∣ mn (en W) 0 1 1 2 ∧ g ∣ mn (en W) 0 1 0 2 ∧ g ∣ mn (en W) 0 1 0 1) := by
    rcases hW.cases with ⟨e, _⟩ | ⟨e, _⟩ | ⟨_, a, b, c, d, e, f, h, k, l, rfl⟩
    · omega
    · omega
    · simp [minL, minR, dropV, List.range_succ, detL, mn, en, row, gt, and_assoc]
  rw [key]
  constructor
  · intro h
    exact ⟨⟨h .., h .., h ..⟩, ⟨h .., h .., h ..⟩, h .., h .., h ..⟩
  · rintro ⟨⟨h1, h2, h3⟩, ⟨h4, h5, h6⟩, h7, h8, h9⟩
    refine dv2_3 z fun i j c d h1 h2 h3 h4 => ?_
    rcases (by omega : i = 0 ∧ j = 1 ∨ i = 0 ∧ j = 2 ∨ i = 1 ∧ j = 2) with ⟨rfl, rfl⟩ | ⟨rfl, rfl⟩ | ⟨rfl, rfl⟩ <;> rcases (by omega : c = 0 ∧ d = 1 ∨ c = 0 ∧ d = 2 ∨ c = 1 ∧ d = 2) with ⟨rfl, rfl⟩ | ⟨rfl, rfl⟩ | ⟨rfl, rfl⟩ <;> assumption
section
variable {n : Nat} {O T W : List (List Int)} {d : List Int} {B : List (List Int)}
/-- the least common divisors, one for each size -/
def shr (n k : Nat) (W : List (List Int)) : Nat := gcdL (minL n k W)
theorem MatOk.nat (k : MatOk n O T W d B) {i : Nat} (hi : i < n) : ((gt d i).natAbs : Int) = gt d i := by
  have := k.pos i hi
  omega
theorem MatOk.s1 (k : MatOk n O T W d B) (hW : Sqr n W) : ((shr n 1 W : Nat) : Int) = gt d 0 := by
  rw [← k.nat (i := 0) (by have := hW.1; omega)]
  congr 1
  refine gcdL_eq fun g => ?_
  rw [show minL n 1 W = W.flatten by unfold minL; rw [if_pos rfl], ← dv1_mem hW, k.g1, Int.ofNat_dvd_left]
theorem MatOk.sn (k : MatOk n O T W d B) (hn : 2 ≤ n) : (shr n n W : Nat) = (detL W).natAbs := by
  refine gcdL_eq fun g => ?_
  rw [show minL n n W = [detL W] by unfold minL; rw [if_neg (by omega), if_pos rfl], List.forall_mem_singleton, Int.ofNat_dvd_left]
theorem MatOk.s2 (k : MatOk n O T W d B) (hW : Sqr n W) (hn : 2 ≤ n) : ((shr n 2 W : Nat) : Int) = gt d 0 * gt d 1 := by
  have n3 := hW.2.1
  rcases (by omega : n = 2 ∨ n = 3) with rfl | rfl
  · rw [k.sn (by omega), k.p2 rfl]
  · rw [← k.nat (i := 0) (by omega), ← k.nat (i := 1) (by omega), ← Int.natCast_mul]
    congr 1
    refine gcdL_eq fun g => ?_
    rw [← min_3 hW, k.g2 (by omega), Int.ofNat_dvd_left, Int.natAbs_mul]
theorem MatOk.s3 (k : MatOk n O T W d B) (hn : n = 3) : ((shr n 3 W : Nat) : Int) = gt d 0 * gt d 1 * gt d 2 := by
  subst hn
  rw [k.sn (by omega), k.p3 rfl]
theorem fd_mulr {a b : Int} (ha : 0 < a) : (a * b).fdiv a = b := by
  rw [Int.mul_comm]
  exact fd_cancel (by omega)
/-- the divisors are told by the minors -/
def dueL (n : Nat) (W : List (List Int)) : List Int := (List.range n).map fun k => ((shr n (k + 1) W : Nat) : Int).fdiv (if k = 0 then 1 else (shr n k W : Nat))
theorem MatOk.shr_pos (k : MatOk n O T W d B) (hW : Sqr n W) {j : Nat} (h1 : 1 ≤ j) (h2 : j ≤ n) : 0 < shr n j W := by
  have n3 := hW.2.1
  have p0 := k.pos 0 (by omega)
  rcases (by omega : j = 1 ∨ j = 2 ∨ j = 3) with rfl | rfl | rfl
  · have := k.s1 hW; omega
  · have := k.s2 hW h2
    have p1 := k.pos 1 (by omega)
    have := Int.mul_pos p0 p1
    omega
  · have := k.s3 (by omega)
    have p1 := k.pos 1 (by omega)
    have p2 := k.pos 2 (by omega)
    have := Int.mul_pos (Int.mul_pos p0 p1) p2
    omega
theorem MatOk.due (k : MatOk n O T W d B) (hW : Sqr n W) : dueL n W = d := by
  have n1 := hW.1
  have n3 := hW.2.1
  apply List.ext_getElem
  · simp [dueL, k.ld]
  · intro i hi hd
    have hi : i < n := by simpa [dueL] using hi
    have e : d[i] = gt d i := (gt_lt hd).symm
    rw [e]
    simp only [dueL, List.getElem_map, List.getElem_range]
    have p0 := k.pos 0 (by omega)
    rcases (by omega : i = 0 ∨ i = 1 ∨ i = 2) with rfl | rfl | rfl
    · rw [if_pos rfl, k.s1 hW]; simp
    · rw [if_neg (by omega), k.s2 hW (by omega), k.s1 hW]
      exact fd_mulr p0
    · rw [if_neg (by omega), k.s3 (by omega), k.s2 hW (by omega)]
      exact fd_mulr (Int.mul_pos p0 (k.pos 1 (by omega)))
theorem MatOk.le (k : MatOk n O T W d B) (hW : Sqr n W) {i : Nat} (hi : i < n) : (gt d i).natAbs ≤ (detL W).natAbs := by
  have n3 := hW.2.1
  have p0 := k.pos 0 (by omega)
  have key : gt d i ∣ ((detL W).natAbs : Int) ∧ 0 < ((detL W).natAbs : Int) := by
    rcases (by omega : n = 1 ∨ n = 2 ∨ n = 3) with e | e | e
    · obtain rfl : i = 0 := by omega
      rw [k.p1 e]; exact ⟨Int.dvd_refl _, p0⟩
    · have p1 := k.pos 1 (by omega)
      rw [k.p2 e]
      refine ⟨?_, Int.mul_pos p0 p1⟩
      rcases (by omega : i = 0 ∨ i = 1) with rfl | rfl
      · exact Int.dvd_mul_right _ _
      · exact Int.dvd_mul_left _ _
    · have p1 := k.pos 1 (by omega)
      have p2 := k.pos 2 (by omega)
      rw [k.p3 e]
      refine ⟨?_, Int.mul_pos (Int.mul_pos p0 p1) p2⟩
      rcases (by omega : i = 0 ∨ i = 1 ∨ i = 2) with rfl | rfl | rfl
      · rw [Int.mul_assoc]; exact Int.dvd_mul_right _ _
      · exact Int.dvd_mul_of_dvd_left (Int.dvd_mul_left _ _)
      · exact Int.dvd_mul_left _ _
  have := Int.le_of_dvd key.2 key.1
  have := k.pos i hi
  omega
end
/-! #### JJ -/
local macro_rules | `(tactic| walk_at "wp") => `(tactic| try simp only [z0, z1, z2, z3, z4, z5, z6, z7, z8, z9, z10, z11, z12, z13, z14, z15, z16, z17, z18, z19, z20, z21, z22, z23, z24, z25, z26, z27, z28, z29, z30, z31, z32, z33, z34, z35, z36, z37, z38, z39, z40, z41, z42, z43, z44, z45, z46, z47, z49, z52, z53, z54, z56, z57, z58, z59, z60, z61, z62, z63, z64, z65, z66, z67, z68, z69, z70, z71, z72, z73, z75, z76, z77, z78, z79, z80, z81, z82, zg0, zg1, y0, y1, y2, y3, y4, y5, y6, y7, y8, y9, y10, y12, sg0, sg1, sg2, sg3, sg4, sn0, sn1, sn2, sn3, sn4, sn5, sn6, sn7, sn8, sn9, sp1, sp4, si0, si1, si2, si3, si4, sl0, sl1, sl2, sl3, sl4, y19, y20, zipJ_tt, zipJ_lt, y28a, y30a, y32b, y32c, isCD_t, isCD_s, y38c, y40a, wVar, wFrz, wC, wNil, wCons, w1, w2, w3, wAp, opD, cmD, oNeg, wB, wNotT, boolW, wAndT, wOrT, wNotV, boolV, wAndV, wOrV, wIte, wNo, wSo, wSl, wTup, wLst, wThw, wLof, wCat, wRep, wIsi, wM1, wIseq, wR1, wR2, wZip_eq, wEnum, wYes, wComp, wSkip, wSeq, wExpr, wRet, wCont, wSet, wAsg, wPar, wSub, wIf, wFor, wRaise, wCall, wTry, wIsX, wIsVE, wLofS, wFld, wSetF, wMet0, wDead, wSub2, setO, wJn, wJc, wPutD, wSumL, seqOf_tup, seqOf_lst, seqOf_scr, lstOf_lst, lstOf_scr, lstX_lst, tupOf_tup, srcOf_tup, srcOf_lst, srcOf_scr, srcOf_han, srcOk_nil, srcOk_cons, oAdd_ii, oAdd_ss, oAdd_tt, oAdd_ll, oSub_ii, oMul_ii, oMul_ti, oMul_si, oDiv_ii, oMod_ii, oPow_ii, oNeg_i, oEq_ii, oNe_ii, oEq_ss, oNe_ss, oI_ii, oIs_n, oIsNot_n, oIs_b, oIsNot_b, isNon_n, isNon_b, isNon_i, isNon_s, isNon_t, isNon_l, isNon_h, oIx_t, oIx_l, oIx_s, oLen_t, oLen_l, oLen_s, oLen_str, oAbs_i, oTuple_l, oTuple_t, oSl_t, oSl_l, oInt_i, oInt_b, compGo_nil, compGo_cons, forGo_nil, forGo_cons, wipeD_nil, wipeD_cons, range_3, range_2, range_1, enumD_nil, enumD_1, enumD_2, enumD_3, zipD_nil, zipD_cons, oMin_ii, oNe_iN, oEq_iN, ctOf, startD, List.map_cons, List.map_nil, List.length_cons, List.length_nil, List.cons_append, List.nil_append, List.append_nil, List.replicate, Nat.reduceAdd, Nat.reduceSub, Nat.sub_self, Nat.zero_add, List.getElem?_cons_zero, List.getElem?_cons_succ, List.getElem?_nil, List.set_cons_zero, List.set_cons_succ, ex_eq, ex_and, Option.some.injEq, exists_eq_left', exists_eq_left, exists_eq_right, D.bl.injEq, D.int.injEq, D.str.injEq, D.tup.injEq, D.lst.injEq, D.han.injEq, O.ins.injEq, O.lst.injEq, O.dct.injEq, atI_0, atI_1, atI_2, reduceIte, zip_tt, zip_ll, ty_n, ty_b, ty_i, ty_s, ty_t, ty_l, ty_f, kit_ii, kit_ib, kit_bb, kit_bi, kit_it, kit_tt, kit_ti, kit_tb, kit_lt, kit_li, kit_st, kit_si, kit_ss, kit_nt, kit_ni, kit_fi, kit_ft, kit_is, kit_ns, kit_bt, oLen_V, Int.toNat_natCast, cut_t0, cut_t1, cut_t2, cut_f1, cut_f2, cut_f3, m2_0, m2_1, m2_2, List.take_succ_cons, List.take_zero, List.drop_succ_cons, List.drop_zero, List.take_nil, List.drop_nil, decide_true, decide_false, Bool.not_true, Bool.not_false, if_true, if_false, Bool.false_eq_true, Int.cast_ofNat_Int, Int.reduceEq, Int.reduceLT, Int.reduceLE, Int.reduceToNat, Int.reduceNeg, Nat.reduceEqDiff, decide_eq_true_eq, true_and, and_true, List.cons.injEq, and_self, Int.reduceSub, Int.reduceAdd, Int.reduceMul])
local macro_rules | `(tactic| walk_at "wpc") => `(tactic| try simp only [z0, z1, z2, z3, z4, z5, z6, z7, z8, z9, z10, z11, z12, z13, z14, z15, z16, z17, z18, z19, z20, z21, z22, z23, z24, z25, z26, z27, z28, z29, z30, z31, z32, z33, z34, z35, z36, z37, z38, z39, z40, z41, z42, z43, z44, z45, z46, z47, z49, z52, z53, z54, z56, z57, z58, z59, z60, z61, z62, z63, z64, z65, z66, z67, z68, z69, z70, z71, z72, z73, z75, z76, z77, z78, z79, z80, z81, z82, zg0, zg1, y0, y1, y2, y3, y4, y5, y6, y7, y8, y9, y10, y12, sg0, sg1, sg2, sg3, sg4, sn0, sn1, sn2, sn3, sn4, sn5, sn6, sn7, sn8, sn9, sp1, sp4, si0, si1, si2, si3, si4, sl0, sl1, sl2, sl3, sl4, y19, y20, zipJ_tt, zipJ_lt, y28a, y30a, y32b, y32c, isCD_t, isCD_s, y38c, y40a, wVar, wFrz, wC, wNil, wCons, w1, w2, w3, wAp, opD, cmD, oNeg, wB, wNotT, boolW, wAndT, wOrT, wNotV, boolV, wAndV, wOrV, wIte, wNo, wSo, wSl, wTup, wLst, wThw, wLof, wCat, wRep, wIsi, wM1, wIseq, wR1, wR2, wZip_eq, wEnum, wYes, wComp, wSkip, wSeq, wExpr, wRet, wCont, wSet, wAsg, wPar, wSub, wIf, wFor, wRaise, wCall, wTry, wIsX, wIsVE, wLofS, wFld, wSetF, wMet0, wDead, wSub2, setO, wJn, wJc, wPutD, wSumL, seqOf_tup, seqOf_lst, seqOf_scr, lstOf_lst, lstOf_scr, lstX_lst, tupOf_tup, srcOf_tup, srcOf_lst, srcOf_scr, srcOf_han, srcOk_nil, srcOk_cons, oAdd_ii, oAdd_ss, oAdd_tt, oAdd_ll, oSub_ii, oMul_ii, oMul_ti, oMul_si, oDiv_ii, oMod_ii, oPow_ii, oNeg_i, oEq_ii, oNe_ii, oEq_ss, oNe_ss, oI_ii, oIs_n, oIsNot_n, oIs_b, oIsNot_b, isNon_n, isNon_b, isNon_i, isNon_s, isNon_t, isNon_l, isNon_h, oIx_t, oIx_l, oIx_s, oLen_t, oLen_l, oLen_s, oLen_str, oAbs_i, oTuple_l, oTuple_t, oSl_t, oSl_l, oInt_i, oInt_b, wipeD_nil, wipeD_cons, range_3, range_2, range_1, enumD_nil, enumD_1, enumD_2, enumD_3, zipD_nil, zipD_cons, oMin_ii, oNe_iN, oEq_iN, ctOf, startD, List.map_cons, List.map_nil, List.length_cons, List.length_nil, List.cons_append, List.nil_append, List.append_nil, List.replicate, Nat.reduceAdd, Nat.reduceSub, Nat.sub_self, Nat.zero_add, List.getElem?_cons_zero, List.getElem?_cons_succ, List.getElem?_nil, List.set_cons_zero, List.set_cons_succ, ex_eq, ex_and, Option.some.injEq, exists_eq_left', exists_eq_left, exists_eq_right, D.bl.injEq, D.int.injEq, D.str.injEq, D.tup.injEq, D.lst.injEq, D.han.injEq, O.ins.injEq, O.lst.injEq, O.dct.injEq, atI_0, atI_1, atI_2, reduceIte, zip_tt, zip_ll, ty_n, ty_b, ty_i, ty_s, ty_t, ty_l, ty_f, kit_ii, kit_ib, kit_bb, kit_bi, kit_it, kit_tt, kit_ti, kit_tb, kit_lt, kit_li, kit_st, kit_si, kit_ss, kit_nt, kit_ni, kit_fi, kit_ft, kit_is, kit_ns, kit_bt, oLen_V, Int.toNat_natCast, cut_t0, cut_t1, cut_t2, cut_f1, cut_f2, cut_f3, m2_0, m2_1, m2_2, List.take_succ_cons, List.take_zero, List.drop_succ_cons, List.drop_zero, List.take_nil, List.drop_nil, decide_true, decide_false, Bool.not_true, Bool.not_false, if_true, if_false, Bool.false_eq_true, Int.cast_ofNat_Int, Int.reduceEq, Int.reduceLT, Int.reduceLE, Int.reduceToNat, Int.reduceNeg, Nat.reduceEqDiff, decide_eq_true_eq, true_and, and_true, List.cons.injEq, and_self, Int.reduceSub, Int.reduceAdd, Int.reduceMul])
/-! ### k12: the helpers for greater numbers -/
def c_solvedW : Ct := fun ds S Q _ => ∃ (R : List (List Int)) (v : List Int), ds = [.tup (R.map VE), VE v] ∧ SqM 2000 R ∧ VecOk 190000 R.length v ∧ ∀ S', Gr S S' → Q (.lst ((sol R v).map .int)) S'
def c_whole_coefficientsW : Ct := fun ds S Q _ => ∃ (R : List (List Int)) (v : List Int), ds = [.tup (R.map VE), VE v] ∧ SqM 2000 R ∧ VecOk 190000 R.length v ∧ detL R ≠ 0 ∧ ∀ S', Gr S S' → Q (if Whole R v then VE (wc R v) else .non) S'
theorem whole_coefficients_W : ∀ ds S Q X, c_whole_coefficients ds S Q X → c_whole_coefficientsW ds S Q X := fun ds S Q X ⟨R, v, h1, h2, h3, h⟩ => ⟨R, v, h1, h2, h3.mono (by omega), h⟩
def c_is_other_basisW : Ct := fun ds S Q _ => ∃ R d, ds = [.tup (R.map VE), d] ∧ SqM 2000 R ∧ detL R ≠ 0 ∧ okOB 190000 d ∧ ∀ S', Gr S S' → Q (.bl (isOB R d)) S'
def c__law_hasW : Ct := fun ds S Q _ => ∃ (R : List (List Int)) (v : List Int), ds = [.tup (R.map VE), VE v] ∧ SqM 2000 R ∧ VecOk 190000 R.length v ∧ detL R ≠ 0 ∧ Q (.bl (decide (Whole R v))) S
def c__law_spansW : Ct := fun ds S Q _ => ∃ (R T : List (List Int)) (d : D), ds = [.tup (R.map VE), d] ∧ (d = .tup (T.map VE) ∨ d = .lst (T.map VE)) ∧ SqM 2000 R ∧ SqM 190000 T ∧ T.length = R.length ∧ detL R ≠ 0 ∧ Q (.bl (decide (Spans R T))) S
/-- solvedW -/
def N_solvedW : List Str := ["basis", "vector", "found", "place", "rows", "other", "row"]
def b_solvedW : DB := (DB.cons (DS.set 2 (DE.thw (DL.dis DA.nil)))
  (DB.cons (DS.for (DG.nm 3) (DI.range1 (DE.len (DA.cons (DE.var 0) DA.nil))) (DB.cons (DS.setC 4 [("other", 5), ("row", 6)] (DG.tp (DGs.cons 5 (DGs.cons 6 DGs.nil))) (DI.enum (DE.var 0)) DF.no (DE.ite (DT.cmp .Eq (DE.var 5) (DE.var 3)) (DE.var 1) (DE.var 6)))
  (DB.cons (DS.expr (DE.append (DE.var 2) (DE.call "determinant" c_determinant (DA.cons (DE.var 4) DA.nil))))
  DB.nil)))
  (DB.cons (DS.ret (DE.frz 2))
  DB.nil)))
/-- whole_coefficientsW -/
def N_whole_coefficientsW : List Str := ["basis", "vector", "whole", "found", "entry"]
def b_whole_coefficientsW : DB := (DB.cons (DS.set 2 (DE.call "determinant" c_determinant (DA.cons (DE.var 0) DA.nil)))
  (DB.cons (DS.set 3 (DE.call "solved" c_solvedW (DA.cons (DE.var 0) (DA.cons (DE.var 1) DA.nil))))
  (DB.cons (DS.iff (DT.val (DE.any (DA.cons (DE.lst (DL.comp [("entry", 4)] (DG.nm 4) (DI.seq (DE.var 3)) DF.no (DE.cmp .NotEq (DE.op .Mod (DE.var 4) (DE.var 2)) (DE.con (.int 0))))) DA.nil))) (DB.cons (DS.ret (DE.con .non))
  DB.nil) DB.nil)
  (DB.cons (DS.ret (DE.tuple (DA.cons (DE.lst (DL.comp [("entry", 4)] (DG.nm 4) (DI.seq (DE.var 3)) DF.no (DE.op .FloorDiv (DE.var 4) (DE.var 2)))) DA.nil)))
  DB.nil))))
/-- is_other_basisW -/
def N_is_other_basisW : List Str := ["basis", "value", "row"]
def b_is_other_basisW : DB := (DB.cons (DS.iff (DT.bool (DW.cons (DT.not (DT.val (DE.call "are_vectors" c_are_vectors (DA.cons (DE.len (DA.cons (DE.var 0) DA.nil)) (DA.cons (DE.var 1) DA.nil))))) (DW.one .Or (DT.cmp .NotEq (DE.abs (DA.cons (DE.call "determinant" c_determinant (DA.cons (DE.var 1) DA.nil)) DA.nil)) (DE.abs (DA.cons (DE.call "determinant" c_determinant (DA.cons (DE.var 0) DA.nil)) DA.nil)))))) (DB.cons (DS.ret (DE.con (.bl false)))
  DB.nil) DB.nil)
  (DB.cons (DS.ret (DE.all (DA.cons (DE.lst (DL.comp [("row", 2)] (DG.nm 2) (DI.seq (DE.var 1)) DF.no (DE.cmp .IsNot (DE.call "whole_coefficients" c_whole_coefficientsW (DA.cons (DE.var 0) (DA.cons (DE.var 2) DA.nil))) (DE.con .non)))) DA.nil)))
  DB.nil))
/-- _law_hasW -/
def N__law_hasW : List Str := ["basis", "vector", "whole", "k", "rows"]
def b__law_hasW : DB := (DB.cons (DS.set 2 (DE.call "_law_det" c__law_det (DA.cons (DE.var 0) DA.nil)))
  (DB.cons (DS.for (DG.nm 3) (DI.range1 (DE.len (DA.cons (DE.var 0) DA.nil))) (DB.cons (DS.set 4 (DE.op .Add (DE.lst (DL.lof (DA.cons (DE.sl (DE.var 0) DO.no (DO.so (DE.var 3))) DA.nil))) (DE.lst (DL.dis (DA.cons (DE.var 1) DA.nil)))))
  (DB.cons (DS.iff (DT.cmp .NotEq (DE.op .Mod (DE.call "_law_det" c__law_det (DA.cons (DE.op .Add (DE.var 4) (DE.lst (DL.lof (DA.cons (DE.sl (DE.var 0) (DO.so (DE.op .Add (DE.var 3) (DE.con (.int 1)))) DO.no) DA.nil)))) DA.nil)) (DE.var 2)) (DE.con (.int 0))) (DB.cons (DS.ret (DE.con (.bl false)))
  DB.nil) DB.nil)
  DB.nil)))
  (DB.cons (DS.ret (DE.con (.bl true)))
  DB.nil)))
/-- _law_spansW -/
def N__law_spansW : List Str := ["basis", "rows", "row"]
def b__law_spansW : DB := (DB.cons (DS.iff (DT.bool (DW.cons (DT.cmp .NotEq (DE.len (DA.cons (DE.var 1) DA.nil)) (DE.len (DA.cons (DE.var 0) DA.nil))) (DW.one .Or (DT.cmp .NotEq (DE.lst (DL.comp [("row", 2)] (DG.nm 2) (DI.seq (DE.var 1)) (DF.one (DT.cmp .NotEq (DE.len (DA.cons (DE.var 2) DA.nil)) (DE.len (DA.cons (DE.var 0) DA.nil)))) (DE.var 2))) (DE.lst (DL.dis DA.nil)))))) (DB.cons (DS.ret (DE.con (.bl false)))
  DB.nil) DB.nil)
  (DB.cons (DS.ret (DE.bool (DV.cons (DE.cmp .Eq (DE.abs (DA.cons (DE.call "_law_det" c__law_det (DA.cons (DE.var 1) DA.nil)) DA.nil)) (DE.abs (DA.cons (DE.call "_law_det" c__law_det (DA.cons (DE.var 0) DA.nil)) DA.nil))) (DV.one .And (DE.cmp .Eq (DE.lst (DL.comp [("row", 2)] (DG.nm 2) (DI.seq (DE.var 1)) (DF.one (DT.not (DT.val (DE.call "_law_has" c__law_hasW (DA.cons (DE.var 0) (DA.cons (DE.var 2) DA.nil)))))) (DE.var 2))) (DE.lst (DL.dis DA.nil)))))))
  DB.nil))
theorem w_solvedW {ds : List D} {S : Sto} {Q : QD} {X : XD} (h : c_solvedW ds S Q X) : ctOf N_solvedW.length b_solvedW ds S Q X := by
  obtain ⟨R, v, rfl, hs, hv, h⟩ := h
  have hl := hs.2.1
  unfold b_solvedW N_solvedW
  walk_at "wp"
  rw [List.length_map]
  refine ⟨by omega, by omega, ?_⟩
  refine forGo_inv (fun ds env S' => ∃ (p : Nat) (a3 a4 a5 a6 : Option D), p ≤ R.length ∧ ds = ((List.range R.length).drop p).map (fun i => .int (i : Nat)) ∧
    env = [some (.tup (R.map VE)), some (VE v), some (.han S.length), a3, a4, a5, a6] ∧ S' = S ++ [.lst (((List.range p).map fun k => detL (R.set k v)).map .int)]) ?_ ?_ _ _ _ ?_
  · rintro d1 ds1 env1 S1 ⟨p, a3, a4, a5, a6, hp, hds, rfl, rfl⟩
    have hpn : p < R.length := by
      by_cases e : p < R.length
      · exact e
      · rw [List.drop_eq_nil_of_le (by simpa using e)] at hds; cases hds
    rw [List.drop_eq_getElem_cons (by simpa using hpn)] at hds
    simp only [List.getElem_range, List.map_cons, List.cons.injEq] at hds
    obtain ⟨rfl, rfl⟩ := hds
    refine ⟨trivial, _, rfl, fun nx hnx => ?_⟩
    walk_at "wp"
    rw [enum_map]
    refine ⟨by simp only [List.length_map, List.length_zipIdx]; exact szLe (by omega), compGo_all0 _ (fun q => if q.2 = p then VE v else VE q.1) R.zipIdx (fun q hq => ⟨_, rfl, fun Qd hq => ?_⟩) ?_⟩
    · walk_at "wp"
      by_cases e : q.2 = p
      · rw [if_pos e] at hq
        rw [if_pos (by omega)]
        exact hq
      · rw [if_neg e] at hq
        rw [if_neg (by omega)]
        exact hq
    have e1 : (R.zipIdx.map fun q => if q.2 = p then VE v else VE q.1) = (R.set p v).map VE := by
      rw [← zip_set, List.map_map]
      apply List.map_congr_left
      intro q _
      simp only [Function.comp_apply]
      split <;> rfl
    rw [e1]
    walk_at "wp"
    refine ⟨st_rec _ _, R.set p v, _, rfl, .inr rfl, (sq_set (hs.mono (by omega)) hv p).mono (by omega), ?_⟩
    refine st_app _ _ _ _ (by simp only [List.length_map, List.length_range]; have : R.length < sizeLine := Nat.lt_of_lt_of_le (by omega : R.length < 4) (szLe (by omega))
                              omega) ?_
    refine hnx _ _ ⟨p + 1, _, _, _, _, by omega, rfl, rfl, ?_⟩
    rw [List.range_succ]
    simp
  · rintro env1 S1 ⟨p, a3, a4, a5, a6, hp, hds, rfl, rfl⟩
    have hpn : p = R.length := by
      by_cases e : p < R.length
      · rw [List.drop_eq_getElem_cons (by simpa using e)] at hds
        cases hds
      · omega
    subst hpn
    refine ⟨trivial, ?_⟩
    walk_at "wp"
    refine ⟨_, st_get _ _, ?_⟩
    rw [st_set]
    exact h _ ⟨_, rfl⟩
  · exact ⟨0, none, none, none, none, by omega, by simp [rangeD], rfl, rfl⟩
theorem w_whole_coefficientsW {ds : List D} {S : Sto} {Q : QD} {X : XD} (h : c_whole_coefficientsW ds S Q X) : ctOf N_whole_coefficientsW.length b_whole_coefficientsW ds S Q X := by
  obtain ⟨R, v, rfl, hs, hv, hd, h⟩ := h
  have hl := hs.2.1
  have hsl : (sol R v).length = R.length := by simp [sol]
  unfold b_whole_coefficientsW N_whole_coefficientsW
  walk_at "wp"
  refine ⟨R, _, rfl, .inl rfl, hs.mono (by omega), R, v, rfl, hs, hv, fun S' hS => ?_⟩
  walk_at "wp"
  refine ⟨by rw [List.length_map]; exact szLe (by omega), compGo_all0 D.int (fun x => .bl (!decide (x.fmod (detL R) = 0))) (sol R v) (fun x hx => ⟨_, rfl, fun Qd hq => ?_⟩) ?_⟩
  · walk_at "wp"
    exact ⟨hd, hq⟩
  rw [show (sol R v).map (fun x => D.bl (!decide (x.fmod (detL R) = 0))) = ((sol R v).map (fun x => !decide (x.fmod (detL R) = 0))).map D.bl by simp]
  refine oAny_l _ _ _ ⟨_, rfl, ?_⟩
  have hh := h S' hS
  by_cases w : Whole R v
  · rw [if_pos w] at hh
    have : ¬ ((sol R v).map (fun x => !decide (x.fmod (detL R) = 0))).any id = true := by
      simp only [List.any_map, List.any_eq_true, not_exists, not_and]
      intro x hx
      simp [w x hx]
    rw [if_neg this]
    refine ⟨by rw [List.length_map]; exact szLe (by omega), compGo_all0 D.int (fun x => .int (x.fdiv (detL R))) (sol R v) (fun x hx => ⟨_, rfl, fun Qd hq => ?_⟩) ?_⟩
    · walk_at "wp"
      exact ⟨(sm_detL hs).div hd (by omega), hq⟩
    · walk_at "wp"
      rw [show (sol R v).map (fun x => D.int (x.fdiv (detL R))) = (wc R v).map D.int by simp [wc]]
      exact hh
  · rw [if_neg w] at hh
    have : ((sol R v).map (fun x => !decide (x.fmod (detL R) = 0))).any id = true := by
      unfold Whole at w
      simp only [Classical.not_forall] at w
      obtain ⟨x, hx, w⟩ := w
      simp only [List.any_map, List.any_eq_true]
      exact ⟨x, hx, by simp [w]⟩
    rw [if_pos this]
    exact hh
theorem w_is_other_basisW {ds : List D} {S : Sto} {Q : QD} {X : XD} (h : c_is_other_basisW ds S Q X) : ctOf N_is_other_basisW.length b_is_other_basisW ds S Q X := by
  obtain ⟨R, d, rfl, hR, hd, ok, h⟩ := h
  unfold b_is_other_basisW N_is_other_basisW
  walk_at "wp"
  rw [List.length_map]
  refine ⟨_, _, rfl, ok.1, ?_⟩
  cases e : isAVD R.length d with
  | false =>
    refine ⟨_, rfl, ?_⟩
    rw [if_pos (by simp)]
    have := h S (Gr.refl S)
    unfold isOB at this
    rw [e] at this
    exact this
  | true =>
    refine ⟨_, rfl, ?_⟩
    rw [if_neg (by simp)]
    obtain ⟨e1, e2, e3⟩ := isAV_inv e
    have hT : SqM 190000 (toM d) := ⟨by rw [e2]; exact hR.1, by rw [e2]; exact hR.2.1, fun v hv => ⟨by rw [e3 v hv, e2], ok.2 v hv⟩⟩
    generalize toM d = T at *
    subst e1
    refine ⟨T, _, rfl, .inl rfl, hT.mono (by omega), ?_⟩
    walk_at "wp"
    refine ⟨R, _, rfl, .inl rfl, hR.mono (by omega), ?_⟩
    walk_at "wp"
    by_cases ea : (detL T).natAbs = (detL R).natAbs
    · simp only [ea, decide_true, Bool.not_true, Bool.false_eq_true, if_false]
      refine ⟨by rw [List.length_map]; exact szLe (by have := hT.2.1; omega), ?_⟩
      refine compGo_gr VE (fun v => .bl (decide (Whole R v))) T [] S (fun v hv S1 _ => ⟨_, rfl, fun Qd hq => ?_⟩) fun S1 hg => ?_
      · walk_at "wp"
        refine ⟨R, v, rfl, hR, ⟨by rw [(hT.2.2 v hv).1, e2], (hT.2.2 v hv).2⟩, hd, fun S2 hg => ?_⟩
        by_cases w : Whole R v
        · rw [if_pos w]
          exact ⟨_, rfl, by have := hq S2 hg; rw [decide_eq_true w] at this; exact this⟩
        · rw [if_neg w]
          exact ⟨_, rfl, by have := hq S2 hg; rw [decide_eq_false w] at this; exact this⟩
      · have e5 : (T.map fun v => D.bl (decide (Whole R v))) = (T.map fun v => decide (Whole R v)).map .bl := by simp
        rw [List.nil_append, e5]
        refine oAll_l _ _ _ ?_
        have := h S1 hg
        unfold isOB at this
        rw [e, Bool.true_and, toM_M] at this
        have e6 : (T.map fun v => decide (Whole R v)).all id = decide (Spans R T) := by
          rw [Bool.eq_iff_iff]
          simp [List.all_eq_true, Spans, ea]
        rw [e6]; exact this
    · have ea' : ¬ ((detL T).natAbs : Int) = (detL R).natAbs := fun z => ea (by omega)
      simp only [ea', decide_false, Bool.not_false, if_true]
      have := h S (Gr.refl S)
      unfold isOB at this
      rw [e, Bool.true_and, toM_M] at this
      have e6 : decide (Spans R T) = false := by simp [Spans, ea]
      rw [e6] at this; exact this
theorem w__law_hasW {ds : List D} {S : Sto} {Q : QD} {X : XD} (h : c__law_hasW ds S Q X) : ctOf N__law_hasW.length b__law_hasW ds S Q X := by
  obtain ⟨R, v, rfl, hs, hv, hd, h⟩ := h
  have h3 := hs.2.1
  unfold b__law_hasW N__law_hasW
  walk_at "wp"
  refine ⟨R, _, rfl, rfl, hs.mono (by omega), ?_⟩
  simp only [List.length_map]
  refine ⟨by omega, by omega, ?_⟩
  rw [range_map]
  refine forGo_inv (fun ds env S' => S' = S ∧ ∃ (p : Nat) (a3 a4 : Option D), p ≤ R.length ∧ ds = ((List.range R.length).drop p).map (fun i => .int (i : Nat)) ∧
    env = [some (.tup (R.map VE)), some (VE v), some (.int (detL R)), a3, a4] ∧ ∀ k, k < p → (detL (R.set k v)).fmod (detL R) = 0) ?_ ?_ _ _ _ ⟨rfl, 0, none, none, by omega, by simp, rfl, fun k hk => by omega⟩
  · rintro d1 ds1 env1 S1 ⟨rfl, p, a3, a4, hp, hds, rfl, hI⟩
    have hpn : p < R.length := by
      by_cases e : p < R.length
      · exact e
      · rw [List.drop_eq_nil_of_le (by simpa using e)] at hds; cases hds
    rw [List.drop_eq_getElem_cons (by simpa using hpn)] at hds
    simp only [List.getElem_range, List.map_cons, List.cons.injEq] at hds
    obtain ⟨rfl, rfl⟩ := hds
    refine ⟨trivial, _, rfl, fun nx hnx => ?_⟩
    walk_at "wp"
    rw [show (p : Int) + 1 = ((p + 1 : Nat) : Int) by omega, cut_to, cut_from, ← List.map_take, ← List.map_drop]
    refine ⟨by simp only [List.length_map, List.length_take]; exact szLe (by omega), by simp only [List.length_map, List.length_take, List.length_append, List.length_drop, List.length_cons, List.length_nil]; exact szLe (by omega), ?_⟩
    refine ⟨R.set p v, _, rfl, ?_, (sq_set (hs.mono (by omega)) hv p).mono (by omega), ?_⟩
    · rw [← set_take hpn v]
      simp [seqOf_lst]
    walk_at "wp"
    refine ⟨hd, ?_⟩
    by_cases e : (detL (R.set p v)).fmod (detL R) = 0
    · simp only [e, not_true, if_false, decide_true, Bool.not_true, Bool.false_eq_true]
      refine hnx _ _ ⟨rfl, p + 1, _, _, by omega, rfl, rfl, fun k hk => ?_⟩
      by_cases ek : k < p
      · exact hI k ek
      · rw [show k = p by omega]; exact e
    · have : ¬ Whole R v := fun w => e (w _ (by unfold sol; exact List.mem_map.mpr ⟨p, List.mem_range.mpr hpn, rfl⟩))
      simp only [e, not_false_eq_true, if_true, decide_false, Bool.not_false]
      simpa [this] using h
  · rintro env1 S1 ⟨rfl, p, a3, a4, hp, hds, rfl, hI⟩
    have hpn : p = R.length := by
      by_cases e : p < R.length
      · rw [List.drop_eq_getElem_cons (by simpa using e)] at hds
        cases hds
      · omega
    subst hpn
    refine ⟨trivial, ?_⟩
    walk_at "wp"
    have : Whole R v := fun x hx => by
      unfold sol at hx
      obtain ⟨k, hk, rfl⟩ := List.mem_map.mp hx
      exact hI k (List.mem_range.mp hk)
    simpa [this] using h
theorem w__law_spansW {ds : List D} {S : Sto} {Q : QD} {X : XD} (h : c__law_spansW ds S Q X) : ctOf N__law_spansW.length b__law_spansW ds S Q X := by
  obtain ⟨R, T, d, rfl, e0, hs, ht, hl, hd, h⟩ := h
  rcases e0 with rfl | rfl
  all_goals
    have h3 := hs.2.1
    unfold b__law_spansW N__law_spansW
    walk_at "wp"
    simp only [List.length_map, hl]
    walk_at "wp"
    refine ⟨szLe (by omega), compGo_map0 VE (fun _ => false) VE T (fun v hv => ⟨_, rfl, fun Qb hq => ?_, fun e => (by cases e)⟩) ?_⟩
    · have lv := (ht.2.2 v hv).1
      walk_at "wp"
      simp only [List.length_map, lv, hl, decide_true, Bool.not_true]
      exact hq
    rw [show T.filter (fun _ => false) = [] by simp]
    refine oNe_Ml [] [] _ _ ⟨_, rfl, ?_⟩
    simp only [decide_true, Bool.not_true, Bool.false_eq_true, if_false]
    refine ⟨T, _, rfl, rfl, ht.mono (by omega), ?_⟩
    walk_at "wp"
    refine ⟨R, _, rfl, rfl, hs.mono (by omega), ?_⟩
    walk_at "wp"
    by_cases e : (detL T).natAbs = (detL R).natAbs
    · rw [if_pos (by omega)]
      refine ⟨szLe (by omega), compGo_map0 VE (fun v => !decide (Whole R v)) VE T (fun v hv => ⟨_, rfl, fun Qb hq => ?_, fun _ Qd hq => ?_⟩) ?_⟩
      · walk_at "wp"
        refine ⟨R, v, rfl, hs, ?_, hd, ?_⟩
        · have := ht.2.2 v hv
          exact ⟨by omega, this.2⟩
        · walk_at "wp"
          exact hq
      · walk_at "wp"
        exact hq
      · refine oEq_Ml _ [] _ _ ?_
        have : (T.filter (fun v => !decide (Whole R v)) = []) ↔ Spans R T := by
          rw [List.filter_eq_nil_iff]
          constructor
          · intro q
            refine ⟨e, fun v hv => ?_⟩
            simpa using q v hv
          · intro q v hv
            simpa using q.2 v hv
        simpa [this] using h
    · rw [if_neg (by omega)]
      have : ¬ Spans R T := fun q => e q.1
      simpa [this] using h
/-! ### the walk of the program's judge -/
def isMB (O T : List (List Int)) (g : List Int) (d : D) : Bool := isOB T d && decide (Spans O (scB g (toM d)))
def c_is_matched_basis : Ct := fun ds S Q X => ∃ a b d, ds = [a, b, d] ∧ onMat a b S X fun O T n s S' => okOB 180000 d ∧ (∀ x ∈ diagL n s.M, Sm 100 x) ∧ ∀ S2, Gr S' S2 → Q (.bl (isMB O T (diagL n s.M) d)) S2
/-- is_matched_basis -/
def N_is_matched_basis : List Str := ["one", "other", "value", "rows", "number", "row", "entry"]
def b_is_matched_basis_f3 : DB := (DB.cons (DS.expr (DE.append (DE.var 3) (DE.tuple (DA.cons (DE.lst (DL.comp [("entry", 6)] (DG.nm 6) (DI.seq (DE.var 5)) DF.no (DE.op .Mult (DE.var 4) (DE.var 6)))) DA.nil))))
  DB.nil)
def b_is_matched_basis_c3 : DB := (DB.cons (DS.for (DG.tp (DGs.cons 4 (DGs.cons 5 DGs.nil))) (DI.zip (DE.ix (DE.call "matched" c_matched (DA.cons (DE.var 0) (DA.cons (DE.var 1) DA.nil))) (DE.con (.int 0))) (DE.var 2)) b_is_matched_basis_f3)
  (DB.cons (DS.ret (DE.call "is_other_basis" c_is_other_basisW (DA.cons (DE.var 0) (DA.cons (DE.tuple (DA.cons (DE.var 3) DA.nil)) DA.nil))))
  DB.nil))
def b_is_matched_basis : DB := (DB.cons (DS.expr (DE.call "check_part" c_check_part (DA.cons (DE.var 0) (DA.cons (DE.var 1) DA.nil))))
  (DB.cons (DS.iff (DT.bool (DW.cons (DT.not (DT.val (DE.call "are_vectors" c_are_vectors (DA.cons (DE.len (DA.cons (DE.var 0) DA.nil)) (DA.cons (DE.var 2) DA.nil))))) (DW.one .Or (DT.not (DT.val (DE.call "is_other_basis" c_is_other_basisW (DA.cons (DE.var 1) (DA.cons (DE.var 2) DA.nil)))))))) (DB.cons (DS.ret (DE.con (.bl false)))
  DB.nil) DB.nil)
  (DB.cons (DS.set 3 (DE.thw (DL.dis DA.nil)))
  b_is_matched_basis_c3)))
theorem w_is_matched_basis {ds : List D} {S : Sto} {Q : QD} {X : XD} (h : c_is_matched_basis ds S Q X) : ctOf N_is_matched_basis.length b_is_matched_basis ds S Q X := by
  obtain ⟨a, b, d, rfl, h⟩ := h
  unfold b_is_matched_basis N_is_matched_basis
  walk_at "wpc"
  refine h.chk fun O T S1 ea eb hO hT el wh g1 q => ?_
  subst ea eb
  obtain ⟨n, c, s, lO, lT, run, sq, lB, q⟩ := q
  obtain ⟨ok, sd, q⟩ := q S1 (Gr.refl S1)
  walk_at "wpc"
  rw [List.length_map, lO]
  refine ⟨_, _, rfl, ok.1, ?_⟩
  have no : ∀ S2, Gr S1 S2 → isOB T d = false → Q (.bl false) S2 := fun S2 g2 e => by
    have := q S2 g2
    unfold isMB at this
    rw [e] at this
    exact this
  cases e : isAVD n d with
  | false =>
    refine ⟨_, rfl, ?_⟩
    rw [if_pos (by simp)]
    exact no S1 (Gr.refl S1) (by unfold isOB; rw [lT, e]; rfl)
  | true =>
    refine ⟨_, rfl, ?_⟩
    rw [if_neg (by simp)]
    refine ⟨T, d, rfl, hT.sq.mono (by omega), hT.2.2.2, ⟨ok.1, fun v hv x hx => (ok.2 v hv x hx).mono (by omega)⟩, fun S2 g2 => ?_⟩
    cases e2 : isOB T d with
    | false =>
      refine ⟨_, rfl, ?_⟩
      rw [if_pos (by simp)]
      exact no S2 g2 e2
    | true =>
      refine ⟨_, rfl, ?_⟩
      rw [if_neg (by simp)]
      obtain ⟨e3, e4, e5⟩ := isAV_inv e
      have hV : ∀ v ∈ toM d, ∀ x ∈ v, Sm 180000 x := ok.2
      have q2 : ∀ S3, Gr S1 S3 → Q (.bl (decide (Spans O (scB (diagL n s.M) (toM d))))) S3 := fun S3 g3 => by
        have := q S3 g3
        unfold isMB at this
        rw [e2, Bool.true_and] at this
        exact this
      generalize toM d = V at *
      subst e3
      unfold b_is_matched_basis_c3
      walk_at "wpc"
      refine ⟨O, T, n, c, s, rfl, hO, hT, lO, lT, wh, run, sq, lB, fun S3 g3 => ?_⟩
      unfold matD
      walk_at "wpc"
      rw [VE_eq (diagL n s.M)]
      walk_at "wpc"
      rw [zipD_map]
      have h0 : (S2 ++ [DLay.O.lst []])[S2.length]? = some (.lst []) := by simp
      obtain ⟨J, rfl⟩ := g3
      have lg : (diagL n s.M).length = n := by simp [diagL]
      have n3 : n ≤ 3 := by rw [← lO]; exact hO.2.1
      refine forGo_pre (fun p : Int × List Int => .tup [.int p.1, VE p.2]) ((diagL n s.M).zip V) (fun pre env S' => ∃ a4 a5 a6 : Option D, env = [some (.tup (O.map VE)), some (.tup (T.map VE)), some (.tup (V.map VE)), some (.han S2.length), a4, a5, a6] ∧ S'[S2.length]? = some (.lst ((pre.map fun p => smul p.1 p.2).map VE)) ∧ Gr S2 S') ?_ ?_ ⟨_, _, _, rfl, by rw [List.append_assoc, List.getElem?_append_right (Nat.le_refl _)]; simp, ⟨[DLay.O.lst []] ++ J, by rw [List.append_assoc]⟩⟩
      · rintro pre p post he env1 S3 ⟨a4, a5, a6, rfl, hk, g4⟩
        have hp : p ∈ (diagL n s.M).zip V := by rw [he]; simp
        obtain ⟨m1, m2⟩ := List.of_mem_zip hp
        have lp := e5 p.2 m2
        have ll : pre.length < ((diagL n s.M).zip V).length := by rw [he]; simp
        rw [List.length_zip, lg] at ll
        refine ⟨trivial, _, rfl, fun nx hnx => ?_⟩
        unfold b_is_matched_basis_f3
        rw [VE_eq p.2]
        walk_at "wpc"
        refine ⟨by unfold recD; simp [hk], by rw [List.length_map, lp]; exact szLe (by omega), ?_⟩
        refine compGo_all0 D.int (fun x => .int (p.1 * x)) p.2 (fun x hx => ⟨_, rfl, fun Qd hq => ?_⟩) ?_
        · walk_at "wpc"
          exact ⟨(sd _ m1).ok (hV _ m2 x hx) (by omega), hq⟩
        walk_at "wpc"
        rw [show (p.2.map fun x => D.int (p.1 * x)) = (smul p.1 p.2).map .int by rw [smul, List.map_map]; rfl]
        refine ⟨_, hk, by rw [List.length_map, List.length_map]; have : (4 : Nat) ≤ sizeLine := szLe (by omega)
                          omega, ?_⟩
        refine hnx _ _ ⟨_, _, _, rfl, ?_, ?_⟩
        · rw [List.getElem?_set_self (List.getElem?_eq_some_iff.mp hk).1]
          simp [VE_eq]
        · obtain ⟨J', rfl⟩ := g4
          refine ⟨J'.set 0 (.lst ((pre.map fun p => smul p.1 p.2).map VE ++ [.tup ((smul p.1 p.2).map .int)])), ?_⟩
          rw [List.set_append_right _ _ (Nat.le_refl _), Nat.sub_self]
      · rintro env1 S3 ⟨a4, a5, a6, rfl, hk, g4⟩
        refine ⟨trivial, ?_⟩
        walk_at "wpc"
        have sk : seqOf S3 (.han S2.length) = some ((scB (diagL n s.M) V).map VE) := by
          unfold seqOf tupOf lstOf scB
          simp [hk]
        refine ⟨_, sk, ?_⟩
        have hB : Sqr n V := ⟨by rw [← lO]; exact hO.1, n3, e4, e5⟩
        have ss := scB_sqr (d := diagL n s.M) lg hB
        refine ⟨O, _, rfl, hO.sq.mono (by omega), hO.2.2.2, ⟨?_, fun v hv x hx => ?_⟩, fun S4 g5 => ?_⟩
        · exact okBas_M (by rw [ss.2.2.1]; omega) fun v hv => by rw [ss.2.2.2 v hv]; omega
        · rw [toM_M] at hv
          obtain ⟨p, hp, rfl⟩ := List.mem_map.mp hv
          obtain ⟨m1, m2⟩ := List.of_mem_zip hp
          obtain ⟨y, hy, rfl⟩ := List.mem_map.mp hx
          exact ((sd _ m1).mul (hV _ m2 y hy)).mono (by omega)
        · have := q2 S4 ((g2.trans g4).trans g5)
          have e6 : isOB O (.tup ((scB (diagL n s.M) V).map VE)) = decide (Spans O (scB (diagL n s.M) V)) := by
            unfold isOB
            rw [(isAV_M O.length _).mpr ⟨by rw [ss.2.2.1, lO], by rw [lO]; exact ss.2.2.2⟩, Bool.true_and, toM_M]
          rw [e6]
          exact this
/-! ### the walk of the law's judge -/
def c__law_is_matched : Ct := fun ds S Q _ => ∃ (n : Nat) (O T V : List (List Int)) (g : List Int), ds = [.tup (O.map VE), .tup (T.map VE), VE g, .tup (V.map VE)] ∧ SqM 2000 O ∧ SqM 2000 T ∧ SqM 180000 V ∧ O.length = n ∧ T.length = n ∧ V.length = n ∧ g.length = n ∧ (∀ x ∈ g, Sm 100 x) ∧ detL O ≠ 0 ∧ detL T ≠ 0 ∧ Q (.bl (decide (Spans T V) && decide (Spans O (scB g V)))) S
/-- _law_is_matched -/
def N__law_is_matched : List Str := ["one", "other", "numbers", "value", "rows", "row", "k", "entry"]
def b__law_is_matched_c2 : DB := (DB.cons (DS.setC 4 [("k", 6)] (DG.nm 6) (DI.range1 (DE.len (DA.cons (DE.var 3) DA.nil))) DF.no (DE.tuple (DA.cons (DE.lst (DL.comp [("entry", 7)] (DG.nm 7) (DI.seq (DE.ix (DE.var 3) (DE.var 6))) DF.no (DE.op .Mult (DE.ix (DE.var 2) (DE.var 6)) (DE.var 7)))) DA.nil)))
  (DB.cons (DS.ret (DE.call "_law_spans" c__law_spansW (DA.cons (DE.var 0) (DA.cons (DE.var 4) DA.nil))))
  DB.nil))
def b__law_is_matched : DB := (DB.cons (DS.iff (DT.bool (DW.cons (DT.cmp .NotEq (DE.len (DA.cons (DE.var 3) DA.nil)) (DE.len (DA.cons (DE.var 0) DA.nil))) (DW.one .Or (DT.cmp .NotEq (DE.lst (DL.comp [("row", 5)] (DG.nm 5) (DI.seq (DE.var 3)) (DF.one (DT.cmp .NotEq (DE.len (DA.cons (DE.var 5) DA.nil)) (DE.len (DA.cons (DE.var 0) DA.nil)))) (DE.var 5))) (DE.lst (DL.dis DA.nil)))))) (DB.cons (DS.ret (DE.con (.bl false)))
  DB.nil) DB.nil)
  (DB.cons (DS.iff (DT.not (DT.val (DE.call "_law_spans" c__law_spansW (DA.cons (DE.var 1) (DA.cons (DE.var 3) DA.nil))))) (DB.cons (DS.ret (DE.con (.bl false)))
  DB.nil) DB.nil)
  b__law_is_matched_c2))
theorem w__law_is_matched {ds : List D} {S : Sto} {Q : QD} {X : XD} (h : c__law_is_matched ds S Q X) : ctOf N__law_is_matched.length b__law_is_matched ds S Q X := by
  obtain ⟨n, O, T, V, g, rfl, hO, hT, hV, lO, lT, lV, lg, sg, dO, dT, h⟩ := h
  have n3 : n ≤ 3 := by rw [← lO]; exact hO.2.1
  unfold b__law_is_matched N__law_is_matched
  walk_at "wpc"
  simp only [List.length_map, lV, lO]
  walk_at "wpc"
  refine ⟨szLe (by omega), compGo_map0 VE (fun _ => false) VE V (fun v hv => ⟨_, rfl, fun Qb hq => ?_, fun e => (by cases e)⟩) ?_⟩
  · have lv := (hV.2.2 v hv).1
    walk_at "wpc"
    simp only [List.length_map, lv, lV, lO, decide_true, Bool.not_true]
    exact hq
  rw [show V.filter (fun _ => false) = [] by simp]
  refine oNe_Ml [] [] _ _ ⟨_, rfl, ?_⟩
  simp only [decide_true, Bool.not_true, Bool.false_eq_true, if_false]
  refine ⟨T, V, _, rfl, .inl rfl, hT, hV.mono (by omega), by omega, dT, ?_⟩
  by_cases e : Spans T V
  · refine ⟨_, rfl, ?_⟩
    rw [if_neg (by simp [e])]
    rw [decide_eq_true e, Bool.true_and] at h
    unfold b__law_is_matched_c2
    walk_at "wpc"
    rw [List.length_map, lV, range0]
    refine ⟨by omega, by omega, by rw [List.length_map, List.length_range]; exact szLe (by omega), ?_⟩
    refine compGo_all0 (fun i : Nat => .int ((i : Nat) : Int)) (fun i => VE (smul (gt g i) (row V i))) (List.range n) (fun i hi => ⟨_, rfl, fun Qd hq => ?_⟩) ?_
    · have hi : i < n := List.mem_range.mp hi
      have mv : V[i]'(by omega) ∈ V := List.getElem_mem _
      walk_at "wpc"
      refine ⟨VE (V[i]'(by omega)), by rw [atI_map, atI_some (by omega)]; rfl, ?_⟩
      refine ⟨(V[i]'(by omega)).map .int, rfl, by rw [List.length_map, (hV.2.2 _ mv).1]; exact szLe (by omega), ?_⟩
      refine compGo_all0 D.int (fun x => .int (gt g i * x)) (V[i]'(by omega)) (fun x hx => ⟨_, rfl, fun Qd hq' => ?_⟩) ?_
      · walk_at "wpc"
        rw [ix_V (by omega)]
        walk_at "wpc"
        exact ⟨(sg _ (by rw [gt_lt (by omega)]; exact List.getElem_mem _)).ok ((hV.2.2 _ mv).2 x hx) (by omega), hq'⟩
      walk_at "wpc"
      rw [row_lt (by omega)] at hq
      rw [show ((V[i]'(by omega)).map fun x => D.int (gt g i * x)) = (smul (gt g i) (V[i]'(by omega))).map .int by rw [smul, List.map_map]; rfl]
      exact hq
    have er : ((List.range n).map fun i => VE (smul (gt g i) (row V i))) = (scB g V).map VE := by
      apply List.ext_getElem
      · simp [scB, lg, lV]
      · intro i h1 h2
        have hi : i < n := by simpa using h1
        simp [scB, row_lt (show i < V.length by omega), gt_lt (show i < g.length by omega)]
    rw [er]
    refine ⟨O, scB g V, _, rfl, .inr rfl, hO, ?_, by simp [scB, lg, lV, lO], dO, ?_⟩
    · refine ⟨by simp [scB, lg, lV]; rw [← lO]; exact hO.1, by simp [scB, lg, lV]; exact n3, fun v hv => ?_⟩
      obtain ⟨p, hp, rfl⟩ := List.mem_map.mp hv
      obtain ⟨m1, m2⟩ := List.of_mem_zip hp
      refine ⟨by rw [smul_len, (hV.2.2 _ m2).1]; simp [scB, lg, lV], fun x hx => ?_⟩
      obtain ⟨y, hy, rfl⟩ := List.mem_map.mp hx
      exact ((sg _ m1).mul ((hV.2.2 _ m2).2 y hy)).mono (by omega)
    · exact h
  · refine ⟨_, rfl, ?_⟩
    rw [if_pos (by simp [e])]
    rw [decide_eq_false e, Bool.false_and] at h
    exact h
/-! ### greatest common divisors, minors -/
def c__law_shared : Ct := fun ds S Q _ => ∃ L : List Int, ds = [.lst (L.map .int)] ∧ Q (.int (gcdL L : Nat)) S
/-- _law_shared -/
def N__law_shared : List Str := ["numbers", "found", "number", "one", "other"]
def b__law_shared : DB := (DB.cons (DS.set 1 (DE.con (.int 0)))
  (DB.cons (DS.for (DG.nm 2) (DI.seq (DE.var 0)) (DB.cons (DS.par 3 4 (DE.abs (DA.cons (DE.var 2) DA.nil)) (DE.var 1))
  (DB.cons (DS.while (DT.cmp .Gt (DE.var 4) (DE.con (.int 0))) (DB.cons (DS.par 3 4 (DE.var 4) (DE.op .Mod (DE.var 3) (DE.var 4)))
  DB.nil))
  (DB.cons (DS.set 1 (DE.var 3))
  DB.nil))))
  (DB.cons (DS.ret (DE.var 1))
  DB.nil)))
theorem w__law_shared {ds : List D} {S : Sto} {Q : QD} {X : XD} (h : c__law_shared ds S Q X) : ctOf N__law_shared.length b__law_shared ds S Q X := by
  obtain ⟨L, rfl, h⟩ := h
  unfold b__law_shared N__law_shared
  walk_at "wpc"
  refine forGo_pre D.int L (fun pre env S' => ∃ a2 a3 a4 : Option D, env = [some (.lst (L.map .int)), some (.int (gcdL pre : Nat)), a2, a3, a4] ∧ S' = S) ?_ ?_ ⟨_, _, _, rfl, rfl⟩
  · rintro pre x post he env1 S1 ⟨a2, a3, a4, rfl, rfl⟩
    refine ⟨trivial, _, rfl, fun nx hnx => ?_⟩
    walk_at "wpc"
    refine while_inv (fun m env S' => ∃ a b : Int, m = b.natAbs ∧ 0 ≤ a ∧ 0 ≤ b ∧ Int.gcd a b = Nat.gcd x.natAbs (gcdL pre) ∧ env = [some (.lst (L.map .int)), some (.int (gcdL pre : Nat)), some (.int x), some (.int a), some (.int b)] ∧ S' = S1) ?_ ⟨_, _, rfl, by omega, by omega, by simp [Int.gcd], rfl, rfl⟩
    rintro m env S' ⟨a, b, rfl, ha, hb, hg, rfl, rfl⟩ nx2 hnx2
    walk_at "wpc"
    by_cases e : 0 < b
    · simp only [e]
      walk_at "wpc"
      have := fm_pos a e
      exact ⟨by omega, hnx2 _ (fm_abs a (by omega)) _ _ ⟨b, a.fmod b, rfl, hb, this.1, by rw [gcd_fmod, hg], rfl, rfl⟩⟩
    · have : b = 0 := by omega
      subst this
      simp only [e]
      walk_at "wpc"
      rw [Int.gcd_zero_right] at hg
      have e2 : gcdL (pre ++ [x]) = Nat.gcd x.natAbs (gcdL pre) := by unfold gcdL; rw [List.foldl_append]; rfl
      have e3 : ((gcdL (pre ++ [x]) : Nat) : Int) = a := by rw [e2, ← hg]; omega
      refine hnx _ _ ⟨some (.int x), some (.int a), some (.int 0), ?_, rfl⟩
      rw [e3]
  · rintro env1 S1 ⟨a2, a3, a4, rfl, rfl⟩
    refine ⟨trivial, ?_⟩
    walk_at "wpc"
    exact h
def c__law_minors : Ct := fun ds S Q _ => ∃ (n k : Nat) (W : List (List Int)), ds = [.tup (W.map VE), .int (k : Nat)] ∧ 1 ≤ k ∧ k ≤ n ∧ W.length = n ∧ SqM 100 W ∧ ∀ S', Gr S S' → Q (.lst ((minL n k W).map .int)) S'
/-- _law_minors -/
def N__law_minors : List Str := ["table", "k", "n", "found", "i", "rows", "j", "row", "place"]
def b__law_minors_f4_c1 : DB := (DB.cons (DS.for (DG.nm 6) (DI.range1 (DE.var 2)) (DB.cons (DS.expr (DE.append (DE.var 3) (DE.call "_law_det" c__law_det (DA.cons (DE.lst (DL.comp [("row", 7)] (DG.nm 7) (DI.seq (DE.var 5)) DF.no (DE.op .Add (DE.sl (DE.var 7) DO.no (DO.so (DE.var 6))) (DE.sl (DE.var 7) (DO.so (DE.op .Add (DE.var 6) (DE.con (.int 1)))) DO.no)))) DA.nil))))
  DB.nil))
  DB.nil)
def b__law_minors_f4 : DB := (DB.cons (DS.setC 5 [("place", 8), ("row", 7)] (DG.tp (DGs.cons 8 (DGs.cons 7 DGs.nil))) (DI.enum (DE.var 0)) (DF.one (DT.cmp .NotEq (DE.var 8) (DE.var 4))) (DE.var 7))
  b__law_minors_f4_c1)
def b__law_minors_c3 : DB := (DB.cons (DS.set 3 (DE.thw (DL.dis DA.nil)))
  (DB.cons (DS.for (DG.nm 4) (DI.range1 (DE.var 2)) b__law_minors_f4)
  (DB.cons (DS.ret (DE.frz 3))
  DB.nil)))
def b__law_minors : DB := (DB.cons (DS.set 2 (DE.len (DA.cons (DE.var 0) DA.nil)))
  (DB.cons (DS.iff (DT.cmp .Eq (DE.var 1) (DE.con (.int 1))) (DB.cons (DS.ret (DE.lst (DL.sumL (DA.cons (DE.lst (DL.comp [("row", 7)] (DG.nm 7) (DI.seq (DE.var 0)) DF.no (DE.lst (DL.lof (DA.cons (DE.var 7) DA.nil))))) (DA.cons (DE.lst (DL.dis DA.nil)) DA.nil)))))
  DB.nil) DB.nil)
  (DB.cons (DS.iff (DT.cmp .Eq (DE.var 1) (DE.var 2)) (DB.cons (DS.ret (DE.lst (DL.dis (DA.cons (DE.call "_law_det" c__law_det (DA.cons (DE.var 0) DA.nil)) DA.nil))))
  DB.nil) DB.nil)
  b__law_minors_c3)))
theorem min_rows {n : Nat} {W : List (List Int)} (hW : Sqr n W) (n3 : n = 3) {i : Nat} (hi : i < n) : (W.zipIdx.filter fun p => !decide (p.2 = i)).map (·.1) = minR i W := by
  subst n3
  rcases hW.cases with ⟨e, _⟩ | ⟨e, _⟩ | ⟨_, a, b, c, d, e, f, h, k, l, rfl⟩
  · omega
  · omega
  · rcases (by omega : i = 0 ∨ i = 1 ∨ i = 2) with rfl | rfl | rfl <;> rfl
theorem drop_len {j : Nat} {v : List Int} (h : j < v.length) : (dropV j v).length = v.length - 1 := by
  unfold dropV
  rw [List.length_append, List.length_take, List.length_drop]
  omega
theorem w__law_minors {ds : List D} {S : Sto} {Q : QD} {X : XD} (h : c__law_minors ds S Q X) : ctOf N__law_minors.length b__law_minors ds S Q X := by
  obtain ⟨n, k, W, rfl, k1, kn, lW, hW, h⟩ := h
  have n3 : n ≤ 3 := by rw [← lW]; exact hW.2.1
  have sW : Sqr n W := ⟨by omega, n3, lW, fun v hv => by rw [(hW.2.2 v hv).1, lW]⟩
  unfold b__law_minors N__law_minors
  walk_at "wpc"
  rw [List.length_map, lW]
  by_cases e1 : k = 1
  · subst e1
    rw [if_pos (by simp)]
    walk_at "wpc"
    refine ⟨szLe (by omega), ?_⟩
    refine compGo_all0 VE (fun v => .lst (v.map .int)) W (fun v hv => ⟨_, rfl, fun Qd hq => ?_⟩) ?_
    · walk_at "wpc"
      exact ⟨_, rfl, hq⟩
    have h := h S (Gr.refl S)
    rw [show minL n 1 W = W.flatten by unfold minL; rw [if_pos rfl]] at h
    refine ⟨W.map (·.map .int), by rw [List.map_map]; rfl, fun z => ?_, ?_, ?_⟩
    · have := congrArg List.length z
      rw [List.length_map, lW] at this
      simp at this; omega
    · rw [← List.map_flatten, List.length_map]
      rcases sW.cases with ⟨_, a, rfl⟩ | ⟨_, a, b, c, d, rfl⟩ | ⟨_, a, b, c, d, e, f, h, k, l, rfl⟩ <;> exact szLe (by simp)
    · rw [← List.map_flatten]
      exact h
  · rw [if_neg (by omega)]
    by_cases e2 : k = n
    · subst e2
      rw [if_pos rfl]
      have h := h S (Gr.refl S)
      rw [show minL k k W = [detL W] by unfold minL; rw [if_neg e1, if_pos rfl]] at h
      exact ⟨W, _, rfl, rfl, hW.mono (by omega), h⟩
    · rw [if_neg (by omega)]
      have n33 : n = 3 := by omega
      have k2 : k = 2 := by omega
      subst k2
      rw [show minL n 2 W = (List.range n).flatMap fun i => (List.range n).map fun j => detL ((minR i W).map (dropV j)) by unfold minL; rw [if_neg (by omega), if_neg (by omega)]] at h
      unfold b__law_minors_c3
      walk_at "wpc"
      rw [range0]
      refine ⟨by omega, by omega, ?_⟩
      refine forGo_pre (fun i : Nat => .int ((i : Nat) : Int)) (List.range n) (fun pre env S' => ∃ a4 a5 a6 a7 a8 : Option D, env = [some (.tup (W.map VE)), some (.int 2), some (.int (n : Nat)), some (.han S.length), a4, a5, a6, a7, a8] ∧ S' = S ++ [.lst ((pre.flatMap fun i => (List.range n).map fun j => detL ((minR i W).map (dropV j))).map .int)] ∧ pre.length ≤ 3) ?_ ?_ ⟨_, _, _, _, _, rfl, rfl, by simp⟩
      · rintro pre i post he env1 S1 ⟨a4, a5, a6, a7, a8, rfl, rfl, hp⟩
        have hi : i < n := List.mem_range.mp (by rw [he]; simp : i ∈ List.range n)
        have hp : pre.length + 1 ≤ 3 := by
          have := congrArg List.length he
          simp at this; omega
        refine ⟨trivial, _, rfl, fun nx hnx => ?_⟩
        unfold b__law_minors_f4
        walk_at "wpc"
        rw [enum_map]
        refine ⟨by simp only [List.length_map, List.length_zipIdx, lW]; exact szLe (by omega), ?_⟩
        refine compGo_map0 (fun p : List Int × Nat => .tup [.int (p.2 : Nat), VE p.1]) (fun p => !decide (p.2 = i)) (fun p => VE p.1) W.zipIdx (fun p hp => ⟨_, rfl, fun Qb hq => ?_, fun _ Qd hq => ?_⟩) ?_
        · walk_at "wpc"
          have : decide ((p.2 : Int) = (i : Int)) = decide (p.2 = i) := by rw [decide_eq_decide]; omega
          rw [this]
          exact hq
        · walk_at "wpc"
          exact hq
        rw [show ((W.zipIdx.filter fun p => !decide (p.2 = i)).map fun p => VE p.1) = (minR i W).map VE by rw [← min_rows sW n33 hi, List.map_map]; rfl]
        have lR : (minR i W).length = 2 := by unfold minR; rw [List.length_append, List.length_take, List.length_drop, lW]; omega
        have mR : ∀ v ∈ minR i W, v ∈ W := fun v hv => by
          rcases List.mem_append.mp hv with q | q
          · exact List.mem_of_mem_take q
          · exact List.mem_of_mem_drop q
        unfold b__law_minors_f4_c1
        walk_at "wpc"
        rw [range0]
        refine ⟨by omega, by omega, ?_⟩
        refine forGo_pre (fun j : Nat => .int ((j : Nat) : Int)) (List.range n) (fun pre2 env S' => ∃ a6 a7 : Option D, env = [some (.tup (W.map VE)), some (.int 2), some (.int (n : Nat)), some (.han S.length), some (.int (i : Nat)), some (.lst ((minR i W).map VE)), a6, a7, a8] ∧ S' = S ++ [.lst ((pre.flatMap fun i => (List.range n).map fun j => detL ((minR i W).map (dropV j))).map .int ++ (pre2.map fun j => detL ((minR i W).map (dropV j))).map .int)] ∧ pre2.length ≤ 3) ?_ ?_ ⟨_, _, rfl, by simp, by simp⟩
        · rintro pre2 j post2 he2 env2 S2 ⟨a6, a7, rfl, rfl, hp2⟩
          have hj : j < n := List.mem_range.mp (by rw [he2]; simp : j ∈ List.range n)
          have hp2 : pre2.length + 1 ≤ 3 := by
            have := congrArg List.length he2
            simp at this; omega
          refine ⟨trivial, _, rfl, fun nx2 hnx2 => ?_⟩
          walk_at "wpc"
          refine ⟨st_rec _ _, by rw [List.length_map, lR]; exact szLe (by omega), ?_⟩
          refine compGo_all0 VE (fun v => VE (dropV j v)) (minR i W) (fun v hv => ⟨_, rfl, fun Qd hq => ?_⟩) ?_
          · have lv := (hW.2.2 v (mR v hv)).1
            rw [VE_eq v]
            walk_at "wpc"
            rw [show (j : Int) + 1 = ((j + 1 : Nat) : Int) by omega, cut_to, cut_from, ← List.map_take, ← List.map_drop]
            refine ⟨by rw [List.length_map, List.length_map, List.length_take, List.length_drop]; exact szLe (by omega), ?_⟩
            rw [← List.map_append]
            exact hq
          rw [show ((minR i W).map fun v => VE (dropV j v)) = ((minR i W).map (dropV j)).map VE by rw [List.map_map]; rfl]
          refine ⟨_, _, rfl, seqOf_lst _ _, ⟨by rw [List.length_map, lR]; omega, by rw [List.length_map, lR]; omega, fun v hv => ?_⟩, ?_⟩
          · obtain ⟨u, hu, rfl⟩ := List.mem_map.mp hv
            obtain ⟨lu, su⟩ := hW.2.2 u (mR u hu)
            refine ⟨by rw [drop_len (by omega), List.length_map, lR]; omega, fun x hx => ?_⟩
            have : x ∈ u := by
              rcases List.mem_append.mp hx with q | q
              · exact List.mem_of_mem_take q
              · exact List.mem_of_mem_drop q
            exact (su x this).mono (by omega)
          refine st_app _ _ _ _ ?_ ?_
          · simp only [List.length_append, List.length_map, List.length_flatMap, List.length_range]
            have : (20 : Nat) ≤ sizeLine := szLe (by omega)
            have es : ∀ L : List Nat, (L.map fun _ => n).sum = L.length * n := fun L => by
              induction L with
              | nil => simp
              | cons x L ih => rw [List.map_cons, List.sum_cons, ih, List.length_cons, Nat.add_mul]; omega
            rw [es, n33]
            omega
          · refine hnx2 _ _ ⟨_, _, rfl, by simp, by simp; omega⟩
        · rintro env2 S2 ⟨a6, a7, rfl, rfl, hp2⟩
          refine ⟨trivial, ?_⟩
          walk_at "wpc"
          refine hnx _ _ ⟨_, _, _, _, _, rfl, ?_, by simp; omega⟩
          rw [List.flatMap_append, List.map_append]
          simp
      · rintro env1 S1 ⟨a4, a5, a6, a7, a8, rfl, rfl, hp⟩
        refine ⟨trivial, ?_⟩
        walk_at "wpc"
        refine ⟨_, st_get _ _, ?_⟩
        rw [st_set]
        exact h _ ⟨_, rfl⟩
/-! #### L12 -/
/-- law -/
def N_law : List Str := ["script", "town", "other", "n", "table", "factor", "one", "told", "value", "due", "before", "k", "shared", "now", "i", "j", "row", "flat", "twice", "bads", "entry", "c", "good", "bad"]
def b_law_f9 : DB := (DB.cons (DS.set 12 (DE.call "_law_shared" c__law_shared (DA.cons (DE.call "_law_minors" c__law_minors (DA.cons (DE.var 4) (DA.cons (DE.var 11) DA.nil))) DA.nil)))
  (DB.cons (DS.expr (DE.append (DE.var 9) (DE.op .FloorDiv (DE.var 12) (DE.var 10))))
  (DB.cons (DS.set 10 (DE.var 12))
  DB.nil)))
def b_law_f13_c3 : DB := (DB.cons (DS.set 13 (DE.op .Add (DE.op .Add (DE.sl (DE.var 13) DO.no (DO.so (DE.var 14))) (DE.tup (DA.cons (DE.var 16) DA.nil))) (DE.sl (DE.var 13) (DO.so (DE.op .Add (DE.var 14) (DE.con (.int 1)))) DO.no)))
  (DB.cons (DS.iff (DT.cmp .NotEq (DE.call "is_matched_basis" c_is_matched_basis (DA.cons (DE.var 6) (DA.cons (DE.var 2) (DA.cons (DE.var 13) DA.nil)))) (DE.call "_law_is_matched" c__law_is_matched (DA.cons (DE.var 6) (DA.cons (DE.var 2) (DA.cons (DE.var 7) (DA.cons (DE.var 13) DA.nil)))))) (DB.cons (DS.ret (DE.con (.bl false)))
  DB.nil) DB.nil)
  DB.nil))
def b_law_f13_c2 : DB := (DB.cons (DS.set 16 (DE.call "_law_pick" c__law_pick (DA.cons (DE.var 0) (DA.cons (DE.var 1) (DA.cons (DE.lst (DL.dis (DA.cons (DE.var 16) (DA.cons (DE.tuple (DA.cons (DE.lst (DL.comp [("entry", 20)] (DG.nm 20) (DI.seq (DE.var 16)) DF.no (DE.neg (DE.var 20)))) DA.nil)) (DA.cons (DE.ix (DE.var 13) (DE.var 15)) DA.nil))))) DA.nil)))))
  b_law_f13_c3)
def b_law_f13 : DB := (DB.cons (DS.asg (DG.tp (DGs.cons 14 (DGs.cons 15 DGs.nil))) (DE.tup (DA.cons (DE.call "_law_draw" c__law_draw (DA.cons (DE.var 0) (DA.cons (DE.var 1) (DA.cons (DE.var 3) DA.nil)))) (DA.cons (DE.call "_law_draw" c__law_draw (DA.cons (DE.var 0) (DA.cons (DE.var 1) (DA.cons (DE.var 3) DA.nil)))) DA.nil))))
  (DB.cons (DS.set 16 (DE.tuple (DA.cons (DE.lst (DL.comp [("c", 21)] (DG.nm 21) (DI.range1 (DE.var 3)) DF.no (DE.op .Add (DE.ix (DE.ix (DE.var 13) (DE.var 14)) (DE.var 21)) (DE.ite (DT.cmp .NotEq (DE.var 14) (DE.var 15)) (DE.ix (DE.ix (DE.var 8) (DE.var 15)) (DE.var 21)) (DE.con (.int 0)))))) DA.nil)))
  b_law_f13_c2))
def b_law_c18 : DB := (DB.cons (DS.ret (DE.cmp .Eq (DE.lst (DL.comp [("bad", 23)] (DG.nm 23) (DI.seq (DE.var 19)) (DF.one (DT.cmp .IsNot (DE.call "is_matched_basis" c_is_matched_basis (DA.cons (DE.var 18) (DA.cons (DE.var 17) (DA.cons (DE.var 23) DA.nil)))) (DE.con (.bl false)))) (DE.var 23))) (DE.lst (DL.dis DA.nil))))
  DB.nil)
def b_law_c17 : DB := (DB.cons (DS.iff (DT.cmp .NotEq (DE.lst (DL.comp [("good", 22)] (DG.nm 22) (DI.seq (DE.tup (DA.cons (DE.var 17) (DA.cons (DE.tup (DA.cons (DE.tup (DA.cons (DE.con (.int 1)) (DA.cons (DE.con (.int 4)) DA.nil))) (DA.cons (DE.tup (DA.cons (DE.con (.int 0)) (DA.cons (DE.neg (DE.con (.int 1))) DA.nil))) DA.nil))) DA.nil)))) DF.no (DE.call "is_matched_basis" c_is_matched_basis (DA.cons (DE.var 18) (DA.cons (DE.var 17) (DA.cons (DE.var 22) DA.nil)))))) (DE.lst (DL.dis (DA.cons (DE.con (.bl true)) (DA.cons (DE.con (.bl true)) DA.nil))))) (DB.cons (DS.ret (DE.con (.bl false)))
  DB.nil) DB.nil)
  b_law_c18)
def b_law_c14 : DB := (DB.cons (DS.asg (DG.tp (DGs.cons 17 (DGs.cons 18 DGs.nil))) (DE.tup (DA.cons (DE.tup (DA.cons (DE.tup (DA.cons (DE.con (.int 1)) (DA.cons (DE.con (.int 0)) DA.nil))) (DA.cons (DE.tup (DA.cons (DE.con (.int 0)) (DA.cons (DE.con (.int 1)) DA.nil))) DA.nil))) (DA.cons (DE.tup (DA.cons (DE.tup (DA.cons (DE.con (.int 1)) (DA.cons (DE.con (.int 0)) DA.nil))) (DA.cons (DE.tup (DA.cons (DE.con (.int 0)) (DA.cons (DE.con (.int 2)) DA.nil))) DA.nil))) DA.nil))))
  (DB.cons (DS.set 19 (DE.thw (DL.dis (DA.cons (DE.con .non) (DA.cons (DE.con (.int 5)) (DA.cons (DE.tup DA.nil) (DA.cons (DE.tup (DA.cons (DE.tup (DA.cons (DE.con (.int 1)) (DA.cons (DE.con (.int 0)) DA.nil))) DA.nil)) (DA.cons (DE.lst (DL.dis (DA.cons (DE.tup (DA.cons (DE.con (.int 1)) (DA.cons (DE.con (.int 0)) DA.nil))) (DA.cons (DE.tup (DA.cons (DE.con (.int 0)) (DA.cons (DE.con (.int 1)) DA.nil))) DA.nil)))) (DA.cons (DE.tup (DA.cons (DE.tup (DA.cons (DE.con (.int 1)) (DA.cons (DE.con (.int 0)) DA.nil))) (DA.cons (DE.lst (DL.dis (DA.cons (DE.con (.int 0)) (DA.cons (DE.con (.int 1)) DA.nil)))) DA.nil))) (DA.cons (DE.tup (DA.cons (DE.tup (DA.cons (DE.con (.int 1)) (DA.cons (DE.con (.int 0)) DA.nil))) (DA.cons (DE.tup (DA.cons (DE.con (.int 0)) (DA.cons (DE.con (.bl true)) DA.nil))) DA.nil))) (DA.cons (DE.tup (DA.cons (DE.tup (DA.cons (DE.con (.int 0)) (DA.cons (DE.con (.int 1)) DA.nil))) (DA.cons (DE.tup (DA.cons (DE.con (.int 1)) (DA.cons (DE.con (.int 0)) DA.nil))) DA.nil))) DA.nil)))))))))))
  (DB.cons (DS.expr (DE.append (DE.var 19) (DE.tup (DA.cons (DE.tup (DA.cons (DE.con (.int 1)) (DA.cons (DE.con (.int 0)) (DA.cons (DE.con (.int 0)) DA.nil)))) (DA.cons (DE.tup (DA.cons (DE.con (.int 0)) (DA.cons (DE.con (.int 1)) DA.nil))) DA.nil)))))
  b_law_c17)))
def b_law_c12 : DB := (DB.cons (DS.set 13 (DE.var 8))
  (DB.cons (DS.for (DG.nm 11) (DI.range1 (DE.con (.int 6))) b_law_f13)
  b_law_c14))
def b_law_c11 : DB := (DB.cons (DS.iff (DT.bool (DW.cons (DT.not (DT.val (DE.call "_law_is_matched" c__law_is_matched (DA.cons (DE.var 6) (DA.cons (DE.var 2) (DA.cons (DE.var 7) (DA.cons (DE.var 8) DA.nil))))))) (DW.one .Or (DT.cmp .IsNot (DE.call "is_matched_basis" c_is_matched_basis (DA.cons (DE.var 6) (DA.cons (DE.var 2) (DA.cons (DE.var 8) DA.nil)))) (DE.con (.bl true)))))) (DB.cons (DS.ret (DE.con (.bl false)))
  DB.nil) DB.nil)
  b_law_c12)
def b_law_c10 : DB := (DB.cons (DS.iff (DT.bool (DW.cons (DT.cmp .NotEq (DE.var 7) (DE.tuple (DA.cons (DE.var 9) DA.nil))) (DW.one .Or (DT.cmp .NotEq (DE.lst (DL.comp [("k", 11)] (DG.nm 11) (DI.range1 (DE.op .Sub (DE.var 3) (DE.con (.int 1)))) (DF.one (DT.cmp .NotEq (DE.op .Mod (DE.ix (DE.var 7) (DE.op .Add (DE.var 11) (DE.con (.int 1)))) (DE.ix (DE.var 7) (DE.var 11))) (DE.con (.int 0)))) (DE.var 11))) (DE.lst (DL.dis DA.nil)))))) (DB.cons (DS.ret (DE.con (.bl false)))
  DB.nil) DB.nil)
  b_law_c11)
def b_law_c8 : DB := (DB.cons (DS.par 9 10 (DE.thw (DL.dis DA.nil)) (DE.con (.int 1)))
  (DB.cons (DS.for (DG.nm 11) (DI.range2 (DE.con (.int 1)) (DE.op .Add (DE.var 3) (DE.con (.int 1)))) b_law_f9)
  b_law_c10))
def b_law_c5 : DB := (DB.cons (DS.set 4 (DE.tuple (DA.cons (DE.lst (DL.comp [("row", 16)] (DG.nm 16) (DI.seq (DE.var 4)) DF.no (DE.tuple (DA.cons (DE.lst (DL.comp [("entry", 20)] (DG.nm 20) (DI.seq (DE.var 16)) DF.no (DE.op .Mult (DE.var 5) (DE.var 20)))) DA.nil)))) DA.nil)))
  (DB.cons (DS.set 6 (DE.tuple (DA.cons (DE.lst (DL.comp [("row", 16)] (DG.nm 16) (DI.seq (DE.var 4)) DF.no (DE.call "_law_mix" c__law_mix (DA.cons (DE.var 16) (DA.cons (DE.var 2) DA.nil))))) DA.nil)))
  (DB.cons (DS.asg (DG.tp (DGs.cons 7 (DGs.cons 8 DGs.nil))) (DE.tup (DA.cons (DE.call "divisors" c_divisors (DA.cons (DE.var 6) (DA.cons (DE.var 2) DA.nil))) (DA.cons (DE.call "matched_basis" c_matched_basis (DA.cons (DE.var 6) (DA.cons (DE.var 2) DA.nil))) DA.nil))))
  b_law_c8)))
def b_law : DB := (DB.cons (DS.set 1 (DE.call "_law_town" c__law_town (DA.cons (DE.var 0) DA.nil)))
  (DB.cons (DS.set 2 (DE.call "_law_basis" c__law_basis (DA.cons (DE.var 0) (DA.cons (DE.var 1) (DA.cons (DE.call "_law_pick" c__law_pick (DA.cons (DE.var 0) (DA.cons (DE.var 1) (DA.cons (DE.lst (DL.dis (DA.cons (DE.con (.int 1)) (DA.cons (DE.con (.int 3)) (DA.cons (DE.con (.int 8)) DA.nil))))) DA.nil)))) DA.nil)))))
  (DB.cons (DS.set 3 (DE.len (DA.cons (DE.var 2) DA.nil)))
  (DB.cons (DS.set 4 (DE.call "_law_basis_in" c__law_basis_in (DA.cons (DE.var 0) (DA.cons (DE.var 1) (DA.cons (DE.var 3) (DA.cons (DE.con (.int 4)) DA.nil))))))
  (DB.cons (DS.set 5 (DE.call "_law_pick" c__law_pick (DA.cons (DE.var 0) (DA.cons (DE.var 1) (DA.cons (DE.lst (DL.dis (DA.cons (DE.con (.int 1)) (DA.cons (DE.con (.int 1)) (DA.cons (DE.con (.int 2)) (DA.cons (DE.con (.int 6)) DA.nil)))))) DA.nil)))))
  b_law_c5)))))
/-! ### the law -/
structure K12 (n : Nat) (T W : List (List Int)) : Prop where
  n1 : 1 ≤ n
  n3 : n ≤ 3
  MT : Mat n 8 T
  MW : Mat n 24 W
  dT : detL T ≠ 0
  dW : detL W ≠ 0
def oneN (T W : List (List Int)) : List (List Int) := W.map fun r => mixV r T
section
variable {n : Nat} {T W : List (List Int)}
theorem K12.sT (k : K12 n T W) : Sqr n T := k.MT.sqr k.n1 k.n3
theorem K12.sW (k : K12 n T W) : Sqr n W := k.MW.sqr k.n1 k.n3
theorem K12.MO (k : K12 n T W) : Mat n 576 (oneN T W) := ⟨by simp [oneN, k.MW.1], fun v hv => by
  obtain ⟨r, hr, rfl⟩ := List.mem_map.mp hv
  have h3 := k.n3
  exact ⟨by rw [mix_len, k.MT.1], (mix_bd (k.MW.2 r hr).2 fun v hv => (k.MT.2 v hv).2).mono (by rw [k.MT.1]; omega)⟩⟩
theorem K12.sO (k : K12 n T W) : Sqr n (oneN T W) := k.MO.sqr k.n1 k.n3
theorem K12.det (k : K12 n T W) : detL (oneN T W) = detL W * detL T := det_mixM k.sW k.sT
theorem K12.dO (k : K12 n T W) : detL (oneN T W) ≠ 0 := by
  rw [k.det]
  exact Int.mul_ne_zero k.dW k.dT
theorem K12.bT (k : K12 n T W) : Bas T := k.MT.bas k.n1 k.n3 (by omega) k.dT
theorem K12.bO (k : K12 n T W) : Bas (oneN T W) := k.MO.bas k.n1 k.n3 (by omega) k.dO
theorem K12.lT (k : K12 n T W) : T.length = n := k.MT.1
theorem K12.lW (k : K12 n T W) : W.length = n := k.MW.1
theorem K12.lO (k : K12 n T W) : (oneN T W).length = n := k.MO.1
theorem K12.wh (k : K12 n T W) : ∀ u ∈ oneN T W, Whole T u := fun u hu => by
  obtain ⟨r, hr, rfl⟩ := List.mem_map.mp hu
  exact (whole_iff k.sT (by rw [mix_len, k.lT]) k.dT).mpr (mix_lat k.sT (k.sW.2.2.2 r hr))
theorem K12.qT (k : K12 n T W) : SqM 12 T := k.MT.sq k.n1 k.n3 (by decide)
theorem K12.qO (k : K12 n T W) : SqM 12 (oneN T W) := k.MO.sq k.n1 k.n3 (by decide)
theorem K12.qW (k : K12 n T W) : SqM 12 W := k.MW.sq k.n1 k.n3 (by decide)
theorem K12.tab (k : K12 n T W) : (oneN T W).map (wc T) = W := by
  unfold oneN
  rw [List.map_map]
  have : W.map (wc T ∘ fun r => mixV r T) = W.map id := List.map_congr_left fun r hr => by
    have lr := k.sW.2.2.2 r hr
    have lm : (mixV r T).length = n := by rw [mix_len, k.lT]
    exact mixV_inj k.sT k.dT (show (wc T (mixV r T)).length = n by rw [wc_len, k.lT]) lr (wc_mix k.sT lm k.dT (mix_lat k.sT lr))
  rw [this, List.map_id]
theorem K12.run (k : K12 n T W) : ∃ c s', MRun n c ⟨0, (oneN T W).map (wc T), T⟩ s' ∧ SqN n s'.M ∧ s'.B.length = n ∧ MatOk n (oneN T W) T W (diagL n s'.M) s'.B := by
  have h := mat_ok k.sO k.sT k.dT k.dO k.wh (fun i j hi hj => ?_) (fun v hv => ?_)
  · obtain ⟨c, s', h1, h2, h3, h4⟩ := h
    refine ⟨c, s', h1, h2, h3, ?_⟩
    rw [k.tab] at h4
    exact h4
  · rw [k.tab]
    have hW : i < W.length := by rw [k.lW]; exact hi
    have hr := k.MW.2 W[i] (List.getElem_mem hW)
    unfold en
    rw [row_lt hW, gt_lt (by rw [hr.1]; exact hj)]
    exact hr.2 _ (List.getElem_mem _)
  · have := VecOk.of_mem k.qT hv
    rw [k.lT] at this
    exact this.mono (by omega)
end
/-- a run of `matched` -/
structure R12 (n : Nat) (O T W : List (List Int)) (s : St) : Prop where
  run : ∃ c, MRun n c ⟨0, O.map (wc T), T⟩ s
  sq : SqN n s.M
  lB : s.B.length = n
  ok : MatOk n O T W (diagL n s.M) s.B
  sd : ∀ x ∈ diagL n s.M, Sm 100 x
theorem K12.sd {n : Nat} {T W : List (List Int)} (k : K12 n T W) {d : List Int} {B : List (List Int)} (h : MatOk n (oneN T W) T W d B) : ∀ x ∈ d, Sm 100 x := fun x hx => by
  obtain ⟨i, hi, rfl⟩ := List.getElem_of_mem hx
  rw [← gt_lt hi]
  have := h.le k.sW (i := i) (by rw [← h.ld]; exact hi)
  have sd := sm_detL k.qW
  unfold Sm at sd ⊢
  omega
theorem K12.r12 {n : Nat} {T W : List (List Int)} (k : K12 n T W) : ∃ s, R12 n (oneN T W) T W s := by
  obtain ⟨c, s, h1, h2, h3, h4⟩ := k.run
  exact ⟨s, ⟨c, h1⟩, h2, h3, h4, k.sd h4⟩
theorem on_mat {n : Nat} {T W : List (List Int)} {s : St} (k : K12 n T W) (r : R12 n (oneN T W) T W s) {S : Sto} {X : XD} {P : List (List Int) → List (List Int) → Nat → St → Sto → Prop} (q : ∀ S', Gr S S' → P (oneN T W) T n s S') : onMat (.tup ((oneN T W).map VE)) (.tup (T.map VE)) S X P := by
  refine k.bO.on2 k.bT (by rw [k.lO, k.lT]) fun S' g => ?_
  rw [if_pos k.wh]
  obtain ⟨c, run⟩ := r.run
  exact ⟨n, c, s, k.lO, k.lT, run, r.sq, r.lB, fun S2 g2 => q S2 (g.trans g2)⟩
/-- the judge's answer -/
theorem on_isM {n : Nat} {T W V : List (List Int)} {s : St} (k : K12 n T W) (r : R12 n (oneN T W) T W s) {S : Sto} {Q : QD} {X : XD} (hV : V.length = n) (hv : ∀ v ∈ V, VecOk 180000 n v) (q : ∀ S', Gr S S' → Q (.bl (decide (Spans T V) && decide (Spans (oneN T W) (scB (diagL n s.M) V)))) S') : c_is_matched_basis [.tup ((oneN T W).map VE), .tup (T.map VE), .tup (V.map VE)] S Q X := by
  refine ⟨_, _, _, rfl, on_mat k r fun S' g => ⟨⟨okBas_M (by have := k.n3; omega) fun v hv' => ?_, fun v hv' x hx => ?_⟩, r.sd, fun S2 g2 => ?_⟩⟩
  · have := (hv v hv').1
    have := k.n3
    omega
  · rw [toM_M] at hv'
    exact (hv v hv').2 x hx
  · have := q S2 (g.trans g2)
    unfold isMB isOB
    rw [(isAV_M T.length V).mpr ⟨by rw [hV, k.lT], fun v hv' => by rw [(hv v hv').1, k.lT]⟩, Bool.true_and, toM_M]
    exact this
theorem vec_sq {n m : Nat} {V : List (List Int)} (n1 : 1 ≤ n) (n3 : n ≤ 3) (hV : V.length = n) (hv : ∀ v ∈ V, VecOk m n v) : SqM m V := ⟨by omega, by omega, fun v h => by
  obtain ⟨h1, h2⟩ := hv v h
  exact ⟨by omega, h2⟩⟩
theorem on_lawM {n : Nat} {T W V : List (List Int)} {s : St} (k : K12 n T W) (r : R12 n (oneN T W) T W s) {S : Sto} {Q : QD} {X : XD} (hV : V.length = n) (hv : ∀ v ∈ V, VecOk 180000 n v) (q : Q (.bl (decide (Spans T V) && decide (Spans (oneN T W) (scB (diagL n s.M) V)))) S) : c__law_is_matched [.tup ((oneN T W).map VE), .tup (T.map VE), VE (diagL n s.M), .tup (V.map VE)] S Q X :=
  ⟨n, _, _, V, _, rfl, k.qO.mono (by omega), k.qT.mono (by omega), vec_sq k.n1 k.n3 hV hv, k.lO, k.lT, hV, r.ok.ld, r.sd, k.dO, k.dT, q⟩
theorem R12.good {n : Nat} {T W : List (List Int)} {s : St} (k : K12 n T W) (r : R12 n (oneN T W) T W s) : (decide (Spans T s.B) && decide (Spans (oneN T W) (scB (diagL n s.M) s.B))) = true := by
  rw [Bool.and_eq_true, decide_eq_true_eq, decide_eq_true_eq]
  exact ⟨(spans_iff k.sT r.ok.sB k.dT).mpr r.ok.same.symm, (spans_iff k.sO (scB_sqr r.ok.ld r.ok.sB) k.dO).mpr r.ok.sc.symm⟩
/-! the fixed grids -/
def flat12 : List (List Int) := [[1, 0], [0, 1]]
def twice12 : List (List Int) := [[1, 0], [0, 2]]
theorem k12_fix : K12 2 flat12 twice12 := ⟨by decide, by decide, by unfold Mat Bd; decide, by unfold Mat Bd; decide, by decide, by decide⟩
theorem fix_call {d : D} {b : Bool} {S : Sto} {Q : QD} {X : XD} (ok : okBasD d) (h2 : (toM d).all (fun v => v.all fun x => decide (x.natAbs < 64)) = true) (h : isMB twice12 flat12 [1, 2] d = b) (q : ∀ S', Gr S S' → Q (.bl b) S') : c_is_matched_basis [.tup [VE [1, 0], VE [0, 2]], .tup [VE [1, 0], VE [0, 1]], d] S Q X := by
  obtain ⟨s, r⟩ := k12_fix.r12
  have e1 : oneN flat12 twice12 = twice12 := by decide
  have eo : ∀ {S : Sto} {X : XD} {P}, onMat (.tup ((oneN flat12 twice12).map VE)) (.tup (flat12.map VE)) S X P → onMat (.tup [VE [1, 0], VE [0, 2]]) (.tup [VE [1, 0], VE [0, 1]]) S X P := fun h => by rw [e1] at h; exact h
  refine ⟨_, _, d, rfl, eo (on_mat k12_fix r fun S' g => ⟨⟨ok, fun v hv x hx => ?_⟩, r.sd, fun S2 g2 => ?_⟩)⟩
  · have := List.all_eq_true.mp (List.all_eq_true.mp h2 v hv) x hx
    exact (sm_lit x (by simpa using this)).mono (by omega)
  · have e2 : diagL 2 s.M = [1, 2] := by
      rw [← r.ok.due k12_fix.sW]
      decide +kernel
    rw [e2, e1, h]
    exact q S2 (g.trans g2)
def eBl : Enc Bool where
  e b := .bl b
  p b := .bool b
  n := 0
  hp b := rfl
  lay b := by cases b <;> decide +kernel
  dp b := by cases b <;> exact Nat.le_refl _
  eq a b := by cases a <;> cases b <;> decide +kernel
theorem gr_set {S S' : Sto} (g : Gr S S') (x : DLay.O) : Gr S (S'.set S.length x) := by
  obtain ⟨J, rfl⟩ := g
  exact ⟨J.set 0 x, by rw [List.set_append_right _ _ (Nat.le_refl _), Nat.sub_self]⟩
theorem compGo_sf {bd : D → Env → Sto → Option Env} {t : WT} {e : WE} {env : Env} {src : Src} {Q : QL} : ∀ (L : List D) (acc : List D) (S : Sto), (∀ S', Gr S S' → srcOk src S') →
    (∀ a ∈ L, ∀ S', Gr S S' → ∃ env', bd a env S' = some env' ∧ (∀ Qb : QB, (∀ S'', Gr S' S'' → Qb false S'') → t env' S' Qb noX)) →
    (∀ S', Gr S S' → Q acc S') → compGo bd t e env src L S acc Q
  | [], acc, S, hs, _, hq => ⟨hs S (Gr.refl S), hq S (Gr.refl S)⟩
  | a :: L, acc, S, hs, h, hq => by
    obtain ⟨env', hb, ht⟩ := h a List.mem_cons_self S (Gr.refl S)
    refine ⟨hs S (Gr.refl S), env', hb, ht _ fun S'' g => ?_⟩
    show if false = true then _ else compGo bd t e env src L S'' acc Q
    rw [if_neg (by simp)]
    exact compGo_sf L acc S'' (fun S' g' => hs S' (g.trans g')) (fun x hx S' g' => h x (List.mem_cons_of_mem _ hx) S' (g.trans g')) fun S' g' => hq S' (g.trans g')
section
variable {E : DEnds} {ns : List Int} {n : Nat} {T W V : List (List Int)} {s : St} {a0 a1 a2 a3 a4 a5 a6 a7 a8 a9 a10 a11 a12 a13 a14 a15 a16 a17 a18 a19 a20 a21 a22 a23 : Option D} {S : Sto}
theorem k12_c18 {L : List D} {m : Nat} (hl : L.length ≤ 100) (hL : ∀ d ∈ L, okBasD d ∧ (toM d).all (fun v => v.all fun x => decide (x.natAbs < 64)) = true ∧ isMB twice12 flat12 [1, 2] d = false) (hk : S[m]? = some (.lst L)) (hE : ∀ S', E.rt (.bl true) S') :
    b_law_c18.wp E [a0, a1, a2, a3, a4, a5, a6, a7, a8, a9, a10, a11, a12, a13, a14, a15, a16, some (.tup [VE [1, 0], VE [0, 1]]), some (.tup [VE [1, 0], VE [0, 2]]), some (.han m), a20, a21, a22, a23] S := by
  unfold b_law_c18
  walk_at "wpc"
  have sk : seqOf S (.han m) = some L := by
    unfold seqOf tupOf lstOf
    simp [hk]
  refine ⟨L, sk, szLe (by omega), ?_⟩
  refine compGo_sf (src := [(m, L)]) L [] S (fun S' g => ⟨by obtain ⟨J, rfl⟩ := g; exact app_get hk J, trivial⟩) (fun d hd S1 _ => ⟨_, rfl, fun Qb hq => ?_⟩) fun S1 _ => ?_
  · walk_at "wpc"
    obtain ⟨h1, h2, h3⟩ := hL d hd
    refine fix_call h1 h2 h3 fun S2 g2 => ?_
    walk_at "wpc"
    exact hq S2 g2
  · refine oEq_L eI (by decide) [] [] _ _ ?_
    exact hE _
theorem k12_c17 {L : List D} {m : Nat} (hl : L.length ≤ 100) (hL : ∀ d ∈ L, okBasD d ∧ (toM d).all (fun v => v.all fun x => decide (x.natAbs < 64)) = true ∧ isMB twice12 flat12 [1, 2] d = false) (hk : S[m]? = some (.lst L)) (hE : ∀ S', E.rt (.bl true) S') :
    b_law_c17.wp E [a0, a1, a2, a3, a4, a5, a6, a7, a8, a9, a10, a11, a12, a13, a14, a15, a16, some (.tup [VE [1, 0], VE [0, 1]]), some (.tup [VE [1, 0], VE [0, 2]]), some (.han m), a20, a21, a22, a23] S := by
  unfold b_law_c17
  walk_at "wpc"
  refine ⟨szLe (by omega), ?_⟩
  refine compGo_gr (fun d : D => d) (fun _ => .bl true) [.tup [VE [1, 0], VE [0, 1]], .tup [VE [1, 4], VE [0, -1]]] [] S (fun d hd S1 _ => ⟨_, rfl, fun Qd hq => ?_⟩) fun S1 g1 => ?_
  · walk_at "wpc"
    refine fix_call (b := true) ?_ ?_ ?_ fun S2 g2 => hq S2 g2
    · simp only [List.mem_cons, List.not_mem_nil, or_false] at hd
      rcases hd with rfl | rfl <;> simp [VE, okBasD, okVecD, okD]
    · simp only [List.mem_cons, List.not_mem_nil, or_false] at hd
      rcases hd with rfl | rfl <;> decide +kernel
    · simp only [List.mem_cons, List.not_mem_nil, or_false] at hd
      rcases hd with rfl | rfl <;> decide +kernel
  · refine oNe_L eBl (by decide) [true, true] [true, true] _ _ ⟨_, rfl, ?_⟩
    rw [if_neg (by simp)]
    obtain ⟨J, rfl⟩ := g1
    exact k12_c18 hl hL (app_get hk J) hE
theorem k12_c14 (hE : ∀ S', E.rt (.bl true) S') :
    b_law_c14.wp E [a0, a1, a2, a3, a4, a5, a6, a7, a8, a9, a10, a11, a12, a13, a14, a15, a16, a17, a18, a19, a20, a21, a22, a23] S := by
  unfold b_law_c14
  refine ⟨[a0, a1, a2, a3, a4, a5, a6, a7, a8, a9, a10, a11, a12, a13, a14, a15, a16, some (.tup [VE [1, 0], VE [0, 1]]), some (.tup [VE [1, 0], VE [0, 2]]), a19, a20, a21, a22, a23], rfl, ?_⟩
  walk_at "wpc"
  refine ⟨st_rec _ _, ?_⟩
  refine st_app _ _ _ _ (Nat.lt_of_lt_of_le (by decide : _ < 100) (szLe (by omega))) ?_
  refine k12_c17 (m := S.length) (by simp) (fun d hd => ?_) (st_get _ _) hE
  simp only [List.mem_cons, List.mem_append, List.not_mem_nil, or_false] at hd
  rcases hd with (rfl | rfl | rfl | rfl | rfl | rfl | rfl | rfl) | rfl <;>
    refine ⟨?_, by decide +kernel, by decide +kernel⟩ <;> simp [VE, okBasD, okVecD, okD]
/-! the changed bases -/
theorem cat3 {V : List (List Int)} {i : Nat} (hi : i < V.length) (r : List Int) : (V.map VE).take i ++ [VE r] ++ (V.map VE).drop (i + 1) = (V.set i r).map VE := by
  rw [List.set_eq_take_append_cons_drop]
  simp [hi]
theorem k12_f13_c3 {i : Nat} {r : List Int} {m : Nat} (k : K12 n T W) (rr : R12 n (oneN T W) T W s) (hi : i < n) (hV : V.length = n) (hv : ∀ v ∈ V, VecOk m n v) (hr : VecOk m n r) (hm : m ≤ 180000)
    (hE : ∀ S', Gr S S' → E.nx [a0, a1, some (.tup (T.map VE)), a3, a4, a5, some (.tup ((oneN T W).map VE)), some (VE (diagL n s.M)), a8, a9, a10, a11, a12, some (.tup ((V.set i r).map VE)), some (.int (i : Nat)), a15, some (VE r), a17, a18, a19, a20, a21, a22, a23] S') :
    b_law_f13_c3.wp E [a0, a1, some (.tup (T.map VE)), a3, a4, a5, some (.tup ((oneN T W).map VE)), some (VE (diagL n s.M)), a8, a9, a10, a11, a12, some (.tup (V.map VE)), some (.int (i : Nat)), a15, some (VE r), a17, a18, a19, a20, a21, a22, a23] S := by
  have n3 := k.n3
  unfold b_law_f13_c3
  walk_at "wpc"
  rw [show (i : Int) + 1 = ((i + 1 : Nat) : Int) by omega, cut_to, cut_from]
  refine ⟨?_, ?_, ?_⟩
  · simp only [List.length_take, List.length_map, List.length_cons, List.length_nil]
    exact szLe (by omega)
  · simp only [List.length_take, List.length_drop, List.length_append, List.length_map, List.length_cons, List.length_nil]
    exact szLe (by omega)
  rw [cat3 (by omega) r]
  have lU : (V.set i r).length = n := by rw [List.length_set]; exact hV
  have hU : ∀ v ∈ V.set i r, VecOk 180000 n v := fun v h => by
    rcases List.mem_or_eq_of_mem_set h with h | rfl
    · exact (hv v h).mono hm
    · exact hr.mono hm
  refine on_isM k rr lU hU fun S1 g1 => on_lawM k rr lU hU ?_
  refine oNe_bb _ _ _ _ ⟨_, rfl, ?_⟩
  rw [if_neg (by simp)]
  exact hE S1 g1
theorem k12_f13_c2 {i j : Nat} {r : List Int} {m q : Nat} (k : K12 n T W) (rr : R12 n (oneN T W) T W s) (t : Tw ns (q + 1) S) (hi : i < n) (hj : j < n) (hV : V.length = n) (hv : ∀ v ∈ V, VecOk m n v) (hr : VecOk m n r) (hm : m ≤ 180000)
    (hE : ∀ (U : List (List Int)) (a16 : Option D) (S' : Sto), U.length = n → (∀ v ∈ U, VecOk m n v) → Tw ns q S' → E.nx [some (.scr (ns.map .int)), some (.han 0), some (.tup (T.map VE)), a3, a4, a5, some (.tup ((oneN T W).map VE)), some (VE (diagL n s.M)), a8, a9, a10, a11, a12, some (.tup (U.map VE)), some (.int (i : Nat)), some (.int (j : Nat)), a16, a17, a18, a19, a20, a21, a22, a23] S') :
    b_law_f13_c2.wp E [some (.scr (ns.map .int)), some (.han 0), some (.tup (T.map VE)), a3, a4, a5, some (.tup ((oneN T W).map VE)), some (VE (diagL n s.M)), a8, a9, a10, a11, a12, some (.tup (V.map VE)), some (.int (i : Nat)), some (.int (j : Nat)), some (VE r), a17, a18, a19, a20, a21, a22, a23] S := by
  have n3 := k.n3
  have lr := hr.1
  unfold b_law_f13_c2
  rw [VE_eq r]
  walk_at "wpc"
  refine ⟨by rw [List.length_map, lr]; exact szLe (by omega), ?_⟩
  refine compGo_all0 D.int (fun x => .int (-x)) r (fun x hx => ⟨_, rfl, fun Qd hq => ?_⟩) ?_
  · walk_at "wpc"
    exact hq
  rw [show (r.map fun x => D.int (-x)) = (negV r).map D.int by rw [negV, List.map_map]; rfl]
  have hjV : j < V.length := by omega
  refine ⟨VE V[j], by rw [atI_map, atI_some hjV]; rfl, ?_⟩
  refine Tw.pick t (by simp) (by simp) fun x hx S2 t2 => ?_
  obtain ⟨u, rfl, hu⟩ : ∃ u, x = VE u ∧ VecOk m n u := by
    simp only [List.mem_cons, List.not_mem_nil, or_false] at hx
    rcases hx with rfl | rfl | rfl
    · exact ⟨r, rfl, hr⟩
    · exact ⟨negV r, rfl, by rw [negV_len]; exact lr, fun x hx => by
        obtain ⟨y, hy, rfl⟩ := List.mem_map.mp hx
        exact (hr.2 y hy).neg⟩
    · exact ⟨V[j], rfl, hv _ (List.getElem_mem _)⟩
  refine k12_f13_c3 k rr hi hV hv hu hm fun S3 g3 => ?_
  refine hE _ _ _ (by rw [List.length_set]; exact hV) (fun v h => ?_) (t2.gr g3)
  rcases List.mem_or_eq_of_mem_set h with h | rfl
  · exact hv v h
  · exact hu
theorem k12_f13 {m q : Nat} (k : K12 n T W) (rr : R12 n (oneN T W) T W s) (t : Tw ns (q + 3) S) (hV : V.length = n) (hv : ∀ v ∈ V, VecOk m n v) (hm1 : 130000 ≤ m) (hm : m + 1 ≤ 180000)
    (hE : ∀ (U : List (List Int)) (a14 a15 a16 : Option D) (S' : Sto), U.length = n → (∀ v ∈ U, VecOk (m + 1) n v) → Tw ns q S' → E.nx [some (.scr (ns.map .int)), some (.han 0), some (.tup (T.map VE)), some (.int (n : Nat)), a4, a5, some (.tup ((oneN T W).map VE)), some (VE (diagL n s.M)), some (.tup (s.B.map VE)), a9, a10, a11, a12, some (.tup (U.map VE)), a14, a15, a16, a17, a18, a19, a20, a21, a22, a23] S') :
    b_law_f13.wp E [some (.scr (ns.map .int)), some (.han 0), some (.tup (T.map VE)), some (.int (n : Nat)), a4, a5, some (.tup ((oneN T W).map VE)), some (VE (diagL n s.M)), some (.tup (s.B.map VE)), a9, a10, a11, a12, some (.tup (V.map VE)), a14, a15, a16, a17, a18, a19, a20, a21, a22, a23] S := by
  have n1 := k.n1
  have n3 := k.n3
  unfold b_law_f13
  walk_at "wpc"
  refine Tw.draw t (by omega) (by omega) fun i S1 i0 i1 t1 => ?_
  refine Tw.draw t1 (by omega) (by omega) fun j S2 j0 j1 t2 => ?_
  obtain ⟨i, rfl⟩ := Int.eq_ofNat_of_zero_le i0
  obtain ⟨j, rfl⟩ := Int.eq_ofNat_of_zero_le j0
  walk_at "wpc"
  have hi : i < n := by omega
  have hj : j < n := by omega
  rw [range0]
  refine ⟨by omega, by omega, by rw [List.length_map, List.length_range]; exact szLe (by omega), ?_⟩
  have hiV : i < V.length := by omega
  have hjB : j < s.B.length := by rw [rr.lB]; exact hj
  have vi := hv _ (List.getElem_mem hiV)
  have vj := rr.ok.vB _ (List.getElem_mem hjB)
  refine compGo_all0 (fun c : Nat => .int ((c : Nat) : Int)) (fun c => .int (gt V[i] c + if i = j then 0 else gt s.B[j] c)) (List.range n) (fun c hc => ⟨_, rfl, fun Qd hq => ?_⟩) ?_
  · have hc : c < n := List.mem_range.mp hc
    walk_at "wpc"
    refine ⟨VE V[i], by rw [atI_map, atI_some hiV]; rfl, ?_⟩
    rw [ix_V (by rw [vi.1]; exact hc)]
    walk_at "wpc"
    by_cases e : i = j
    · subst e
      rw [if_pos rfl] at hq
      rw [if_neg (by simp)]
      exact hq
    · rw [if_neg e] at hq
      rw [if_pos (by simp; omega)]
      refine ⟨VE s.B[j], by rw [atI_map, atI_some hjB]; rfl, ?_⟩
      rw [ix_V (by rw [vj.1]; exact hc)]
      walk_at "wpc"
      exact hq
  walk_at "wpc"
  rw [show ((List.range n).map fun c => D.int (gt V[i] c + if i = j then 0 else gt s.B[j] c)) = ((List.range n).map fun c => gt V[i] c + if i = j then 0 else gt s.B[j] c).map D.int by rw [List.map_map]; rfl]
  have gsm : ∀ {v : List Int} {a : Nat}, VecOk a n v → ∀ c, Sm a (gt v c) := fun h c => by
    by_cases hc : c < n
    · rw [gt_lt (by rw [h.1]; exact hc)]
      exact h.2 _ (List.getElem_mem _)
    · rw [gt_ge (by rw [h.1]; omega)]
      unfold Sm; exact Nat.pow_pos (by omega)
  refine k12_f13_c2 (m := m + 1) (q := q) (r := (List.range n).map fun c => gt V[i] c + if i = j then 0 else gt s.B[j] c) k rr (t2.mono (by omega)) hi hj hV (fun v h => (hv v h).mono (by omega)) ⟨by simp, fun x hx => ?_⟩ hm fun U a16 S3 lU hU t3 => hE U _ _ _ S3 lU hU t3
  obtain ⟨c, hc, rfl⟩ := List.mem_map.mp hx
  split
  · rw [Int.add_zero]; exact (gsm vi c).mono (by omega)
  · exact ((gsm vi c).add (gsm vj c)).mono (by simp only [Nat.max_def]; split <;> omega)
theorem k12_c12 (k : K12 n T W) (rr : R12 n (oneN T W) T W s) (t : Tw ns 900000 S) (hE : ∀ S', E.rt (.bl true) S') :
    b_law_c12.wp E [some (.scr (ns.map .int)), some (.han 0), some (.tup (T.map VE)), some (.int (n : Nat)), a4, a5, some (.tup ((oneN T W).map VE)), some (VE (diagL n s.M)), some (.tup (s.B.map VE)), a9, a10, a11, a12, a13, a14, a15, a16, a17, a18, a19, a20, a21, a22, a23] S := by
  unfold b_law_c12
  walk_at "wpc"
  unfold rangeD
  refine ⟨by omega, by omega, ?_⟩
  refine forGo_pre (fun i : Nat => .int (0 + ((i : Nat) : Int))) (List.range 6) (fun pre env S' => ∃ (V : List (List Int)) (a11 a14 a15 a16 : Option D), env = [some (.scr (ns.map .int)), some (.han 0), some (.tup (T.map VE)), some (.int (n : Nat)), a4, a5, some (.tup ((oneN T W).map VE)), some (VE (diagL n s.M)), some (.tup (s.B.map VE)), a9, a10, a11, a12, some (.tup (V.map VE)), a14, a15, a16, a17, a18, a19, a20, a21, a22, a23] ∧ V.length = n ∧ (∀ v ∈ V, VecOk (130000 + pre.length) n v) ∧ Tw ns (900000 - 3 * pre.length) S' ∧ pre.length ≤ 6) ?_ ?_ ⟨s.B, _, _, _, _, rfl, rr.lB, fun v h => (rr.ok.vB v h).mono (by simp), t.mono (by simp), by simp⟩
  · rintro pre i post he env1 S1 ⟨V, a11, a14, a15, a16, rfl, hV, hv, t1, hp⟩
    have hp : pre.length + 1 ≤ 6 := by
      have := congrArg List.length he
      simp at this; omega
    refine ⟨trivial, _, rfl, fun nx hnx => ?_⟩
    refine k12_f13 (q := 900000 - 3 * (pre.length + 1)) k rr (t1.mono (by omega)) hV hv (by omega) (by omega) fun U a14 a15 a16 S2 lU hU t2 => ?_
    exact hnx _ _ ⟨U, _, _, _, _, rfl, lU, by simpa [Nat.add_assoc] using hU, by simpa using t2, by simpa using hp⟩
  · rintro env1 S1 ⟨V, a11, a14, a15, a16, rfl, hV, hv, t1, hp⟩
    exact ⟨trivial, k12_c14 hE⟩
theorem k12_c11 (k : K12 n T W) (rr : R12 n (oneN T W) T W s) (t : Tw ns 900000 S) (hE : ∀ S', E.rt (.bl true) S') :
    b_law_c11.wp E [some (.scr (ns.map .int)), some (.han 0), some (.tup (T.map VE)), some (.int (n : Nat)), a4, a5, some (.tup ((oneN T W).map VE)), some (VE (diagL n s.M)), some (.tup (s.B.map VE)), a9, a10, a11, a12, a13, a14, a15, a16, a17, a18, a19, a20, a21, a22, a23] S := by
  unfold b_law_c11
  walk_at "wpc"
  have hv : ∀ v ∈ s.B, VecOk 180000 n v := fun v h => (rr.ok.vB v h).mono (by omega)
  have g := rr.good k
  refine on_lawM k rr rr.lB hv ?_
  rw [g]
  refine ⟨_, rfl, ?_⟩
  rw [if_neg (by simp)]
  refine on_isM k rr rr.lB hv fun S1 g1 => ?_
  rw [g]
  walk_at "wpc"
  exact k12_c12 k rr (t.gr g1) hE
theorem k12_c10 {m : Nat} (k : K12 n T W) (rr : R12 n (oneN T W) T W s) (t : Tw ns 900000 S) (hk : S[m]? = some (.lst ((dueL n W).map .int))) (hE : ∀ S', E.rt (.bl true) S') :
    b_law_c10.wp E [some (.scr (ns.map .int)), some (.han 0), some (.tup (T.map VE)), some (.int (n : Nat)), a4, a5, some (.tup ((oneN T W).map VE)), some (VE (diagL n s.M)), some (.tup (s.B.map VE)), some (.han m), a10, a11, a12, a13, a14, a15, a16, a17, a18, a19, a20, a21, a22, a23] S := by
  have n1 := k.n1
  have n3 := k.n3
  unfold b_law_c10
  walk_at "wpc"
  have sk : seqOf S (.han m) = some ((dueL n W).map .int) := by
    unfold seqOf tupOf lstOf
    simp [hk]
  refine ⟨_, sk, ?_⟩
  rw [rr.ok.due k.sW, ← VE_eq]
  refine oNe_V _ _ _ _ ⟨_, rfl, ?_⟩
  rw [if_neg (by simp)]
  rw [show ((n : Int) - 1) = ((n - 1 : Nat) : Int) by omega, range0]
  refine ⟨by omega, by omega, by rw [List.length_map, List.length_range]; exact szLe (by omega), ?_⟩
  refine compGo_map0 (fun i : Nat => .int ((i : Nat) : Int)) (fun _ => false) (fun i : Nat => .int (i : Nat)) (List.range (n - 1)) (fun i hi => ⟨_, rfl, fun Qb hq => ?_, fun z => by cases z⟩) ?_
  · have hi : i < n - 1 := List.mem_range.mp hi
    have ld := rr.ok.ld
    walk_at "wpc"
    rw [show (i : Int) + 1 = ((i + 1 : Nat) : Int) by omega, ix_V (by omega)]
    walk_at "wpc"
    rw [ix_V (by omega)]
    walk_at "wpc"
    have p := rr.ok.pos i (by omega)
    have e0 : (gt (diagL n s.M) (i + 1)).fmod (gt (diagL n s.M) i) = 0 := Int.fmod_eq_zero_of_dvd (rr.ok.dvd i (by omega))
    refine ⟨by omega, ?_⟩
    rw [e0]
    simpa using hq
  · have e : (List.range (n - 1)).filter (fun _ => false) = [] := by simp
    rw [e]
    refine oNe_L eI (by decide) [] [] _ _ ⟨_, rfl, ?_⟩
    rw [if_neg (by simp)]
    exact k12_c11 k rr t hE
theorem k12_c8 (k : K12 n T W) (rr : R12 n (oneN T W) T W s) (t : Tw ns 900000 S) (hE : ∀ S', E.rt (.bl true) S') :
    b_law_c8.wp E [some (.scr (ns.map .int)), some (.han 0), some (.tup (T.map VE)), some (.int (n : Nat)), some (.tup (W.map VE)), a5, some (.tup ((oneN T W).map VE)), some (VE (diagL n s.M)), some (.tup (s.B.map VE)), a9, a10, a11, a12, a13, a14, a15, a16, a17, a18, a19, a20, a21, a22, a23] S := by
  have n1 := k.n1
  have n3 := k.n3
  unfold b_law_c8
  walk_at "wpc"
  rw [show ((n : Int) + 1 - 1).toNat = n by omega]
  refine ⟨⟨by omega, by omega, by omega, by omega⟩, ?_⟩
  unfold rangeD
  have h0 : (S ++ [DLay.O.lst []])[S.length]? = some (.lst []) := by simp
  refine forGo_pre (fun i : Nat => .int (1 + ((i : Nat) : Int))) (List.range n) (fun pre env S' => ∃ (a11 a12 : Option D), env = [some (.scr (ns.map .int)), some (.han 0), some (.tup (T.map VE)), some (.int (n : Nat)), some (.tup (W.map VE)), a5, some (.tup ((oneN T W).map VE)), some (VE (diagL n s.M)), some (.tup (s.B.map VE)), some (.han S.length), some (.int (if pre.length = 0 then 1 else (shr n pre.length W : Nat))), a11, a12, a13, a14, a15, a16, a17, a18, a19, a20, a21, a22, a23] ∧ S'[S.length]? = some (.lst (((List.range pre.length).map fun k => ((shr n (k + 1) W : Nat) : Int).fdiv (if k = 0 then 1 else (shr n k W : Nat))).map .int)) ∧ Gr S S') ?_ ?_ ⟨_, _, rfl, h0, ⟨_, rfl⟩⟩
  · rintro pre i post he env1 S1 ⟨a11, a12, rfl, hk, g1⟩
    have hi : i < n := List.mem_range.mp (by rw [he]; simp : i ∈ List.range n)
    have ei : i = pre.length := by
      have h1 : (pre ++ i :: post)[pre.length]? = some i := by simp
      have h2 : pre.length < n := by
        have := congrArg List.length he
        simp at this; omega
      rw [← he, List.getElem?_range h2] at h1
      injection h1 with h1
      exact h1.symm
    subst ei
    refine ⟨trivial, _, rfl, fun nx hnx => ?_⟩
    unfold b_law_f9
    walk_at "wpc"
    refine ⟨n, pre.length + 1, W, by rw [show ((pre.length + 1 : Nat) : Int) = 1 + (pre.length : Nat) by omega], by omega, by omega, k.lW, k.qW.mono (by omega), fun S2 g2 => ?_⟩
    refine ⟨_, rfl, ?_⟩
    walk_at "wpc"
    have hk2 : S2[S.length]? = some (.lst (((List.range pre.length).map fun k => ((shr n (k + 1) W : Nat) : Int).fdiv (if k = 0 then 1 else (shr n k W : Nat))).map .int)) := by obtain ⟨J, rfl⟩ := g2; exact app_get hk J
    have bok : IntDivOk (if pre.length = 0 then 1 else ((shr n pre.length W : Nat) : Int)) := by
      split
      · exact (sm_lit 1 (by decide)).div (by omega) (by omega)
      · have p := rr.ok.shr_pos k.sW (j := pre.length) (by omega) (by omega)
        have sh : Sm 200 ((shr n pre.length W : Nat) : Int) := by
          have gsm : ∀ i, i < n → Sm 100 (gt (diagL n s.M) i) := fun i hi => by
            rw [gt_lt (by rw [rr.ok.ld]; exact hi)]
            exact rr.sd _ (List.getElem_mem _)
          rcases (by omega : pre.length = 1 ∨ pre.length = 2) with e | e
          · rw [e, rr.ok.s1 k.sW]; exact (gsm 0 (by omega)).mono (by omega)
          · rw [e, rr.ok.s2 k.sW (by omega)]; exact (gsm 0 (by omega)).mul (gsm 1 (by omega))
        exact sh.div (by omega) (by omega)
    refine ⟨by unfold recD; simp [hk2], bok, ?_⟩
    refine ⟨_, hk2, by rw [List.length_map, List.length_map, List.length_range]; have : (4 : Nat) ≤ sizeLine := szLe (by omega)
                       omega, ?_⟩
    walk_at "wpc"
    have lp : (pre ++ [pre.length]).length = pre.length + 1 := by simp
    have e10 : (if (pre ++ [pre.length]).length = 0 then (1 : Int) else ((shr n (pre ++ [pre.length]).length W : Nat) : Int)) = ((gcdL (minL n (pre.length + 1) W) : Nat) : Int) := by
      rw [lp, if_neg (by omega)]
      rfl
    refine hnx _ _ ⟨some (.int (1 + (pre.length : Nat))), some (.int (gcdL (minL n (pre.length + 1) W) : Nat)), by rw [e10], ?_, ?_⟩
    · rw [List.getElem?_set_self (List.getElem?_eq_some_iff.mp hk2).1, lp, List.range_succ, List.map_append, List.map_append]
      rfl
    · exact gr_set (g1.trans g2) _
  · rintro env1 S1 ⟨a11, a12, rfl, hk, g1⟩
    rw [List.length_range] at hk
    exact ⟨trivial, k12_c10 k rr (t.gr g1) hk hE⟩
theorem k12_c5 {f : Nat} {U : List (List Int)} (n1 : 1 ≤ n) (n3 : n ≤ 3) (MT : Mat n 8 T) (dT : detL T ≠ 0) (MU : Mat n 4 U) (dU : detL U ≠ 0) (f1 : 1 ≤ f) (f6 : f ≤ 6) (t : Tw ns 900000 S) (hE : ∀ S', E.rt (.bl true) S') :
    b_law_c5.wp E [some (.scr (ns.map .int)), some (.han 0), some (.tup (T.map VE)), some (.int (n : Nat)), some (.tup (U.map VE)), some (.int (f : Nat)), a6, a7, a8, a9, a10, a11, a12, a13, a14, a15, a16, a17, a18, a19, a20, a21, a22, a23] S := by
  unfold b_law_c5
  walk_at "wpc"
  refine ⟨by rw [List.length_map, MU.1]; exact szLe (by omega), ?_⟩
  have sf : Sm 3 (f : Int) := by unfold Sm; omega
  refine compGo_all0 VE (fun r => VE (smul (f : Nat) r)) U (fun r hr => ⟨_, rfl, fun Qd hq => ?_⟩) ?_
  · have lr := (MU.2 r hr).1
    rw [VE_eq r]
    walk_at "wpc"
    refine ⟨by rw [List.length_map, lr]; exact szLe (by omega), ?_⟩
    refine compGo_all0 D.int (fun x => .int ((f : Nat) * x)) r (fun x hx => ⟨_, rfl, fun Qd hq' => ?_⟩) ?_
    · walk_at "wpc"
      have hb := (MU.2 r hr).2 x hx
      exact ⟨sf.ok (show Sm 10 x by unfold Sm; omega) (by omega), hq'⟩
    walk_at "wpc"
    rw [show (r.map fun x => D.int ((f : Nat) * x)) = (smul (f : Nat) r).map .int by rw [smul, List.map_map]; rfl]
    exact hq
  rw [show (U.map fun r => VE (smul (f : Nat) r)) = (U.map (smul (f : Nat))).map VE by rw [List.map_map]; rfl]
  have K : K12 n T (U.map (smul (f : Nat))) := ⟨n1, n3, MT, ⟨by rw [List.length_map, MU.1], fun v hv => by
    obtain ⟨r, hr, rfl⟩ := List.mem_map.mp hv
    refine ⟨by rw [smul_len]; exact (MU.2 r hr).1, fun x hx => ?_⟩
    obtain ⟨y, hy, rfl⟩ := List.mem_map.mp hx
    have hb := (MU.2 r hr).2 y hy
    rw [Int.natAbs_mul]
    exact Nat.le_trans (Nat.mul_le_mul (show ((f : Nat) : Int).natAbs ≤ 6 by omega) hb) (by omega)⟩, dT, by
    rw [det_smul (MU.sqr n1 n3)]
    exact Int.mul_ne_zero (Int.pow_ne_zero (by omega)) dU⟩
  generalize U.map (smul (f : Nat)) = W at K ⊢
  walk_at "wpc"
  refine ⟨by rw [List.length_map, K.lW]; exact szLe (by omega), ?_⟩
  refine compGo_all0 VE (fun r => VE (mixV r T)) W (fun r hr => ⟨_, rfl, fun Qd hq => ?_⟩) ?_
  · walk_at "wpc"
    have vr := VecOk.of_mem K.qW hr
    refine ⟨r, T, _, rfl, .inl rfl, ?_, K.qT.mono (by omega), hq⟩
    rw [K.lW] at vr
    rw [K.lT]
    exact vr.mono (by omega)
  rw [show (W.map fun r => VE (mixV r T)) = (oneN T W).map VE by simp [oneN]]
  obtain ⟨s, rr⟩ := K.r12
  walk_at "wpc"
  refine ⟨_, _, rfl, on_mat K rr fun S1 g1 => ?_⟩
  refine ⟨_, _, rfl, on_mat K rr fun S2 g2 => ?_⟩
  walk_at "wpc"
  exact k12_c8 K rr ((t.gr g1).gr g2) hE
end
theorem w_law {ds : List D} {S' : Sto} {Q : QD} {X : XD} (h : cLaw ds S' Q X) : ctOf N_law.length b_law ds S' Q X := by
  obtain ⟨ns, rfl, hl, rfl, h⟩ := h
  unfold b_law N_law
  walk_at "wpc"
  refine Tw.town hl fun S1 t1 => ?_
  walk_at "wpc"
  refine Tw.pick (k := 999000) (t1.mono (by omega)) (by simp) (by simp) fun x hx S2 t2 => ?_
  obtain ⟨m, rfl, m1, m8⟩ : ∃ m : Nat, x = .int (m : Nat) ∧ 1 ≤ m ∧ m ≤ 8 := by
    simp at hx
    rcases hx with rfl | rfl | rfl
    · exact ⟨1, rfl, by omega, by omega⟩
    · exact ⟨3, rfl, by omega, by omega⟩
    · exact ⟨8, rfl, by omega, by omega⟩
  refine Tw.basis (most := m) (k := 990000) (t2.mono (by omega)) (by omega) (by omega) fun n T S3 n1 n3 MT dT t3 => ?_
  walk_at "wpc"
  rw [List.length_map, MT.1]
  refine Tw.basis_in (most := 4) (k := 970000) (t3.mono (by omega)) n1 n3 (by omega) (by omega) fun U S4 MU dU t4 => ?_
  walk_at "wpc"
  refine Tw.pick (k := 960000) (t4.mono (by omega)) (by simp) (by simp) fun x hx S5 t5 => ?_
  obtain ⟨f, rfl, f1, f6⟩ : ∃ f : Nat, x = .int (f : Nat) ∧ 1 ≤ f ∧ f ≤ 6 := by
    simp at hx
    rcases hx with rfl | rfl | rfl
    · exact ⟨1, rfl, by omega, by omega⟩
    · exact ⟨2, rfl, by omega, by omega⟩
    · exact ⟨6, rfl, by omega, by omega⟩
  walk_at "wpc"
  exact k12_c5 n1 n3 (MT.mono m8) dT MU dU f1 f6 (t5.mono (by omega)) h
theorem m_is_integer : b_is_integer.mt ⟨N_is_integer, defScope (topS 6), fun _ => true⟩ (defBody (topS 6)) = true := by decide +kernel
theorem sc_is_integer : FnScope N_is_integer ["value"] (defScope (topS 6)) := ⟨rfl, rfl, rfl, by decide +kernel, rfl, by decide +kernel, by decide +kernel⟩
theorem m_is_between : b_is_between.mt ⟨N_is_between, defScope (topS 7), fun _ => true⟩ (defBody (topS 7)) = true := by decide +kernel
theorem sc_is_between : FnScope N_is_between ["value", "low", "high"] (defScope (topS 7)) := ⟨rfl, rfl, rfl, by decide +kernel, rfl, by decide +kernel, by decide +kernel⟩
theorem m_determinant : (b_determinant c_det2).mt ⟨N_determinant, defScope (topS 10), fun _ => true⟩ (defBody (topS 10)) = true := by decide +kernel
theorem m_det0 : (b_determinant c_det0).mt ⟨N_determinant, defScope (topS 10), fun _ => true⟩ (defBody (topS 10)) = true := by decide +kernel
theorem sc_determinant : FnScope N_determinant ["rows"] (defScope (topS 10)) := ⟨rfl, rfl, rfl, by decide +kernel, rfl, by decide +kernel, by decide +kernel⟩
theorem m_is_vector : b_is_vector.mt ⟨N_is_vector, defScope (topS 11), fun _ => true⟩ (defBody (topS 11)) = true := by decide +kernel
theorem sc_is_vector : FnScope N_is_vector ["n", "value"] (defScope (topS 11)) := ⟨rfl, rfl, rfl, by decide +kernel, rfl, by decide +kernel, by decide +kernel⟩
theorem m_is_basis : b_is_basis.mt ⟨N_is_basis, defScope (topS 12), fun _ => true⟩ (defBody (topS 12)) = true := by decide +kernel
theorem sc_is_basis : FnScope N_is_basis ["value"] (defScope (topS 12)) := ⟨rfl, rfl, rfl, by decide +kernel, rfl, by decide +kernel, by decide +kernel⟩
theorem m_check_basis : b_check_basis.mt ⟨N_check_basis, defScope (topS 13), fun _ => true⟩ (defBody (topS 13)) = true := by decide +kernel
theorem sc_check_basis : FnScope N_check_basis ["value"] (defScope (topS 13)) := ⟨rfl, rfl, rfl, by decide +kernel, rfl, by decide +kernel, by decide +kernel⟩
theorem m_check_bases : b_check_bases.mt ⟨N_check_bases, defScope (topS 14), fun _ => true⟩ (defBody (topS 14)) = true := by decide +kernel
theorem sc_check_bases : FnScope N_check_bases ["one", "other"] (defScope (topS 14)) := ⟨rfl, rfl, rfl, by decide +kernel, rfl, by decide +kernel, by decide +kernel⟩
theorem m_plus : b_plus.mt ⟨N_plus, defScope (topS 15), fun _ => true⟩ (defBody (topS 15)) = true := by decide +kernel
theorem sc_plus : FnScope N_plus ["one", "factor", "other"] (defScope (topS 15)) := ⟨rfl, rfl, rfl, by decide +kernel, rfl, by decide +kernel, by decide +kernel⟩
theorem m_solved : b_solvedW.mt ⟨N_solvedW, defScope (topS 16), fun _ => true⟩ (defBody (topS 16)) = true := by decide +kernel
theorem sc_solved : FnScope N_solvedW ["basis", "vector"] (defScope (topS 16)) := ⟨rfl, rfl, rfl, by decide +kernel, rfl, by decide +kernel, by decide +kernel⟩
theorem m_whole_coefficients : b_whole_coefficientsW.mt ⟨N_whole_coefficientsW, defScope (topS 17), fun _ => true⟩ (defBody (topS 17)) = true := by decide +kernel
theorem sc_whole_coefficients : FnScope N_whole_coefficientsW ["basis", "vector"] (defScope (topS 17)) := ⟨rfl, rfl, rfl, by decide +kernel, rfl, by decide +kernel, by decide +kernel⟩
theorem m_are_vectors : b_are_vectors.mt ⟨N_are_vectors, defScope (topS 18), fun _ => true⟩ (defBody (topS 18)) = true := by decide +kernel
theorem sc_are_vectors : FnScope N_are_vectors ["n", "value"] (defScope (topS 18)) := ⟨rfl, rfl, rfl, by decide +kernel, rfl, by decide +kernel, by decide +kernel⟩
theorem m_is_other_basis : b_is_other_basisW.mt ⟨N_is_other_basisW, defScope (topS 19), fun _ => true⟩ (defBody (topS 19)) = true := by decide +kernel
theorem sc_is_other_basis : FnScope N_is_other_basisW ["basis", "value"] (defScope (topS 19)) := ⟨rfl, rfl, rfl, by decide +kernel, rfl, by decide +kernel, by decide +kernel⟩
theorem m_is_inside : b_is_inside.mt ⟨N_is_inside, defScope (topS 21), fun _ => true⟩ (defBody (topS 21)) = true := by decide +kernel
theorem sc_is_inside : FnScope N_is_inside ["one", "other"] (defScope (topS 21)) := ⟨rfl, rfl, rfl, by decide +kernel, rfl, by decide +kernel, by decide +kernel⟩
theorem m_check_part : b_check_part.mt ⟨N_check_part, defScope (topS 22), fun _ => true⟩ (defBody (topS 22)) = true := by decide +kernel
theorem sc_check_part : FnScope N_check_part ["one", "other"] (defScope (topS 22)) := ⟨rfl, rfl, rfl, by decide +kernel, rfl, by decide +kernel, by decide +kernel⟩
theorem m_least_place : b_least_place.mt ⟨N_least_place, defScope (topS 23), fun _ => true⟩ (defBody (topS 23)) = true := by decide +kernel
theorem sc_least_place : FnScope N_least_place ["rows", "start"] (defScope (topS 23)) := ⟨rfl, rfl, rfl, by decide +kernel, rfl, by decide +kernel, by decide +kernel⟩
theorem m_swapped : b_swapped.mt ⟨N_swapped, defScope (topS 24), fun _ => true⟩ (defBody (topS 24)) = true := by decide +kernel
theorem sc_swapped : FnScope N_swapped ["rows", "i", "j"] (defScope (topS 24)) := ⟨rfl, rfl, rfl, by decide +kernel, rfl, by decide +kernel, by decide +kernel⟩
theorem m_odd_row : b_odd_row.mt ⟨N_odd_row, defScope (topS 26), fun _ => true⟩ (defBody (topS 26)) = true := by decide +kernel
theorem sc_odd_row : FnScope N_odd_row ["table", "start"] (defScope (topS 26)) := ⟨rfl, rfl, rfl, by decide +kernel, rfl, by decide +kernel, by decide +kernel⟩
theorem m_matched : b_matched.mt ⟨N_matched, defScope (topS 25), fun _ => true⟩ (defBody (topS 25)) = true := by decide +kernel
theorem sc_matched : FnScope N_matched ["one", "other"] (defScope (topS 25)) := ⟨rfl, rfl, rfl, by decide +kernel, rfl, by decide +kernel, by decide +kernel⟩
theorem m_divisors : b_divisors.mt ⟨N_divisors, defScope (topS 27), fun _ => true⟩ (defBody (topS 27)) = true := by decide +kernel
theorem sc_divisors : FnScope N_divisors ["one", "other"] (defScope (topS 27)) := ⟨rfl, rfl, rfl, by decide +kernel, rfl, by decide +kernel, by decide +kernel⟩
theorem m_matched_basis : b_matched_basis.mt ⟨N_matched_basis, defScope (topS 28), fun _ => true⟩ (defBody (topS 28)) = true := by decide +kernel
theorem sc_matched_basis : FnScope N_matched_basis ["one", "other"] (defScope (topS 28)) := ⟨rfl, rfl, rfl, by decide +kernel, rfl, by decide +kernel, by decide +kernel⟩
theorem m_is_matched_basis : b_is_matched_basis.mt ⟨N_is_matched_basis, defScope (topS 29), fun _ => true⟩ (defBody (topS 29)) = true := by decide +kernel
theorem sc_is_matched_basis : FnScope N_is_matched_basis ["one", "other", "value"] (defScope (topS 29)) := ⟨rfl, rfl, rfl, by decide +kernel, rfl, by decide +kernel, by decide +kernel⟩
theorem m__law_town : b__law_town.mt ⟨N__law_town, defScope (topS 31), fun _ => true⟩ (defBody (topS 31)) = true := by decide +kernel
theorem sc__law_town : FnScope N__law_town ["script"] (defScope (topS 31)) := ⟨rfl, rfl, rfl, by decide +kernel, rfl, by decide +kernel, by decide +kernel⟩
theorem m__law_draw : b__law_draw.mt ⟨N__law_draw, defScope (topS 32), fun _ => true⟩ (defBody (topS 32)) = true := by decide +kernel
theorem sc__law_draw : FnScope N__law_draw ["script", "town", "limit"] (defScope (topS 32)) := ⟨rfl, rfl, rfl, by decide +kernel, rfl, by decide +kernel, by decide +kernel⟩
theorem m__law_pick : b__law_pick.mt ⟨N__law_pick, defScope (topS 33), fun _ => true⟩ (defBody (topS 33)) = true := by decide +kernel
theorem sc__law_pick : FnScope N__law_pick ["script", "town", "choices"] (defScope (topS 33)) := ⟨rfl, rfl, rfl, by decide +kernel, rfl, by decide +kernel, by decide +kernel⟩
theorem m__law_det : b__law_det.mt ⟨N__law_det, defScope (topS 36), fun _ => true⟩ (defBody (topS 36)) = true := by decide +kernel
theorem sc__law_det : FnScope N__law_det ["rows"] (defScope (topS 36)) := ⟨rfl, rfl, rfl, by decide +kernel, rfl, by decide +kernel, by decide +kernel⟩
theorem m__law_basis_in : b__law_basis_in.mt ⟨N__law_basis_in, defScope (topS 35), fun _ => true⟩ (defBody (topS 35)) = true := by decide +kernel
theorem sc__law_basis_in : FnScope N__law_basis_in ["script", "town", "n", "most"] (defScope (topS 35)) := ⟨rfl, rfl, rfl, by decide +kernel, rfl, by decide +kernel, by decide +kernel⟩
theorem m__law_basis : b__law_basis.mt ⟨N__law_basis, defScope (topS 34), fun _ => true⟩ (defBody (topS 34)) = true := by decide +kernel
theorem sc__law_basis : FnScope N__law_basis ["script", "town", "most"] (defScope (topS 34)) := ⟨rfl, rfl, rfl, by decide +kernel, rfl, by decide +kernel, by decide +kernel⟩
theorem m__law_mix : b__law_mix.mt ⟨N__law_mix, defScope (topS 37), fun _ => true⟩ (defBody (topS 37)) = true := by decide +kernel
theorem sc__law_mix : FnScope N__law_mix ["factors", "rows"] (defScope (topS 37)) := ⟨rfl, rfl, rfl, by decide +kernel, rfl, by decide +kernel, by decide +kernel⟩
theorem m__law_has : b__law_hasW.mt ⟨N__law_hasW, defScope (topS 38), fun _ => true⟩ (defBody (topS 38)) = true := by decide +kernel
theorem sc__law_has : FnScope N__law_hasW ["basis", "vector"] (defScope (topS 38)) := ⟨rfl, rfl, rfl, by decide +kernel, rfl, by decide +kernel, by decide +kernel⟩
theorem m__law_spans : b__law_spansW.mt ⟨N__law_spansW, defScope (topS 39), fun _ => true⟩ (defBody (topS 39)) = true := by decide +kernel
theorem sc__law_spans : FnScope N__law_spansW ["basis", "rows"] (defScope (topS 39)) := ⟨rfl, rfl, rfl, by decide +kernel, rfl, by decide +kernel, by decide +kernel⟩
theorem m__law_shared : b__law_shared.mt ⟨N__law_shared, defScope (topS 40), fun _ => true⟩ (defBody (topS 40)) = true := by decide +kernel
theorem sc__law_shared : FnScope N__law_shared ["numbers"] (defScope (topS 40)) := ⟨rfl, rfl, rfl, by decide +kernel, rfl, by decide +kernel, by decide +kernel⟩
theorem m__law_minors : b__law_minors.mt ⟨N__law_minors, defScope (topS 41), fun _ => true⟩ (defBody (topS 41)) = true := by decide +kernel
theorem sc__law_minors : FnScope N__law_minors ["table", "k"] (defScope (topS 41)) := ⟨rfl, rfl, rfl, by decide +kernel, rfl, by decide +kernel, by decide +kernel⟩
theorem m__law_is_matched : b__law_is_matched.mt ⟨N__law_is_matched, defScope (topS 42), fun _ => true⟩ (defBody (topS 42)) = true := by decide +kernel
theorem sc__law_is_matched : FnScope N__law_is_matched ["one", "other", "numbers", "value"] (defScope (topS 42)) := ⟨rfl, rfl, rfl, by decide +kernel, rfl, by decide +kernel, by decide +kernel⟩
theorem m_law : b_law.mt ⟨N_law, defScope (topS 43), fun _ => true⟩ (defBody (topS 43)) = true := by decide +kernel
theorem sc_law : FnScope N_law ["script"] (defScope (topS 43)) := ⟨rfl, rfl, rfl, by decide +kernel, rfl, by decide +kernel, by decide +kernel⟩
local macro_rules | `(tactic| walk_at "rq") => `(tactic| simp only [q0, q1, q2, q3, q4, q5, q6, q7, q8, q9, q10, q11, q12, q13, q14, q15, q16, q17, q18, q19, q20, q21, q22, q23, q24, q25, q26, q27, q28, q29, q30, q31, q32, q33, q34, q35, q37, q38, q39, q40, q41, q42, q43, q44, q45, q46, q47, q48, q50, q51, q52, q53, q54, q55, q56, q57, q59, q60, q61, q62, q63, q64, q65, q66, q67, q68, q69, q70, q71, q73, qn0, qn1, r0, r1, r2, r3, r4, r5, r6, r7, r8, r9, r10, r12, r19, r20, allC_nil, allC_cons, r28a, r30a, r32b, r32c, r38c, r40a, and_true, true_and, and_self, Nat.reduceAdd, Nat.zero_add])
def HFn (K : PySem.W.Frag) (x : Str) (st : Stmt) : Prop := ∃ (f : Addr) (oc : Value) (od an : Option Addr) (osl : Array (Option Value)) (kV doc pm cdv ct : Value), PySem.W.nsIn K mainGlobals x = some (some (.ref f)) ∧ K.lookup f = some ⟨oc, od, .func (PySem.W.fnOf x x (defArgs st) (defBody st) (defScope st) .none kV doc pm an cdv ct), osl⟩ ∧ PySem.W.codeIn K cdv x = true ∧ PySem.W.keepIn K (.ref f) = true
def HEx (K : PySem.W.Frag) (x : Str) : Prop := ∃ C, PySem.W.nsIn K mainGlobals x = some (some (.ref C)) ∧ PySem.W.excIn K C [.type "ValueError", .type "Exception", .type "BaseException", .type "object"] "ValueError.__new__" = true ∧ PySem.W.keepIn K (.ref C) = true ∧ PySem.W.subIn K (.ref C) (.type "BaseException") = some true ∧ PySem.W.typeIn K (.ref C) = some (.type "type")
def XOk (K : PySem.W.Frag) (mg : Str → Option Value) (x : Str) : Prop := ∃ C, mg x = some (.ref C) ∧ PySem.W.excIn K C [.type "ValueError", .type "Exception", .type "BaseException", .type "object"] "ValueError.__new__" = true ∧ PySem.W.keepIn K (.ref C) = true ∧ PySem.W.subIn K (.ref C) (.type "BaseException") = some true ∧ PySem.W.typeIn K (.ref C) = some (.type "type")
section
variable {P : Program} {w : World} {K : PySem.W.Frag} {T : List (Addr × Str)} {mg : Str → Option Value} {base h : Heap}
theorem HEx.ok {x : Str} (H : HEx K x) (X : K.In h) (G : h.Ns mainGlobals mg) : XOk K mg x := by
  obtain ⟨C, a, r⟩ := H
  exact ⟨C, PySem.W.mg_of X G a, r⟩
theorem fn_H {x : Str} {st : Stmt} {N ps : List Str} {k n : Nat} {b : DB} {C : Ct} (H : HFn K x st) (X : K.In h) (G : h.Ns mainGlobals mg) (S : FnScope N ps (defScope st)) (hn : ps.length = n)
    (hb : ∀ (kV doc pm : Value) (an : Option Addr) (cdv ct : Value) (us : List Value), us.length = ps.length → bindArgs (PySem.W.fnOf x x (defArgs st) (defBody st) (defScope st) .none kV doc pm an cdv ct) ⟨us, []⟩ = pure (ps.zip us))
    (hm : b.mt ⟨N, defScope st, fun _ => true⟩ (defBody st) = true) (hw : ∀ {ds S Q X}, C ds S Q X → ctOf N.length b ds S Q X) (hq : ∀ A cdv, Room k A → b.rq ⟨P, w, K, mg, base, A, cdv, x ++ ".<locals>.", T⟩) : FnAt P w ⟨K, T⟩ mg base (k + 1) x n C := by
  obtain ⟨f, oc, od, an, osl, kV, doc, pm, cdv, ct, a, l, c, kp⟩ := H
  exact fn_atK (K := ⟨K, T⟩) X G a l c kp S hn hb hm hw fun A hr => hq A cdv hr
theorem none_H {x : Str} {st : Stmt} {N ps : List Str} {k n : Nat} (H : HFn K x st) (X : K.In h) (G : h.Ns mainGlobals mg) (S : FnScope N ps (defScope st)) (hn : ps.length = n)
    (hb : ∀ (kV doc pm : Value) (an : Option Addr) (cdv ct : Value) (us : List Value), us.length = ps.length → bindArgs (PySem.W.fnOf x x (defArgs st) (defBody st) (defScope st) .none kV doc pm an cdv ct) ⟨us, []⟩ = pure (ps.zip us)) : FnAt P w ⟨K, T⟩ mg base k x n (fun _ _ _ _ => False) := by
  obtain ⟨f, oc, od, an, osl, kV, doc, pm, cdv, ct, a, l, c, kp⟩ := H
  exact fn_none (K := ⟨K, T⟩) X G a l c kp S hn hb
def HBl (K : PySem.W.Frag) : Prop := PySem.W.nsIn K mainGlobals "abs" = some none ∧ PySem.W.nsIn K mainGlobals "all" = some none ∧ PySem.W.nsIn K mainGlobals "any" = some none ∧ PySem.W.nsIn K mainGlobals "bool" = some none ∧ PySem.W.nsIn K mainGlobals "enumerate" = some none ∧ PySem.W.nsIn K mainGlobals "int" = some none ∧ PySem.W.nsIn K mainGlobals "isinstance" = some none ∧ PySem.W.nsIn K mainGlobals "len" = some none ∧ PySem.W.nsIn K mainGlobals "list" = some none ∧ PySem.W.nsIn K mainGlobals "range" = some none ∧ PySem.W.nsIn K mainGlobals "sum" = some none ∧ PySem.W.nsIn K mainGlobals "tuple" = some none ∧ PySem.W.nsIn K mainGlobals "zip" = some none
def WBl (mg : Str → Option Value) : Prop := mg "abs" = none ∧ mg "all" = none ∧ mg "any" = none ∧ mg "bool" = none ∧ mg "enumerate" = none ∧ mg "int" = none ∧ mg "isinstance" = none ∧ mg "len" = none ∧ mg "list" = none ∧ mg "range" = none ∧ mg "sum" = none ∧ mg "tuple" = none ∧ mg "zip" = none
theorem HBl.ok (H : HBl K) (X : K.In h) (G : h.Ns mainGlobals mg) : WBl mg := by
  obtain ⟨zabs, zall, zany, zbool, zenumerate, zint, zisinstance, zlen, zlist, zrange, zsum, ztuple, zzip⟩ := H
  exact ⟨PySem.W.mg_none_of X G zabs, PySem.W.mg_none_of X G zall, PySem.W.mg_none_of X G zany, PySem.W.mg_none_of X G zbool, PySem.W.mg_none_of X G zenumerate, PySem.W.mg_none_of X G zint, PySem.W.mg_none_of X G zisinstance, PySem.W.mg_none_of X G zlen, PySem.W.mg_none_of X G zlist, PySem.W.mg_none_of X G zrange, PySem.W.mg_none_of X G zsum, PySem.W.mg_none_of X G ztuple, PySem.W.mg_none_of X G zzip⟩
def HG_LIMIT (K : PySem.W.Frag) : Prop := ∃ t, PySem.W.nsIn K mainGlobals "LIMIT" = some (some (.int 1000000 t))
theorem TF_is_integer (X : K.In h) (G : h.Ns mainGlobals mg) (B : WBl mg)  (H : HFn K "is_integer" (topS 6)) : FnAt P w ⟨K, T⟩ mg base 1 "is_integer" 1 c_is_integer := by
  exact fn_H H X G sc_is_integer rfl (fun _ _ _ _ _ _ us hl => match us, hl with | [_], _ => rfl) m_is_integer w_is_integer (fun A cd hr => by
    obtain ⟨zabs, zall, zany, zbool, zenumerate, zint, zisinstance, zlen, zlist, zrange, zsum, ztuple, zzip⟩ := B
    simp only [b_is_integer]
    (try walk_at "rq")
    (try exact trivial)
    all_goals (repeat' (first | apply And.intro | assumption)))
theorem TF_is_between (X : K.In h) (G : h.Ns mainGlobals mg) (B : WBl mg) (F_is_integer : FnAt P w ⟨K, T⟩ mg base 1 "is_integer" 1 c_is_integer) (H : HFn K "is_between" (topS 7)) : FnAt P w ⟨K, T⟩ mg base 2 "is_between" 3 c_is_between := by
  exact fn_H H X G sc_is_between rfl (fun _ _ _ _ _ _ us hl => match us, hl with | [_, _, _], _ => rfl) m_is_between w_is_between (fun A cd hr => by
    obtain ⟨zabs, zall, zany, zbool, zenumerate, zint, zisinstance, zlen, zlist, zrange, zsum, ztuple, zzip⟩ := B
    simp only [b_is_between]
    (try walk_at "rq")
    (try exact trivial)
    all_goals (repeat' (first | apply And.intro | assumption | exact ⟨1, F_is_integer.mono (by decide), hr⟩)))
theorem TF_z (X : K.In h) (G : h.Ns mainGlobals mg) (H : HFn K "determinant" (topS 10)) : FnAt P w ⟨K, T⟩ mg base 1 "determinant" 1 c_det0 := none_H H X G sc_determinant rfl (fun _ _ _ _ _ _ us hl => match us, hl with | [_], _ => rfl)
theorem TF_y (X : K.In h) (G : h.Ns mainGlobals mg) (B : WBl mg) (F_z : FnAt P w ⟨K, T⟩ mg base 1 "determinant" 1 c_det0) (H : HFn K "determinant" (topS 10)) : FnAt P w ⟨K, T⟩ mg base 2 "determinant" 1 c_det2 := by
  exact fn_H H X G sc_determinant rfl (fun _ _ _ _ _ _ us hl => match us, hl with | [_], _ => rfl) m_det0 w_det2 (fun A cd hr => by
    obtain ⟨zabs, zall, zany, zbool, zenumerate, zint, zisinstance, zlen, zlist, zrange, zsum, ztuple, zzip⟩ := B
    simp only [b_determinant, b_determinant_c2, b_determinant_f3]
    (try walk_at "rq")
    (try exact trivial)
    all_goals (repeat' (first | apply And.intro | assumption | exact ⟨1, F_z.mono (by decide), hr⟩)))
theorem TF_determinant (X : K.In h) (G : h.Ns mainGlobals mg) (B : WBl mg) (F_y : FnAt P w ⟨K, T⟩ mg base 2 "determinant" 1 c_det2) (H : HFn K "determinant" (topS 10)) : FnAt P w ⟨K, T⟩ mg base 3 "determinant" 1 c_determinant := by
  exact fn_H H X G sc_determinant rfl (fun _ _ _ _ _ _ us hl => match us, hl with | [_], _ => rfl) m_determinant w_determinant (fun A cd hr => by
    obtain ⟨zabs, zall, zany, zbool, zenumerate, zint, zisinstance, zlen, zlist, zrange, zsum, ztuple, zzip⟩ := B
    simp only [b_determinant, b_determinant_c2, b_determinant_f3]
    (try walk_at "rq")
    (try exact trivial)
    all_goals (repeat' (first | apply And.intro | assumption | exact ⟨2, F_y.mono (by decide), hr⟩)))
theorem TF_is_vector (X : K.In h) (G : h.Ns mainGlobals mg) (B : WBl mg) (gLIMIT : ∃ t, mg "LIMIT" = some (.int 1000000 t)) (F_is_between : FnAt P w ⟨K, T⟩ mg base 2 "is_between" 3 c_is_between) (H : HFn K "is_vector" (topS 11)) : FnAt P w ⟨K, T⟩ mg base 3 "is_vector" 2 c_is_vector := by
  exact fn_H H X G sc_is_vector rfl (fun _ _ _ _ _ _ us hl => match us, hl with | [_, _], _ => rfl) m_is_vector w_is_vector (fun A cd hr => by
    obtain ⟨zabs, zall, zany, zbool, zenumerate, zint, zisinstance, zlen, zlist, zrange, zsum, ztuple, zzip⟩ := B
    simp only [b_is_vector]
    (try walk_at "rq")
    (try exact trivial)
    all_goals (repeat' (first | apply And.intro | assumption | exact ⟨2, F_is_between.mono (by decide), hr⟩)))
theorem TF_is_basis (X : K.In h) (G : h.Ns mainGlobals mg) (B : WBl mg) (F_is_vector : FnAt P w ⟨K, T⟩ mg base 3 "is_vector" 2 c_is_vector) (F_determinant : FnAt P w ⟨K, T⟩ mg base 3 "determinant" 1 c_determinant) (H : HFn K "is_basis" (topS 12)) : FnAt P w ⟨K, T⟩ mg base 4 "is_basis" 1 c_is_basis := by
  exact fn_H H X G sc_is_basis rfl (fun _ _ _ _ _ _ us hl => match us, hl with | [_], _ => rfl) m_is_basis w_is_basis (fun A cd hr => by
    obtain ⟨zabs, zall, zany, zbool, zenumerate, zint, zisinstance, zlen, zlist, zrange, zsum, ztuple, zzip⟩ := B
    simp only [b_is_basis]
    (try walk_at "rq")
    (try exact trivial)
    all_goals (repeat' (first | apply And.intro | assumption | exact ⟨3, F_is_vector.mono (by decide), hr⟩ | exact ⟨3, F_determinant.mono (by decide), hr⟩)))
theorem TF_check_basis (X : K.In h) (G : h.Ns mainGlobals mg) (B : WBl mg) (XInvalidBasis : XOk K mg "InvalidBasis") (F_is_basis : FnAt P w ⟨K, T⟩ mg base 4 "is_basis" 1 c_is_basis) (H : HFn K "check_basis" (topS 13)) : FnAt P w ⟨K, T⟩ mg base 5 "check_basis" 1 c_check_basis := by
  exact fn_H H X G sc_check_basis rfl (fun _ _ _ _ _ _ us hl => match us, hl with | [_], _ => rfl) m_check_basis w_check_basis (fun A cd hr => by
    obtain ⟨zabs, zall, zany, zbool, zenumerate, zint, zisinstance, zlen, zlist, zrange, zsum, ztuple, zzip⟩ := B
    simp only [b_check_basis]
    (try walk_at "rq")
    (try exact trivial)
    all_goals (repeat' (first | apply And.intro | assumption | exact ⟨4, F_is_basis.mono (by decide), hr⟩)))
theorem TF_check_bases (X : K.In h) (G : h.Ns mainGlobals mg) (B : WBl mg) (XUnlike : XOk K mg "Unlike") (F_check_basis : FnAt P w ⟨K, T⟩ mg base 5 "check_basis" 1 c_check_basis) (H : HFn K "check_bases" (topS 14)) : FnAt P w ⟨K, T⟩ mg base 6 "check_bases" 2 c_check_bases := by
  exact fn_H H X G sc_check_bases rfl (fun _ _ _ _ _ _ us hl => match us, hl with | [_, _], _ => rfl) m_check_bases w_check_bases (fun A cd hr => by
    obtain ⟨zabs, zall, zany, zbool, zenumerate, zint, zisinstance, zlen, zlist, zrange, zsum, ztuple, zzip⟩ := B
    simp only [b_check_bases]
    (try walk_at "rq")
    (try exact trivial)
    all_goals (repeat' (first | apply And.intro | assumption | exact ⟨5, F_check_basis.mono (by decide), hr⟩)))
theorem TF_plus (X : K.In h) (G : h.Ns mainGlobals mg) (B : WBl mg)  (H : HFn K "plus" (topS 15)) : FnAt P w ⟨K, T⟩ mg base 1 "plus" 3 c_plus := by
  exact fn_H H X G sc_plus rfl (fun _ _ _ _ _ _ us hl => match us, hl with | [_, _, _], _ => rfl) m_plus w_plus (fun A cd hr => by
    obtain ⟨zabs, zall, zany, zbool, zenumerate, zint, zisinstance, zlen, zlist, zrange, zsum, ztuple, zzip⟩ := B
    simp only [b_plus]
    (try walk_at "rq")
    (try exact trivial)
    all_goals (repeat' (first | apply And.intro | assumption)))
theorem TF_solved (X : K.In h) (G : h.Ns mainGlobals mg) (B : WBl mg) (F_determinant : FnAt P w ⟨K, T⟩ mg base 3 "determinant" 1 c_determinant) (H : HFn K "solved" (topS 16)) : FnAt P w ⟨K, T⟩ mg base 4 "solved" 2 c_solvedW := by
  exact fn_H H X G sc_solved rfl (fun _ _ _ _ _ _ us hl => match us, hl with | [_, _], _ => rfl) m_solved w_solvedW (fun A cd hr => by
    obtain ⟨zabs, zall, zany, zbool, zenumerate, zint, zisinstance, zlen, zlist, zrange, zsum, ztuple, zzip⟩ := B
    simp only [b_solvedW]
    (try walk_at "rq")
    (try exact trivial)
    all_goals (repeat' (first | apply And.intro | assumption | exact ⟨3, F_determinant.mono (by decide), hr⟩)))
theorem TF_whole_coefficients (X : K.In h) (G : h.Ns mainGlobals mg) (B : WBl mg) (F_determinant : FnAt P w ⟨K, T⟩ mg base 3 "determinant" 1 c_determinant) (F_solved : FnAt P w ⟨K, T⟩ mg base 4 "solved" 2 c_solvedW) (H : HFn K "whole_coefficients" (topS 17)) : FnAt P w ⟨K, T⟩ mg base 5 "whole_coefficients" 2 c_whole_coefficientsW := by
  exact fn_H H X G sc_whole_coefficients rfl (fun _ _ _ _ _ _ us hl => match us, hl with | [_, _], _ => rfl) m_whole_coefficients w_whole_coefficientsW (fun A cd hr => by
    obtain ⟨zabs, zall, zany, zbool, zenumerate, zint, zisinstance, zlen, zlist, zrange, zsum, ztuple, zzip⟩ := B
    simp only [b_whole_coefficientsW]
    (try walk_at "rq")
    (try exact trivial)
    all_goals (repeat' (first | apply And.intro | assumption | exact ⟨4, F_determinant.mono (by decide), hr⟩ | exact ⟨4, F_solved.mono (by decide), hr⟩)))
theorem TF_are_vectors (X : K.In h) (G : h.Ns mainGlobals mg) (B : WBl mg) (F_is_integer : FnAt P w ⟨K, T⟩ mg base 1 "is_integer" 1 c_is_integer) (H : HFn K "are_vectors" (topS 18)) : FnAt P w ⟨K, T⟩ mg base 2 "are_vectors" 2 c_are_vectors := by
  exact fn_H H X G sc_are_vectors rfl (fun _ _ _ _ _ _ us hl => match us, hl with | [_, _], _ => rfl) m_are_vectors w_are_vectors (fun A cd hr => by
    obtain ⟨zabs, zall, zany, zbool, zenumerate, zint, zisinstance, zlen, zlist, zrange, zsum, ztuple, zzip⟩ := B
    simp only [b_are_vectors]
    (try walk_at "rq")
    (try exact trivial)
    all_goals (repeat' (first | apply And.intro | assumption | exact ⟨1, F_is_integer.mono (by decide), hr⟩)))
theorem TF_is_other_basis (X : K.In h) (G : h.Ns mainGlobals mg) (B : WBl mg) (F_are_vectors : FnAt P w ⟨K, T⟩ mg base 2 "are_vectors" 2 c_are_vectors) (F_determinant : FnAt P w ⟨K, T⟩ mg base 3 "determinant" 1 c_determinant) (F_whole_coefficients : FnAt P w ⟨K, T⟩ mg base 5 "whole_coefficients" 2 c_whole_coefficientsW) (H : HFn K "is_other_basis" (topS 19)) : FnAt P w ⟨K, T⟩ mg base 6 "is_other_basis" 2 c_is_other_basisW := by
  exact fn_H H X G sc_is_other_basis rfl (fun _ _ _ _ _ _ us hl => match us, hl with | [_, _], _ => rfl) m_is_other_basis w_is_other_basisW (fun A cd hr => by
    obtain ⟨zabs, zall, zany, zbool, zenumerate, zint, zisinstance, zlen, zlist, zrange, zsum, ztuple, zzip⟩ := B
    simp only [b_is_other_basisW]
    (try walk_at "rq")
    (try exact trivial)
    all_goals (repeat' (first | apply And.intro | assumption | exact ⟨5, F_are_vectors.mono (by decide), hr⟩ | exact ⟨5, F_determinant.mono (by decide), hr⟩ | exact ⟨5, F_whole_coefficients.mono (by decide), hr⟩)))
theorem TF_is_inside (X : K.In h) (G : h.Ns mainGlobals mg) (B : WBl mg) (F_whole_coefficients : FnAt P w ⟨K, T⟩ mg base 5 "whole_coefficients" 2 c_whole_coefficientsW) (H : HFn K "is_inside" (topS 21)) : FnAt P w ⟨K, T⟩ mg base 6 "is_inside" 2 c_is_inside := by
  exact fn_H H X G sc_is_inside rfl (fun _ _ _ _ _ _ us hl => match us, hl with | [_, _], _ => rfl) m_is_inside w_is_inside (fun A cd hr => by
    obtain ⟨zabs, zall, zany, zbool, zenumerate, zint, zisinstance, zlen, zlist, zrange, zsum, ztuple, zzip⟩ := B
    simp only [b_is_inside]
    (try walk_at "rq")
    (try exact trivial)
    all_goals (repeat' (first | apply And.intro | assumption | exact ⟨5, (F_whole_coefficients.imp whole_coefficients_W).mono (by decide), hr⟩)))
theorem TF_check_part (X : K.In h) (G : h.Ns mainGlobals mg) (B : WBl mg) (XNotPart : XOk K mg "NotPart") (F_check_bases : FnAt P w ⟨K, T⟩ mg base 6 "check_bases" 2 c_check_bases) (F_is_inside : FnAt P w ⟨K, T⟩ mg base 6 "is_inside" 2 c_is_inside) (H : HFn K "check_part" (topS 22)) : FnAt P w ⟨K, T⟩ mg base 7 "check_part" 2 c_check_part := by
  exact fn_H H X G sc_check_part rfl (fun _ _ _ _ _ _ us hl => match us, hl with | [_, _], _ => rfl) m_check_part w_check_part (fun A cd hr => by
    obtain ⟨zabs, zall, zany, zbool, zenumerate, zint, zisinstance, zlen, zlist, zrange, zsum, ztuple, zzip⟩ := B
    simp only [b_check_part]
    (try walk_at "rq")
    (try exact trivial)
    all_goals (repeat' (first | apply And.intro | assumption | exact ⟨6, F_check_bases.mono (by decide), hr⟩ | exact ⟨6, F_is_inside.mono (by decide), hr⟩)))
theorem TF_least_place (X : K.In h) (G : h.Ns mainGlobals mg) (B : WBl mg)  (H : HFn K "least_place" (topS 23)) : FnAt P w ⟨K, T⟩ mg base 1 "least_place" 2 c_least_place := by
  exact fn_H H X G sc_least_place rfl (fun _ _ _ _ _ _ us hl => match us, hl with | [_, _], _ => rfl) m_least_place w_least_place (fun A cd hr => by
    obtain ⟨zabs, zall, zany, zbool, zenumerate, zint, zisinstance, zlen, zlist, zrange, zsum, ztuple, zzip⟩ := B
    simp only [b_least_place, b_least_place_n1, b_least_place_n2]
    (try walk_at "rq")
    (try exact trivial)
    all_goals (repeat' (first | apply And.intro | assumption)))
theorem TF_swapped (X : K.In h) (G : h.Ns mainGlobals mg) (B : WBl mg)  (H : HFn K "swapped" (topS 24)) : FnAt P w ⟨K, T⟩ mg base 1 "swapped" 3 c_swapped := by
  exact fn_H H X G sc_swapped rfl (fun _ _ _ _ _ _ us hl => match us, hl with | [_, _, _], _ => rfl) m_swapped w_swapped (fun A cd hr => by
    obtain ⟨zabs, zall, zany, zbool, zenumerate, zint, zisinstance, zlen, zlist, zrange, zsum, ztuple, zzip⟩ := B
    simp only [b_swapped]
    (try walk_at "rq")
    (try exact trivial)
    all_goals (repeat' (first | apply And.intro | assumption)))
theorem TF_odd_row (X : K.In h) (G : h.Ns mainGlobals mg) (B : WBl mg)  (H : HFn K "odd_row" (topS 26)) : FnAt P w ⟨K, T⟩ mg base 1 "odd_row" 2 c_odd_row := by
  exact fn_H H X G sc_odd_row rfl (fun _ _ _ _ _ _ us hl => match us, hl with | [_, _], _ => rfl) m_odd_row w_odd_row (fun A cd hr => by
    obtain ⟨zabs, zall, zany, zbool, zenumerate, zint, zisinstance, zlen, zlist, zrange, zsum, ztuple, zzip⟩ := B
    simp only [b_odd_row, b_odd_row_n1]
    (try walk_at "rq")
    (try exact trivial)
    all_goals (repeat' (first | apply And.intro | assumption)))
theorem TF_matched (X : K.In h) (G : h.Ns mainGlobals mg) (B : WBl mg) (F_whole_coefficients : FnAt P w ⟨K, T⟩ mg base 5 "whole_coefficients" 2 c_whole_coefficientsW) (F_least_place : FnAt P w ⟨K, T⟩ mg base 1 "least_place" 2 c_least_place) (F_swapped : FnAt P w ⟨K, T⟩ mg base 1 "swapped" 3 c_swapped) (F_plus : FnAt P w ⟨K, T⟩ mg base 1 "plus" 3 c_plus) (F_odd_row : FnAt P w ⟨K, T⟩ mg base 1 "odd_row" 2 c_odd_row) (H : HFn K "matched" (topS 25)) : FnAt P w ⟨K, T⟩ mg base 6 "matched" 2 c_matched := by
  exact fn_H H X G sc_matched rfl (fun _ _ _ _ _ _ us hl => match us, hl with | [_, _], _ => rfl) m_matched w_matched (fun A cd hr => by
    obtain ⟨zabs, zall, zany, zbool, zenumerate, zint, zisinstance, zlen, zlist, zrange, zsum, ztuple, zzip⟩ := B
    simp only [b_matched, b_matched_c4, b_matched_c5, b_matched_f4, b_matched_f4_c1, b_matched_f4_c4, b_matched_f4_c5, b_matched_f4_c6, b_matched_f4_c7, b_matched_n1, b_matched_n2, b_matched_n3]
    (try walk_at "rq")
    (try exact trivial)
    all_goals (repeat' (first | apply And.intro | assumption | exact ⟨5, (F_whole_coefficients.imp whole_coefficients_W).mono (by decide), hr⟩ | exact ⟨5, F_least_place.mono (by decide), hr⟩ | exact ⟨5, F_swapped.mono (by decide), hr⟩ | exact ⟨5, F_plus.mono (by decide), hr⟩ | exact ⟨5, F_odd_row.mono (by decide), hr⟩)))
theorem TF_divisors (X : K.In h) (G : h.Ns mainGlobals mg) (B : WBl mg) (F_check_part : FnAt P w ⟨K, T⟩ mg base 7 "check_part" 2 c_check_part) (F_matched : FnAt P w ⟨K, T⟩ mg base 6 "matched" 2 c_matched) (H : HFn K "divisors" (topS 27)) : FnAt P w ⟨K, T⟩ mg base 8 "divisors" 2 c_divisors := by
  exact fn_H H X G sc_divisors rfl (fun _ _ _ _ _ _ us hl => match us, hl with | [_, _], _ => rfl) m_divisors w_divisors (fun A cd hr => by
    obtain ⟨zabs, zall, zany, zbool, zenumerate, zint, zisinstance, zlen, zlist, zrange, zsum, ztuple, zzip⟩ := B
    simp only [b_divisors]
    (try walk_at "rq")
    (try exact trivial)
    all_goals (repeat' (first | apply And.intro | assumption | exact ⟨7, F_check_part.mono (by decide), hr⟩ | exact ⟨7, F_matched.mono (by decide), hr⟩)))
theorem TF_matched_basis (X : K.In h) (G : h.Ns mainGlobals mg) (B : WBl mg) (F_check_part : FnAt P w ⟨K, T⟩ mg base 7 "check_part" 2 c_check_part) (F_matched : FnAt P w ⟨K, T⟩ mg base 6 "matched" 2 c_matched) (H : HFn K "matched_basis" (topS 28)) : FnAt P w ⟨K, T⟩ mg base 8 "matched_basis" 2 c_matched_basis := by
  exact fn_H H X G sc_matched_basis rfl (fun _ _ _ _ _ _ us hl => match us, hl with | [_, _], _ => rfl) m_matched_basis w_matched_basis (fun A cd hr => by
    obtain ⟨zabs, zall, zany, zbool, zenumerate, zint, zisinstance, zlen, zlist, zrange, zsum, ztuple, zzip⟩ := B
    simp only [b_matched_basis]
    (try walk_at "rq")
    (try exact trivial)
    all_goals (repeat' (first | apply And.intro | assumption | exact ⟨7, F_check_part.mono (by decide), hr⟩ | exact ⟨7, F_matched.mono (by decide), hr⟩)))
theorem TF_is_matched_basis (X : K.In h) (G : h.Ns mainGlobals mg) (B : WBl mg) (F_check_part : FnAt P w ⟨K, T⟩ mg base 7 "check_part" 2 c_check_part) (F_are_vectors : FnAt P w ⟨K, T⟩ mg base 2 "are_vectors" 2 c_are_vectors) (F_is_other_basis : FnAt P w ⟨K, T⟩ mg base 6 "is_other_basis" 2 c_is_other_basisW) (F_matched : FnAt P w ⟨K, T⟩ mg base 6 "matched" 2 c_matched) (H : HFn K "is_matched_basis" (topS 29)) : FnAt P w ⟨K, T⟩ mg base 8 "is_matched_basis" 3 c_is_matched_basis := by
  exact fn_H H X G sc_is_matched_basis rfl (fun _ _ _ _ _ _ us hl => match us, hl with | [_, _, _], _ => rfl) m_is_matched_basis w_is_matched_basis (fun A cd hr => by
    obtain ⟨zabs, zall, zany, zbool, zenumerate, zint, zisinstance, zlen, zlist, zrange, zsum, ztuple, zzip⟩ := B
    simp only [b_is_matched_basis, b_is_matched_basis_c3, b_is_matched_basis_f3]
    (try walk_at "rq")
    (try exact trivial)
    all_goals (repeat' (first | apply And.intro | assumption | exact ⟨7, F_check_part.mono (by decide), hr⟩ | exact ⟨7, F_are_vectors.mono (by decide), hr⟩ | exact ⟨7, F_is_other_basis.mono (by decide), hr⟩ | exact ⟨7, F_matched.mono (by decide), hr⟩)))
theorem TF__law_town (X : K.In h) (G : h.Ns mainGlobals mg) (B : WBl mg)  (H : HFn K "_law_town" (topS 31)) : FnAt P w ⟨K, T⟩ mg base 1 "_law_town" 1 c__law_town := by
  exact fn_H H X G sc__law_town rfl (fun _ _ _ _ _ _ us hl => match us, hl with | [_], _ => rfl) m__law_town w__law_town (fun A cd hr => by
    obtain ⟨zabs, zall, zany, zbool, zenumerate, zint, zisinstance, zlen, zlist, zrange, zsum, ztuple, zzip⟩ := B
    simp only [b__law_town]
    (try walk_at "rq")
    (try exact trivial)
    all_goals (repeat' (first | apply And.intro | assumption)))
theorem TF__law_draw (X : K.In h) (G : h.Ns mainGlobals mg) (B : WBl mg)  (H : HFn K "_law_draw" (topS 32)) : FnAt P w ⟨K, T⟩ mg base 1 "_law_draw" 3 c__law_draw := by
  exact fn_H H X G sc__law_draw rfl (fun _ _ _ _ _ _ us hl => match us, hl with | [_, _, _], _ => rfl) m__law_draw w__law_draw (fun A cd hr => by
    obtain ⟨zabs, zall, zany, zbool, zenumerate, zint, zisinstance, zlen, zlist, zrange, zsum, ztuple, zzip⟩ := B
    simp only [b__law_draw]
    (try walk_at "rq")
    (try exact trivial)
    all_goals (repeat' (first | apply And.intro | assumption)))
theorem TF__law_pick (X : K.In h) (G : h.Ns mainGlobals mg) (B : WBl mg) (F__law_draw : FnAt P w ⟨K, T⟩ mg base 1 "_law_draw" 3 c__law_draw) (H : HFn K "_law_pick" (topS 33)) : FnAt P w ⟨K, T⟩ mg base 2 "_law_pick" 3 c__law_pick := by
  exact fn_H H X G sc__law_pick rfl (fun _ _ _ _ _ _ us hl => match us, hl with | [_, _, _], _ => rfl) m__law_pick w__law_pick (fun A cd hr => by
    obtain ⟨zabs, zall, zany, zbool, zenumerate, zint, zisinstance, zlen, zlist, zrange, zsum, ztuple, zzip⟩ := B
    simp only [b__law_pick]
    (try walk_at "rq")
    (try exact trivial)
    all_goals (repeat' (first | apply And.intro | assumption | exact ⟨1, F__law_draw.mono (by decide), hr⟩)))
theorem TF__law_det (X : K.In h) (G : h.Ns mainGlobals mg) (B : WBl mg)  (H : HFn K "_law_det" (topS 36)) : FnAt P w ⟨K, T⟩ mg base 1 "_law_det" 1 c__law_det := by
  exact fn_H H X G sc__law_det rfl (fun _ _ _ _ _ _ us hl => match us, hl with | [_], _ => rfl) m__law_det w__law_det (fun A cd hr => by
    obtain ⟨zabs, zall, zany, zbool, zenumerate, zint, zisinstance, zlen, zlist, zrange, zsum, ztuple, zzip⟩ := B
    simp only [b__law_det]
    (try walk_at "rq")
    (try exact trivial)
    all_goals (repeat' (first | apply And.intro | assumption)))
theorem TF__law_basis_in (X : K.In h) (G : h.Ns mainGlobals mg) (B : WBl mg) (F__law_draw : FnAt P w ⟨K, T⟩ mg base 1 "_law_draw" 3 c__law_draw) (F__law_det : FnAt P w ⟨K, T⟩ mg base 1 "_law_det" 1 c__law_det) (H : HFn K "_law_basis_in" (topS 35)) : FnAt P w ⟨K, T⟩ mg base 2 "_law_basis_in" 4 c__law_basis_in := by
  exact fn_H H X G sc__law_basis_in rfl (fun _ _ _ _ _ _ us hl => match us, hl with | [_, _, _, _], _ => rfl) m__law_basis_in w__law_basis_in (fun A cd hr => by
    obtain ⟨zabs, zall, zany, zbool, zenumerate, zint, zisinstance, zlen, zlist, zrange, zsum, ztuple, zzip⟩ := B
    simp only [b__law_basis_in]
    (try walk_at "rq")
    (try exact trivial)
    all_goals (repeat' (first | apply And.intro | assumption | exact ⟨1, F__law_draw.mono (by decide), hr⟩ | exact ⟨1, F__law_det.mono (by decide), hr⟩)))
theorem TF__law_basis (X : K.In h) (G : h.Ns mainGlobals mg) (B : WBl mg) (F__law_basis_in : FnAt P w ⟨K, T⟩ mg base 2 "_law_basis_in" 4 c__law_basis_in) (F__law_draw : FnAt P w ⟨K, T⟩ mg base 1 "_law_draw" 3 c__law_draw) (H : HFn K "_law_basis" (topS 34)) : FnAt P w ⟨K, T⟩ mg base 3 "_law_basis" 3 c__law_basis := by
  exact fn_H H X G sc__law_basis rfl (fun _ _ _ _ _ _ us hl => match us, hl with | [_, _, _], _ => rfl) m__law_basis w__law_basis (fun A cd hr => by
    obtain ⟨zabs, zall, zany, zbool, zenumerate, zint, zisinstance, zlen, zlist, zrange, zsum, ztuple, zzip⟩ := B
    simp only [b__law_basis]
    (try walk_at "rq")
    (try exact trivial)
    all_goals (repeat' (first | apply And.intro | assumption | exact ⟨2, F__law_basis_in.mono (by decide), hr⟩ | exact ⟨2, F__law_draw.mono (by decide), hr⟩)))
theorem TF__law_mix (X : K.In h) (G : h.Ns mainGlobals mg) (B : WBl mg)  (H : HFn K "_law_mix" (topS 37)) : FnAt P w ⟨K, T⟩ mg base 1 "_law_mix" 2 c__law_mix := by
  exact fn_H H X G sc__law_mix rfl (fun _ _ _ _ _ _ us hl => match us, hl with | [_, _], _ => rfl) m__law_mix w__law_mix (fun A cd hr => by
    obtain ⟨zabs, zall, zany, zbool, zenumerate, zint, zisinstance, zlen, zlist, zrange, zsum, ztuple, zzip⟩ := B
    simp only [b__law_mix]
    (try walk_at "rq")
    (try exact trivial)
    all_goals (repeat' (first | apply And.intro | assumption)))
theorem TF__law_has (X : K.In h) (G : h.Ns mainGlobals mg) (B : WBl mg) (F__law_det : FnAt P w ⟨K, T⟩ mg base 1 "_law_det" 1 c__law_det) (H : HFn K "_law_has" (topS 38)) : FnAt P w ⟨K, T⟩ mg base 2 "_law_has" 2 c__law_hasW := by
  exact fn_H H X G sc__law_has rfl (fun _ _ _ _ _ _ us hl => match us, hl with | [_, _], _ => rfl) m__law_has w__law_hasW (fun A cd hr => by
    obtain ⟨zabs, zall, zany, zbool, zenumerate, zint, zisinstance, zlen, zlist, zrange, zsum, ztuple, zzip⟩ := B
    simp only [b__law_hasW]
    (try walk_at "rq")
    (try exact trivial)
    all_goals (repeat' (first | apply And.intro | assumption | exact ⟨1, F__law_det.mono (by decide), hr⟩)))
theorem TF__law_spans (X : K.In h) (G : h.Ns mainGlobals mg) (B : WBl mg) (F__law_det : FnAt P w ⟨K, T⟩ mg base 1 "_law_det" 1 c__law_det) (F__law_has : FnAt P w ⟨K, T⟩ mg base 2 "_law_has" 2 c__law_hasW) (H : HFn K "_law_spans" (topS 39)) : FnAt P w ⟨K, T⟩ mg base 3 "_law_spans" 2 c__law_spansW := by
  exact fn_H H X G sc__law_spans rfl (fun _ _ _ _ _ _ us hl => match us, hl with | [_, _], _ => rfl) m__law_spans w__law_spansW (fun A cd hr => by
    obtain ⟨zabs, zall, zany, zbool, zenumerate, zint, zisinstance, zlen, zlist, zrange, zsum, ztuple, zzip⟩ := B
    simp only [b__law_spansW]
    (try walk_at "rq")
    (try exact trivial)
    all_goals (repeat' (first | apply And.intro | assumption | exact ⟨2, F__law_det.mono (by decide), hr⟩ | exact ⟨2, F__law_has.mono (by decide), hr⟩)))
theorem TF__law_shared (X : K.In h) (G : h.Ns mainGlobals mg) (B : WBl mg)  (H : HFn K "_law_shared" (topS 40)) : FnAt P w ⟨K, T⟩ mg base 1 "_law_shared" 1 c__law_shared := by
  exact fn_H H X G sc__law_shared rfl (fun _ _ _ _ _ _ us hl => match us, hl with | [_], _ => rfl) m__law_shared w__law_shared (fun A cd hr => by
    obtain ⟨zabs, zall, zany, zbool, zenumerate, zint, zisinstance, zlen, zlist, zrange, zsum, ztuple, zzip⟩ := B
    simp only [b__law_shared]
    (try walk_at "rq")
    (try exact trivial)
    all_goals (repeat' (first | apply And.intro | assumption)))
theorem TF__law_minors (X : K.In h) (G : h.Ns mainGlobals mg) (B : WBl mg) (F__law_det : FnAt P w ⟨K, T⟩ mg base 1 "_law_det" 1 c__law_det) (H : HFn K "_law_minors" (topS 41)) : FnAt P w ⟨K, T⟩ mg base 2 "_law_minors" 2 c__law_minors := by
  exact fn_H H X G sc__law_minors rfl (fun _ _ _ _ _ _ us hl => match us, hl with | [_, _], _ => rfl) m__law_minors w__law_minors (fun A cd hr => by
    obtain ⟨zabs, zall, zany, zbool, zenumerate, zint, zisinstance, zlen, zlist, zrange, zsum, ztuple, zzip⟩ := B
    simp only [b__law_minors, b__law_minors_c3, b__law_minors_f4, b__law_minors_f4_c1]
    (try walk_at "rq")
    (try exact trivial)
    all_goals (repeat' (first | apply And.intro | assumption | exact ⟨1, F__law_det.mono (by decide), hr⟩)))
theorem TF__law_is_matched (X : K.In h) (G : h.Ns mainGlobals mg) (B : WBl mg) (F__law_spans : FnAt P w ⟨K, T⟩ mg base 3 "_law_spans" 2 c__law_spansW) (H : HFn K "_law_is_matched" (topS 42)) : FnAt P w ⟨K, T⟩ mg base 4 "_law_is_matched" 4 c__law_is_matched := by
  exact fn_H H X G sc__law_is_matched rfl (fun _ _ _ _ _ _ us hl => match us, hl with | [_, _, _, _], _ => rfl) m__law_is_matched w__law_is_matched (fun A cd hr => by
    obtain ⟨zabs, zall, zany, zbool, zenumerate, zint, zisinstance, zlen, zlist, zrange, zsum, ztuple, zzip⟩ := B
    simp only [b__law_is_matched, b__law_is_matched_c2]
    (try walk_at "rq")
    (try exact trivial)
    all_goals (repeat' (first | apply And.intro | assumption | exact ⟨3, F__law_spans.mono (by decide), hr⟩)))
theorem law_rq (B : WBl mg) (F__law_town : FnAt P w ⟨K, T⟩ mg base 1 "_law_town" 1 c__law_town) (F__law_basis : FnAt P w ⟨K, T⟩ mg base 3 "_law_basis" 3 c__law_basis) (F__law_pick : FnAt P w ⟨K, T⟩ mg base 2 "_law_pick" 3 c__law_pick) (F__law_basis_in : FnAt P w ⟨K, T⟩ mg base 2 "_law_basis_in" 4 c__law_basis_in) (F__law_mix : FnAt P w ⟨K, T⟩ mg base 1 "_law_mix" 2 c__law_mix) (F_divisors : FnAt P w ⟨K, T⟩ mg base 8 "divisors" 2 c_divisors) (F_matched_basis : FnAt P w ⟨K, T⟩ mg base 8 "matched_basis" 2 c_matched_basis) (F__law_shared : FnAt P w ⟨K, T⟩ mg base 1 "_law_shared" 1 c__law_shared) (F__law_minors : FnAt P w ⟨K, T⟩ mg base 2 "_law_minors" 2 c__law_minors) (F__law_is_matched : FnAt P w ⟨K, T⟩ mg base 4 "_law_is_matched" 4 c__law_is_matched) (F_is_matched_basis : FnAt P w ⟨K, T⟩ mg base 8 "is_matched_basis" 3 c_is_matched_basis) (F__law_draw : FnAt P w ⟨K, T⟩ mg base 1 "_law_draw" 3 c__law_draw) : ∀ (A : Around) (cd : Value), Room 59 A → b_law.rq ⟨P, w, K, mg, base, A, cd, "law" ++ ".<locals>.", T⟩ := by
  exact (fun A cd hr => by
    obtain ⟨zabs, zall, zany, zbool, zenumerate, zint, zisinstance, zlen, zlist, zrange, zsum, ztuple, zzip⟩ := B
    simp only [b_law, b_law_c10, b_law_c11, b_law_c12, b_law_c14, b_law_c17, b_law_c18, b_law_c5, b_law_c8, b_law_f13, b_law_f13_c2, b_law_f13_c3, b_law_f9]
    (try walk_at "rq")
    (try exact trivial)
    all_goals (repeat' (first | apply And.intro | assumption | exact ⟨59, F__law_town.mono (by decide), hr⟩ | exact ⟨59, F__law_basis.mono (by decide), hr⟩ | exact ⟨59, F__law_pick.mono (by decide), hr⟩ | exact ⟨59, F__law_basis_in.mono (by decide), hr⟩ | exact ⟨59, F__law_mix.mono (by decide), hr⟩ | exact ⟨59, F_divisors.mono (by decide), hr⟩ | exact ⟨59, F_matched_basis.mono (by decide), hr⟩ | exact ⟨59, F__law_shared.mono (by decide), hr⟩ | exact ⟨59, F__law_minors.mono (by decide), hr⟩ | exact ⟨59, F__law_is_matched.mono (by decide), hr⟩ | exact ⟨59, F_is_matched_basis.mono (by decide), hr⟩ | exact ⟨59, F__law_draw.mono (by decide), hr⟩)))
end
theorem all_mk {l : PySem.W.OpenLaw} {w : World} {K : PySem.W.Frag} {h : Heap} {mg : Str → Option Value} {fa : Addr} (X : K.In h) (G : h.Ns mainGlobals mg) (hfa : mg "law" = some (.ref fa))
    (hB : HBl K)
    (hGLIMIT : HG_LIMIT K)
    (hXInvalidBasis : HEx K "InvalidBasis")
    (hXNotPart : HEx K "NotPart")
    (hXUnlike : HEx K "Unlike")
    (h_is_integer : HFn K "is_integer" (topS 6))
    (h_is_between : HFn K "is_between" (topS 7))
    (h_determinant : HFn K "determinant" (topS 10))
    (h_is_vector : HFn K "is_vector" (topS 11))
    (h_is_basis : HFn K "is_basis" (topS 12))
    (h_check_basis : HFn K "check_basis" (topS 13))
    (h_check_bases : HFn K "check_bases" (topS 14))
    (h_plus : HFn K "plus" (topS 15))
    (h_solved : HFn K "solved" (topS 16))
    (h_whole_coefficients : HFn K "whole_coefficients" (topS 17))
    (h_are_vectors : HFn K "are_vectors" (topS 18))
    (h_is_other_basis : HFn K "is_other_basis" (topS 19))
    (h_is_inside : HFn K "is_inside" (topS 21))
    (h_check_part : HFn K "check_part" (topS 22))
    (h_least_place : HFn K "least_place" (topS 23))
    (h_swapped : HFn K "swapped" (topS 24))
    (h_odd_row : HFn K "odd_row" (topS 26))
    (h_matched : HFn K "matched" (topS 25))
    (h_divisors : HFn K "divisors" (topS 27))
    (h_matched_basis : HFn K "matched_basis" (topS 28))
    (h_is_matched_basis : HFn K "is_matched_basis" (topS 29))
    (h__law_town : HFn K "_law_town" (topS 31))
    (h__law_draw : HFn K "_law_draw" (topS 32))
    (h__law_pick : HFn K "_law_pick" (topS 33))
    (h__law_det : HFn K "_law_det" (topS 36))
    (h__law_basis_in : HFn K "_law_basis_in" (topS 35))
    (h__law_basis : HFn K "_law_basis" (topS 34))
    (h__law_mix : HFn K "_law_mix" (topS 37))
    (h__law_has : HFn K "_law_has" (topS 38))
    (h__law_spans : HFn K "_law_spans" (topS 39))
    (h__law_shared : HFn K "_law_shared" (topS 40))
    (h__law_minors : HFn K "_law_minors" (topS 41))
    (h__law_is_matched : HFn K "_law_is_matched" (topS 42))
    (h_law : HFn K "law" (topS 43)) :
    LamX.LawAtS l w K (L2.CX l.prog w) 60 63 "script" mg fa h := by
  obtain ⟨flaw, oclaw, odlaw, anlaw, sllaw, kVlaw, dclaw, pmlaw, cdlaw, ctlaw, alaw, llaw, claw, klaw⟩ := h_law
  have e := hfa.symm.trans (PySem.W.mg_of X G alaw)
  cases e
  have B := hB.ok X G
  have gLIMIT : ∃ t, mg "LIMIT" = some (.int 1000000 t) := by obtain ⟨t, e⟩ := hGLIMIT; exact ⟨t, PySem.W.mg_of X G e⟩
  have XInvalidBasis := hXInvalidBasis.ok X G
  have XNotPart := hXNotPart.ok X G
  have XUnlike := hXUnlike.ok X G
  refine ⟨PySem.W.fnOf "law" "law" (defArgs (topS 43)) (defBody (topS 43)) (defScope (topS 43)) .none kVlaw dclaw pmlaw anlaw cdlaw ctlaw, [], spOf ⟨K, []⟩ mg 1 cLaw, ?_, ?_, ?_, fun s v => .of_eq rfl, ?_, fun base KB GB TB => ?_⟩
  · intro p hp; cases hp
  · intro p hp; cases hp
  · intro p hp; cases hp
  · exact fun H a ns hl _ hH hS => law_sp hl hS
  have F_is_integer := TF_is_integer (P := l.prog) (w := w) (T := []) (base := base) X G B  h_is_integer
  have F_is_between := TF_is_between (P := l.prog) (w := w) (T := []) (base := base) X G B F_is_integer h_is_between
  have F_z := TF_z (P := l.prog) (w := w) (T := []) (base := base) X G h_determinant
  have F_y := TF_y (P := l.prog) (w := w) (T := []) (base := base) X G B F_z h_determinant
  have F_determinant := TF_determinant (P := l.prog) (w := w) (T := []) (base := base) X G B F_y h_determinant
  have F_is_vector := TF_is_vector (P := l.prog) (w := w) (T := []) (base := base) X G B gLIMIT F_is_between h_is_vector
  have F_is_basis := TF_is_basis (P := l.prog) (w := w) (T := []) (base := base) X G B F_is_vector F_determinant h_is_basis
  have F_check_basis := TF_check_basis (P := l.prog) (w := w) (T := []) (base := base) X G B XInvalidBasis F_is_basis h_check_basis
  have F_check_bases := TF_check_bases (P := l.prog) (w := w) (T := []) (base := base) X G B XUnlike F_check_basis h_check_bases
  have F_plus := TF_plus (P := l.prog) (w := w) (T := []) (base := base) X G B  h_plus
  have F_solved := TF_solved (P := l.prog) (w := w) (T := []) (base := base) X G B F_determinant h_solved
  have F_whole_coefficients := TF_whole_coefficients (P := l.prog) (w := w) (T := []) (base := base) X G B F_determinant F_solved h_whole_coefficients
  have F_are_vectors := TF_are_vectors (P := l.prog) (w := w) (T := []) (base := base) X G B F_is_integer h_are_vectors
  have F_is_other_basis := TF_is_other_basis (P := l.prog) (w := w) (T := []) (base := base) X G B F_are_vectors F_determinant F_whole_coefficients h_is_other_basis
  have F_is_inside := TF_is_inside (P := l.prog) (w := w) (T := []) (base := base) X G B F_whole_coefficients h_is_inside
  have F_check_part := TF_check_part (P := l.prog) (w := w) (T := []) (base := base) X G B XNotPart F_check_bases F_is_inside h_check_part
  have F_least_place := TF_least_place (P := l.prog) (w := w) (T := []) (base := base) X G B  h_least_place
  have F_swapped := TF_swapped (P := l.prog) (w := w) (T := []) (base := base) X G B  h_swapped
  have F_odd_row := TF_odd_row (P := l.prog) (w := w) (T := []) (base := base) X G B  h_odd_row
  have F_matched := TF_matched (P := l.prog) (w := w) (T := []) (base := base) X G B F_whole_coefficients F_least_place F_swapped F_plus F_odd_row h_matched
  have F_divisors := TF_divisors (P := l.prog) (w := w) (T := []) (base := base) X G B F_check_part F_matched h_divisors
  have F_matched_basis := TF_matched_basis (P := l.prog) (w := w) (T := []) (base := base) X G B F_check_part F_matched h_matched_basis
  have F_is_matched_basis := TF_is_matched_basis (P := l.prog) (w := w) (T := []) (base := base) X G B F_check_part F_are_vectors F_is_other_basis F_matched h_is_matched_basis
  have F__law_town := TF__law_town (P := l.prog) (w := w) (T := []) (base := base) X G B  h__law_town
  have F__law_draw := TF__law_draw (P := l.prog) (w := w) (T := []) (base := base) X G B  h__law_draw
  have F__law_pick := TF__law_pick (P := l.prog) (w := w) (T := []) (base := base) X G B F__law_draw h__law_pick
  have F__law_det := TF__law_det (P := l.prog) (w := w) (T := []) (base := base) X G B  h__law_det
  have F__law_basis_in := TF__law_basis_in (P := l.prog) (w := w) (T := []) (base := base) X G B F__law_draw F__law_det h__law_basis_in
  have F__law_basis := TF__law_basis (P := l.prog) (w := w) (T := []) (base := base) X G B F__law_basis_in F__law_draw h__law_basis
  have F__law_mix := TF__law_mix (P := l.prog) (w := w) (T := []) (base := base) X G B  h__law_mix
  have F__law_has := TF__law_has (P := l.prog) (w := w) (T := []) (base := base) X G B F__law_det h__law_has
  have F__law_spans := TF__law_spans (P := l.prog) (w := w) (T := []) (base := base) X G B F__law_det F__law_has h__law_spans
  have F__law_shared := TF__law_shared (P := l.prog) (w := w) (T := []) (base := base) X G B  h__law_shared
  have F__law_minors := TF__law_minors (P := l.prog) (w := w) (T := []) (base := base) X G B F__law_det h__law_minors
  have F__law_is_matched := TF__law_is_matched (P := l.prog) (w := w) (T := []) (base := base) X G B F__law_spans h__law_is_matched
  exact sp_imp (fn_ok (K := ⟨K, []⟩) llaw claw sc_law rfl m_law fun A hr => law_rq B F__law_town F__law_basis F__law_pick F__law_basis_in F__law_mix F_divisors F_matched_basis F__law_shared F__law_minors F__law_is_matched F_is_matched_basis F__law_draw A _ hr) fun _ _ _ _ => w_law
theorem hd_fact {fa : List He.Fa} {fn : List He.FnD} {K : PySem.W.Frag} (c : He.SaysE fa fn K) (i : Nat) {f : He.Fa} (h : fa[i]? = some f) : He.Fa.ok K f = true := c.fact i h
theorem hd_int {K : PySem.W.Frag} {x : Str} {i : Int} (h : He.Fa.ok K (.int x i) = true) : ∃ t, PySem.W.nsIn K mainGlobals x = some (some (.int i t)) := by
  simp only [He.Fa.ok] at h
  split at h
  · rename_i j tok e
    have e2 : j = i := of_decide_eq_true h
    subst e2
    exact ⟨tok, e⟩
  · cases h
theorem hd_exc {K : PySem.W.Frag} {x : Str} (g : He.Fa.ok K (.glo x) = true) (h : He.Fa.ok K (.exc x) = true) : HEx K x := by
  obtain ⟨h1, h2, h3, h4⟩ := He.exc_ok h
  exact ⟨He.ga K x, He.eqO_ok g, h1, h2, h3, h4⟩
def HDf (K : PySem.W.Frag) (x : Str) (st : Stmt) : Prop := ∃ (oc : Value) (od : Option Addr) (osl : Array (Option Value)) (kV doc pm : Value) (an : Option Addr) (cdv ct : Value), K.lookup (He.ga K x) = some ⟨oc, od, .func (PySem.W.fnOf x x (defArgs st) (defBody st) (defScope st) .none kV doc pm an cdv ct), osl⟩ ∧ PySem.W.codeIn K cdv x = true
theorem hd_def {fa : List He.Fa} {fn : List He.FnD} {K : PySem.W.Frag} (c : He.SaysE fa fn K) (i : Nat) {x : Str} {st : Stmt} (h : fn[i]? = some (fdS x st)) : HDf K x st := c.def_ i h
theorem hd_fn {K : PySem.W.Frag} {x : Str} {st : Stmt} (d : HDf K x st) (g : He.Fa.ok K (.glo x) = true) (k : He.Fa.ok K (.keep x) = true) : HFn K x st := by
  obtain ⟨oc, od, osl, kV, doc, pm, an, cdv, ct, l, c⟩ := d
  exact ⟨He.ga K x, oc, od, an, osl, kV, doc, pm, cdv, ct, He.eqO_ok g, l, c, He.keep_ok k⟩
theorem all_hd {l : PySem.W.OpenLaw} {w : World} {K : PySem.W.Frag} {h : Heap} {mg : Str → Option Value} {fa : Addr} (X : K.In h) (G : h.Ns mainGlobals mg) (hfa : mg "law" = some (.ref fa)) (c : He.SaysE hdFa hdFn K) (b : hdB K = true) (tS : (none : Option Obj) = none) : LamX.LawAtS l w K (L2.CX l.prog w) 60 63 "script" mg fa h := by
  exact all_mk X G hfa
    (⟨He.eqO_ok (hd_fact c 0 rfl), He.eqO_ok (hd_fact c 1 rfl), He.eqO_ok (hd_fact c 2 rfl), He.eqO_ok (hd_fact c 3 rfl), He.eqO_ok (hd_fact c 4 rfl), He.eqO_ok (hd_fact c 5 rfl), He.eqO_ok (hd_fact c 6 rfl), He.eqO_ok (hd_fact c 7 rfl), He.eqO_ok (hd_fact c 8 rfl), He.eqO_ok (hd_fact c 9 rfl), He.eqO_ok (hd_fact c 10 rfl), He.eqO_ok (hd_fact c 11 rfl), He.eqO_ok (hd_fact c 12 rfl)⟩)
    (hd_int (hd_fact c 13 rfl))
    (hd_exc (hd_fact c 14 rfl) (hd_fact c 15 rfl))
    (hd_exc (hd_fact c 16 rfl) (hd_fact c 17 rfl))
    (hd_exc (hd_fact c 18 rfl) (hd_fact c 19 rfl))
    (hd_fn (hd_def c 0 rfl) (hd_fact c 20 rfl) (hd_fact c 21 rfl))
    (hd_fn (hd_def c 1 rfl) (hd_fact c 22 rfl) (hd_fact c 23 rfl))
    (hd_fn (hd_def c 2 rfl) (hd_fact c 24 rfl) (hd_fact c 25 rfl))
    (hd_fn (hd_def c 3 rfl) (hd_fact c 26 rfl) (hd_fact c 27 rfl))
    (hd_fn (hd_def c 4 rfl) (hd_fact c 28 rfl) (hd_fact c 29 rfl))
    (hd_fn (hd_def c 5 rfl) (hd_fact c 30 rfl) (hd_fact c 31 rfl))
    (hd_fn (hd_def c 6 rfl) (hd_fact c 32 rfl) (hd_fact c 33 rfl))
    (hd_fn (hd_def c 7 rfl) (hd_fact c 34 rfl) (hd_fact c 35 rfl))
    (hd_fn (hd_def c 8 rfl) (hd_fact c 36 rfl) (hd_fact c 37 rfl))
    (hd_fn (hd_def c 9 rfl) (hd_fact c 38 rfl) (hd_fact c 39 rfl))
    (hd_fn (hd_def c 10 rfl) (hd_fact c 40 rfl) (hd_fact c 41 rfl))
    (hd_fn (hd_def c 11 rfl) (hd_fact c 42 rfl) (hd_fact c 43 rfl))
    (hd_fn (hd_def c 12 rfl) (hd_fact c 44 rfl) (hd_fact c 45 rfl))
    (hd_fn (hd_def c 13 rfl) (hd_fact c 46 rfl) (hd_fact c 47 rfl))
    (hd_fn (hd_def c 14 rfl) (hd_fact c 48 rfl) (hd_fact c 49 rfl))
    (hd_fn (hd_def c 15 rfl) (hd_fact c 50 rfl) (hd_fact c 51 rfl))
    (hd_fn (hd_def c 16 rfl) (hd_fact c 52 rfl) (hd_fact c 53 rfl))
    (hd_fn (hd_def c 17 rfl) (hd_fact c 54 rfl) (hd_fact c 55 rfl))
    (hd_fn (hd_def c 18 rfl) (hd_fact c 56 rfl) (hd_fact c 57 rfl))
    (hd_fn (hd_def c 19 rfl) (hd_fact c 58 rfl) (hd_fact c 59 rfl))
    (hd_fn (hd_def c 20 rfl) (hd_fact c 60 rfl) (hd_fact c 61 rfl))
    (hd_fn (hd_def c 21 rfl) (hd_fact c 62 rfl) (hd_fact c 63 rfl))
    (hd_fn (hd_def c 22 rfl) (hd_fact c 64 rfl) (hd_fact c 65 rfl))
    (hd_fn (hd_def c 23 rfl) (hd_fact c 66 rfl) (hd_fact c 67 rfl))
    (hd_fn (hd_def c 24 rfl) (hd_fact c 68 rfl) (hd_fact c 69 rfl))
    (hd_fn (hd_def c 25 rfl) (hd_fact c 70 rfl) (hd_fact c 71 rfl))
    (hd_fn (hd_def c 26 rfl) (hd_fact c 72 rfl) (hd_fact c 73 rfl))
    (hd_fn (hd_def c 27 rfl) (hd_fact c 74 rfl) (hd_fact c 75 rfl))
    (hd_fn (hd_def c 28 rfl) (hd_fact c 76 rfl) (hd_fact c 77 rfl))
    (hd_fn (hd_def c 29 rfl) (hd_fact c 78 rfl) (hd_fact c 79 rfl))
    (hd_fn (hd_def c 30 rfl) (hd_fact c 80 rfl) (hd_fact c 81 rfl))
    (hd_fn (hd_def c 31 rfl) (hd_fact c 82 rfl) (hd_fact c 83 rfl))
    (hd_fn (hd_def c 32 rfl) (hd_fact c 84 rfl) (hd_fact c 85 rfl))
    (hd_fn (hd_def c 33 rfl) (hd_fact c 86 rfl) (hd_fact c 87 rfl))
theorem hd_never {l : PySem.W.OpenLaw} {w : World} {H : L2.Hp} {s : PySem.Shared} {e : PySem.Value} {s' : PySem.Shared} (z : L2.CX l.prog w [] H s (fun _ _ _ => False) e s') : False := cx_never z
end DLay
open PySem PySem.W PyProof.Rows
set_option maxHeartbeats 0 in
theorem PySem.Challenge.cw_gridbases_k12_whole_divisors_holds : PySem.Challenge.rw_gridbases_k12_whole_divisors.Holds := by
  w_on; o_law
  refine HandSHeadRun.head_any (r := OpenLaw.row PySem.Challenge.rw_gridbases_k12_whole_divisors) (q := view (OpenLaw.row PySem.Challenge.rw_gridbases_k12_whole_divisors).prog [43]) (H := DLay.hdHk) (ob := DLay.hdOb) (M := 6200) (loose := DLay.hdNames) (d := HandSHeadRun.topDef (OpenLaw.row PySem.Challenge.rw_gridbases_k12_whole_divisors).prog 43) (kwd := []) DLay.hdOb_eq
    (by kernel_rfl) (fun s => by kernel_rfl) DLay.hdRun (by kernel_rfl) (by kernel_rfl) (by kernel_rfl) (by rfl) (by first | assumption | decide +kernel) (by decide +kernel) ⟨rfl, rfl, rfl, rfl, rfl, by decide +kernel⟩ ?hw ?hc
  case hw => w_witness2
  case hc =>
    refine LamX.walk_ofTsE (l := PySem.Challenge.rw_gridbases_k12_whole_divisors) (n := 63) (k := 60) (x := "script") (CX := L2.CX (PySem.Challenge.rw_gridbases_k12_whole_divisors).prog) rfl (by decide) (by kernel_rfl) ⟨rfl, by decide, by decide⟩ ?F (fun w H s e s' z => DLay.hd_never z)
    intro w mg fa h Y G hmg0
    obtain ⟨K, KX, c, b, tS⟩ := Y
    have hmg : mg ("law" : PySem.Str) = some (.ref fa) := by
      have e : (HandSHeadRun.topDef (OpenLaw.row PySem.Challenge.rw_gridbases_k12_whole_divisors).prog 43).name = ("law" : PySem.Str) := by kernel_rfl
      rw [← e]
      exact hmg0
    exact ⟨K, KX, DLay.all_hd KX G hmg c b tS⟩
#print axioms PySem.Challenge.cw_gridbases_k12_whole_divisors_holds
