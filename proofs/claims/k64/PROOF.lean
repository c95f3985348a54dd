import PyProof.Rows.All
import Wide.All
import OpenK.AllK
import Wide.FinOn
import HandS.ForMost
import KE.KNestM
import KE.KLam
import HandS.TupMul
import PyProof.ListMulRoad
import PyProof.FactsAll.tuple_2
import HandS.Exc
import HandS.ExcOwn
import HandS.TryOnly
import HandS.WordsExc
import HandS.Zip
import HandS.Wide
import HandS.IsInst
import HandS.TupAny
import HandS.Lambda
import HandS.EndTab
import PyProof.StrOps2
import HandS.TupLe
import HandS.Style
import KE.GoesEnum
import KE.SortKeyHeap
import KE.KSortKey
import HandS.ExcIs
import HandS.Text
import HandS.Codes
import HandS.More
import PyProof.ListStr
import KE.SortData
import HandS.Star
import HandS.TupSets
import PyProof.WalksMore
import KE.KTupSum
import HandS.Conv
import HandS.FStr
import HandS.OwnEq
import KE.KUnpackStar
import HandS.SortKw
import KE.KCallOwn
import PySem.Challenge.RW_gridbases_k64_saved_sessions
set_option Elab.async false
set_option linter.all false
set_option maxRecDepth 100000
set_option maxHeartbeats 4000000
namespace DLay
open PySem PySem.Spec PyProof.Rows L2
/-! #### DL0 -/
/-! The D layer, part 0: tuple * int. -/
open AutoSeq1 (wpAny_loadPart')
theorem tuple_mul_one (l : Addr) (items : Array Value) (n : Nat) (dd : Option Addr) (sl : Array (Option Value)) (x : Int) (u : Tok) (c0 : (decide (x < -(2 ^ 63)) || decide (x ≥ 2 ^ 63)) = false) (c1 : (items.isEmpty || x == 1) = true) :
    Meets (Builtin.«tuple.__mul__» ⟨[.ref l, .int x u], []⟩) (fun _ R s => s.heap.get? l = some { cls := .type "tuple", dict := dd, data := .seq items n, slots := sl } ∧ ∀ tk, R (.ok (.ret (Value.ref l))) { s with toks := tk }) :=
  .of_wp fun prog w A R s h => by
    obtain ⟨hp, g, d, tk, os⟩ := s
    obtain ⟨hl, h⟩ := h
    have f1 := AutoSeq1.idx_int
    wp_walk using wpAny_loadPart' hl
    repeat (first
      | (refine wpAny_ite_false (decide_eq_false (by rw [c0]; exact Bool.false_ne_true)) ?_; wp_walk using wpAny_loadPart' hl)
      | (refine wpAny_ite_true (decide_eq_true c1) ?_; wp_walk using wpAny_loadPart' hl))
    exact ⟨_, rfl, h _⟩
theorem tuple_mul_none (l : Addr) (items : Array Value) (n : Nat) (dd : Option Addr) (sl : Array (Option Value)) (x : Int) (u : Tok) (c0 : (decide (x < -(2 ^ 63)) || decide (x ≥ 2 ^ 63)) = false) (c1 : (items.isEmpty || x == 1) = false) (c2 : (decide (x ≤ 0) || items.isEmpty) = true) :
    Meets (Builtin.«tuple.__mul__» ⟨[.ref l, .int x u], []⟩) (fun _ R s => s.heap.get? l = some { cls := .type "tuple", dict := dd, data := .seq items n, slots := sl } ∧
      R (.ok (.ret (Value.ref s.heap.objs.size))) { s with heap := s.heap.push { cls := Value.type "tuple", data := Data.seq #[] }, toks := s.toks }) :=
  .of_wp fun prog w A R s h => by
    obtain ⟨hp, g, d, tk, os⟩ := s
    obtain ⟨hl, h⟩ := h
    have f1 := AutoSeq1.idx_int
    wp_walk using wpAny_loadPart' hl
    repeat (first
      | (refine wpAny_ite_false (decide_eq_false (by rw [c0]; exact Bool.false_ne_true)) ?_; wp_walk using wpAny_loadPart' hl)
      | (refine wpAny_ite_false (decide_eq_false (by rw [c1]; exact Bool.false_ne_true)) ?_; wp_walk using wpAny_loadPart' hl)
      | (refine wpAny_ite_true (decide_eq_true c2) ?_; wp_walk using wpAny_loadPart' hl))
    exact ⟨_, rfl, h⟩
/-- t * k -/
def rRepA (K : PySem.W.Frag) : R2 := fun x y H Q => ∃ l k xs, x = .ref l ∧ y = .int k ∧ SqT K H l xs ∧ xs ≠ [] ∧ -1000 ≤ k ∧ k ≤ 1000 ∧ xs.length ≤ 1000 ∧ (k = 1 → Q (.ref l) H) ∧ (k ≠ 1 → ∀ p, H p = none → Q (.ref p) (upd H p (.tup (List.replicate k.toNat xs).flatten)))
theorem op_repA {X : Cx} : OpR X (binaryOp .Mult) (rRepA X.K) := by
  intro pins s σ H x y v u Q I rx ry h
  obtain ⟨l, k, xs, rfl, rfl, hT, hne, h0, h2, hz, q1, q2⟩ := h
  by_cases hk2 : 2 ≤ k
  · exact op_repT pins s σ H _ _ v u Q I rx ry ⟨l, k, xs, rfl, rfl, hT, hne, hk2, h2, hz, q2 (by omega)⟩
  cases rx
  obtain ⟨t, rfl⟩ := ry
  obtain ⟨its, r, ⟨⟨cls, dd, data, sl⟩, ho, hc, n, hd⟩, hs⟩ := I.tuple hT
  simp only at hc hd
  subst hc hd
  have hle : its.length = xs.length := r.length.symm
  have hn : its ≠ [] := fun e => hne (by
    rw [e] at hle
    exact List.eq_nil_of_length_eq_zero hle.symm)
  have hi : its.toArray.isEmpty = false := by
    cases its with
    | nil => exact absurd rfl hn
    | cons a b => rfl
  have c0 : (decide (k < -(2 ^ 63)) || decide (k ≥ 2 ^ 63)) = false := by
    rw [decide_eq_false (by omega), decide_eq_false (by omega)] <;> rfl
  by_cases hk1 : k = 1
  · have c1 : (its.toArray.isEmpty || k == 1) = true := by rw [hk1, hi]; rfl
    refine wpAny_binaryOp_repeat_ref (T := "tuple") (U := "int") (by decide) ⟨_, ho, rfl⟩ (fun s' => typeIs_int s' k t) noFill_tuple_mul F.fills_int_mul F.slot_int_rmul repeat_tuple F.slot_int_index.lookup
      (call_meets F.slot_int_rmul (typeIs_int s k t) F.entry_int_rmul (F.args_int_rmul_2 _ _) (int_rmul_tuple k t l its.toArray n dd sl)
        ⟨ho, rfl, ⟨_, ho, rfl⟩, call_meets F.slot_tuple_mul ⟨_, ho, rfl⟩ F.entry_tuple_mul (F.args_tuple_mul_2 _ _) (tuple_mul_one l its.toArray n dd sl k t c0 c1) ⟨ho, fun tk => ?_⟩⟩)
    exact ⟨.ref l, H, I.tok _, rfl, q1 hk1⟩
  · have c1 : (its.toArray.isEmpty || k == 1) = false := by
      rw [hi, Bool.false_or]
      exact beq_eq_false_iff_ne.mpr hk1
    have c2 : (decide (k ≤ 0) || its.toArray.isEmpty) = true := by
      rw [decide_eq_true (by omega)] <;> rfl
    refine wpAny_binaryOp_repeat_ref (T := "tuple") (U := "int") (by decide) ⟨_, ho, rfl⟩ (fun s' => typeIs_int s' k t) noFill_tuple_mul F.fills_int_mul F.slot_int_rmul repeat_tuple F.slot_int_index.lookup
      (call_meets F.slot_int_rmul (typeIs_int s k t) F.entry_int_rmul (F.args_int_rmul_2 _ _) (int_rmul_tuple k t l its.toArray n dd sl)
        ⟨ho, rfl, ⟨_, ho, rfl⟩, call_meets F.slot_tuple_mul ⟨_, ho, rfl⟩ F.entry_tuple_mul (F.args_tuple_mul_2 _ _) (tuple_mul_none l its.toArray n dd sl k t c0 c1 c2) ⟨ho, ?_⟩⟩)
    have ek : k.toNat = 0 := by omega
    have z := q2 hk1 _ (I.hok.fresh (Nat.le_refl _))
    rw [ek] at z
    refine ⟨.ref s.heap.objs.size, _, I.laid (t' := s.toks) (o := .tup []) (fun b ob q => Heap.get?_push_of_some _ q) (Nat.le_refl _) ?_, rfl, z⟩
    exact ⟨Nat.zero_le _, [], .nil, IsTup.new _ _⟩
/-! #### DL1 -/
/-! The D layer, part 1: plain data, the store, how they stand in the heap. -/
/-- plain data; a handle points into the store; scr: the law's own argument -/
inductive D where
  | non | bl (b : Bool) | int (i : Int) | str (x : Str) | flt (b : UInt64)
  | tup (ds : List D) | lst (ds : List D) | scr (ds : List D)
  | han (i : Nat) | cst (v : V) | exc (x : Str)
inductive O where
  | lst (ds : List D)
  | gone
  | ins (c : Str) (fs : List (Str × D))
  | dct (kvs : List (List Int × D))
abbrev Sto := List O
abbrev Env := List (Option D)
/-- the written part, and the tables of code objects that are tracked (with the names of what is made there) -/
structure Fg where
  K : PySem.W.Frag
  T : List (Addr × Str)
/-- an exception that was caught: an instance of the class at C -/
def ExcO (a C : Addr) : HO := .ext fun h => ∃ oe vs, h.get? a = some oe ∧ (oe.cls = .ref C ∧ oe.dict = none) ∧ oe.data = .fields vs
mutual
inductive Rp (K : Fg) (F : Hp) (ads : List Addr) : D → V → Prop
  | non : Rp K F ads .non .non
  | bl (b : Bool) : Rp K F ads (.bl b) (.bl b)
  | int (i : Int) : Rp K F ads (.int i) (.int i)
  | str (x : Str) : Rp K F ads (.str x) (.str x)
  | flt (b : UInt64) : Rp K F ads (.flt b) (.flt b)
  | tup {a : Addr} {ds : List D} {vs : List V} : SqT K.K F a vs → Rps K F ads ds vs → Rp K F ads (.tup ds) (.ref a)
  | lst {a : Addr} {ds : List D} {vs : List V} : F a = some (.lst vs) → Rps K F ads ds vs → Rp K F ads (.lst ds) (.ref a)
  | scr {a : Addr} {ds : List D} {vs : List V} : SqL K.K F a vs → Rps K F ads ds vs → Rp K F ads (.scr ds) (.ref a)
  | han {i : Nat} {a : Addr} : ads[i]? = some a → Rp K F ads (.han i) (.ref a)
  | cst (v : V) : Rp K F ads (.cst v) v
  | exc {x : Str} {a C : Addr} : F a = some (ExcO a C) → PySem.W.nsIn K.K mainGlobals x = some (some (.ref C)) → Rp K F ads (.exc x) (.ref a)
inductive Rps (K : Fg) (F : Hp) (ads : List Addr) : List D → List V → Prop
  | nil : Rps K F ads [] []
  | cons {d : D} {v : V} {ds : List D} {vs : List V} : Rp K F ads d v → Rps K F ads ds vs → Rps K F ads (d :: ds) (v :: vs)
end
theorem Same.tup {K : PySem.W.Frag} {H H' : Hp} {a : Addr} {xs : List V} (e : Same H H') (h : SqT K H a xs) : SqT K H' a xs := by
  rcases h with (h | ⟨o, h⟩) | h
  · exact .inl (.inl (e _ _ h))
  · exact .inl (.inr ⟨o, e _ _ h⟩)
  · exact .inr h
section
variable {K : Fg} {F F' : Hp} {ads ads' : List Addr}
mutual
theorem Rp.mono (hs : Same F F') (hp : ∀ (i : Nat) a, ads[i]? = some a → ads'[i]? = some a) : ∀ {d : D} {v : V}, Rp K F ads d v → Rp K F' ads' d v
  | _, _, .non => .non
  | _, _, .bl b => .bl b
  | _, _, .int i => .int i
  | _, _, .str x => .str x
  | _, _, .flt b => .flt b
  | _, _, .tup h r => .tup (Same.tup hs h) (Rps.mono hs hp r)
  | _, _, .lst h r => .lst (hs _ _ h) (Rps.mono hs hp r)
  | _, _, .scr h r => .scr (hs.seq h) (Rps.mono hs hp r)
  | _, _, .han h => .han (hp _ _ h)
  | _, _, .cst v => .cst v
  | _, _, .exc h n => .exc (hs _ _ h) n
theorem Rps.mono (hs : Same F F') (hp : ∀ (i : Nat) a, ads[i]? = some a → ads'[i]? = some a) : ∀ {ds : List D} {vs : List V}, Rps K F ads ds vs → Rps K F' ads' ds vs
  | _, _, .nil => .nil
  | _, _, .cons r t => .cons (Rp.mono hs hp r) (Rps.mono hs hp t)
end
theorem Rps.length : ∀ {ds : List D} {vs : List V}, Rps K F ads ds vs → ds.length = vs.length
  | _, _, .nil => rfl
  | _, _, .cons _ t => by simp [Rps.length t]
theorem Rps.append : ∀ {ds es : List D} {vs us : List V}, Rps K F ads ds vs → Rps K F ads es us → Rps K F ads (ds ++ es) (vs ++ us)
  | _, _, _, _, .nil, t => t
  | _, _, _, _, .cons r t, u => .cons r (Rps.append t u)
theorem Rps.get : ∀ {ds : List D} {vs : List V} {i : Nat} {d : D}, Rps K F ads ds vs → ds[i]? = some d → ∃ v, vs[i]? = some v ∧ Rp K F ads d v
  | _, _, _, _, .nil, e => by simp at e
  | _, _, 0, _, .cons r _, e => by simp at e; subst e; exact ⟨_, rfl, r⟩
  | _, _, i + 1, d, .cons _ t, e => by
    obtain ⟨u, h1, h2⟩ := Rps.get (i := i) (d := d) t (by simpa using e)
    exact ⟨u, by simpa using h1, h2⟩
theorem Rps.take : ∀ {ds : List D} {vs : List V} (n : Nat), Rps K F ads ds vs → Rps K F ads (ds.take n) (vs.take n)
  | _, _, 0, _ => .nil
  | _, _, _ + 1, .nil => .nil
  | _, _, n + 1, .cons r t => .cons r (Rps.take n t)
theorem Rps.drop : ∀ {ds : List D} {vs : List V} (n : Nat), Rps K F ads ds vs → Rps K F ads (ds.drop n) (vs.drop n)
  | _, _, 0, r => r
  | _, _, _ + 1, .nil => .nil
  | _, _, n + 1, .cons _ t => Rps.drop n t
theorem Rps.set {d : D} {v : V} (r : Rp K F ads d v) : ∀ {ds : List D} {vs : List V} (i : Nat), Rps K F ads ds vs → Rps K F ads (ds.set i d) (vs.set i v)
  | _, _, _, .nil => .nil
  | _, _, 0, .cons _ t => .cons r t
  | _, _, i + 1, .cons q t => .cons q (Rps.set r i t)
theorem Rps.reverse {ds : List D} {vs : List V} (h : Rps K F ads ds vs) : Rps K F ads ds.reverse vs.reverse := by
  induction h using Rps.rec (motive_1 := fun _ _ _ => True) with
  | nil => exact .nil
  | cons r t _ ih => rw [List.reverse_cons, List.reverse_cons]; exact ih.append (.cons r .nil)
  | _ => trivial
theorem Rps.dropLast {ds : List D} {vs : List V} (h : Rps K F ads ds vs) : Rps K F ads ds.dropLast vs.dropLast := by
  rw [List.dropLast_eq_take, List.dropLast_eq_take, h.length]
  exact h.take _
theorem Rps.ints : ∀ {ns : List Int} {vs : List V}, Rps K F ads (ns.map D.int) vs → vs = ns.map V.int
  | [], _, .nil => rfl
  | n :: ns, _, .cons r t => by
    cases r
    rw [Rps.ints t]; rfl
theorem Rps.bls : ∀ {ns : List Bool} {vs : List V}, Rps K F ads (ns.map D.bl) vs → vs = ns.map V.bl
  | [], _, .nil => rfl
  | n :: ns, _, .cons r t => by
    cases r
    rw [Rps.bls t]; rfl
theorem Rps.strs : ∀ {ns : List Str} {vs : List V}, Rps K F ads (ns.map D.str) vs → vs = ns.map V.str
  | [], _, .nil => rfl
  | n :: ns, _, .cons r t => by
    cases r
    rw [Rps.strs t]; rfl
theorem Rps.ofInts : ∀ (ns : List Int), Rps K F ads (ns.map D.int) (ns.map V.int)
  | [] => .nil
  | n :: ns => .cons (.int n) (Rps.ofInts ns)
theorem Rps.ofStrs : ∀ (ns : List Str), Rps K F ads (ns.map D.str) (ns.map V.str)
  | [] => .nil
  | n :: ns => .cons (.str n) (Rps.ofStrs ns)
theorem Rps.rep {ds : List D} {vs : List V} (h : Rps K F ads ds vs) : ∀ k : Nat, Rps K F ads (List.replicate k ds).flatten (List.replicate k vs).flatten
  | 0 => .nil
  | k + 1 => by
    rw [List.replicate_succ, List.replicate_succ, List.flatten_cons, List.flatten_cons]
    exact h.append (Rps.rep h k)
end
/-- F lies in H; a table of code objects is told by its name alone: it may grow -/
def Sub (F H : Hp) : Prop := ∀ b o, F b = some o → match o with
  | .tbl m => ∃ q t, m = #[Value.str q t] ∧ LamX.TabS H b q
  | _ => H b = some o
theorem Sub.there {F H : Hp} (e : Sub F H) {b : Addr} {o : HO} (h : F b = some o) : ∃ u, H b = some u := by
  have q := e b o h
  cases o with
  | tbl m => obtain ⟨_, _, _, ps, hp, _⟩ := q; exact ⟨_, hp⟩
  | _ => exact ⟨_, q⟩
theorem Sub.free {F H : Hp} (e : Sub F H) {b : Addr} (h : H b = none) : F b = none := by
  cases q : F b with
  | none => rfl
  | some o => obtain ⟨u, z⟩ := e.there q; rw [h] at z; cases z
theorem Sub.seq {K : PySem.W.Frag} {F H : Hp} {a : Addr} {xs : List V} (e : Sub F H) (h : SqL K F a xs) : SqL K H a xs := by
  rcases h with (h | ⟨o, h⟩) | h
  · exact .inl (.inl (e _ _ h))
  · exact .inl (.inr ⟨o, e _ _ h⟩)
  · exact .inr h
theorem Sub.tup {K : PySem.W.Frag} {F H : Hp} {a : Addr} {xs : List V} (e : Sub F H) (h : SqT K F a xs) : SqT K H a xs := by
  rcases h with (h | ⟨o, h⟩) | h
  · exact .inl (.inl (e _ _ h))
  · exact .inl (.inr ⟨o, e _ _ h⟩)
  · exact .inr h
/-- H' holds F too -/
theorem Sub.to {F H H' : Hp} (e : Sub F H) (k : ∀ b u, F b = some u → (∀ m, u ≠ .tbl m) → H' b = H b) (t : ∀ b q, LamX.TabS H b q → (∃ m, F b = some (.tbl m)) → LamX.TabS H' b q) : Sub F H' := fun b o h => by
  have q := e b o h
  cases o with
  | tbl m => obtain ⟨n, u, e1, e2⟩ := q; exact ⟨n, u, e1, t b n e2 ⟨m, h⟩⟩
  | _ => exact (k b _ h (fun m z => by cases z)).trans q
theorem tabs_upd {H : Hp} {b a : Addr} {q : Str} {o : HO} (t : LamX.TabS H b q) (hb : b ≠ a) (hc : ∀ c q, H c = some (LamX.CodeO c q) → c ≠ a) : LamX.TabS (upd H a o) b q := by
  obtain ⟨ps, h1, h2, h3⟩ := t
  refine ⟨ps, by rw [upd_ne hb]; exact h1, h2, fun pos cv hcv => ?_⟩
  obtain ⟨c, e1, e2⟩ := h3 pos cv hcv
  exact ⟨c, e1, by rw [upd_ne (hc c q e2)]; exact e2⟩
def isTb : HO → Bool
  | .tbl _ => true
  | _ => false
/-- what stands at a handle's address -/
def ORp (K : Fg) (F : Hp) (ads : List Addr) (H : Hp) (a : Addr) : O → Prop
  | .lst ds => F a = none ∧ ∃ vs, H a = some (.lst vs) ∧ Rps K F ads ds vs
  | .gone => ∃ vs, H a = some (.lst vs)
  | .ins c fs => F a = none ∧ ∃ C dx gs, H a = some (.ins C dx gs) ∧ PySem.W.nsIn K.K mainGlobals c = some (some (.ref C)) ∧ gs.map (·.1) = fs.map (·.1) ∧ Rps K F ads (fs.map (·.2)) (gs.map (·.2))
  | .dct kvs => F a = none ∧ ∃ us : List (List Key × V), H a = some (.dT us) ∧ us.map (·.1) = kvs.map (fun p => p.1.map Sum.inl) ∧ Rps K F ads (kvs.map (·.2)) (us.map (·.2))
structure Sim (K : Fg) (F : Hp) (ads : List Addr) (S : Sto) (H : Hp) : Prop where
  sub : Sub F H
  tab : ∀ p ∈ K.T, F p.1 = some (.tbl #[.str p.2 0])
  tb2 : ∀ b m, F b = some (.tbl m) → ∃ q, (b, q) ∈ K.T ∧ m = #[.str q 0]
  len : ads.length = S.length
  nd : ads.Nodup
  ob : ∀ (i : Nat) a o, ads[i]? = some a → S[i]? = some o → ORp K F ads H a o
/-- nothing stands there (or a table) -/
def Fresh (H : Hp) (a : Addr) : Prop := ∀ o, H a = some o → isTb o = true
structure Ext (F : Hp) (ads : List Addr) (H : Hp) (F' : Hp) (ads' : List Addr) (H' : Hp) : Prop where
  sub : Same F F'
  pre : ∀ (i : Nat) a, ads[i]? = some a → ads'[i]? = some a
  new : ∀ a ∈ ads', a ∈ ads ∨ Fresh H a
  kep : ∀ b o, H b = some o → b ∉ ads → isTb o = false → H' b = some o
  fno : ∀ b o, H b = some o → b ∉ ads → isTb o = false → F b = none → F' b = none
section
variable {K : Fg} {F F1 F2 F' : Hp} {ads ads1 ads2 ads' : List Addr} {H H1 H2 H' : Hp} {S S' : Sto} {a : Addr}
theorem Fresh.none (h : H a = none) : Fresh H a := fun o e => by rw [h] at e; cases e
theorem Ext.refl : Ext F ads H F ads H := ⟨Same.refl _, fun _ _ h => h, fun _ h => .inl h, fun _ _ h _ _ => h, fun _ _ _ _ _ h => h⟩
theorem Ext.trans (x : Ext F ads H F1 ads1 H1) (y : Ext F1 ads1 H1 F2 ads2 H2) : Ext F ads H F2 ads2 H2 := by
  have nb1 : ∀ b o, H b = some o → b ∉ ads → isTb o = false → b ∉ ads1 := fun b o h nb t hb => by
    rcases x.new b hb with q | q
    · exact nb q
    · rw [q o h] at t; cases t
  refine ⟨x.sub.trans y.sub, fun i a h => y.pre i a (x.pre i a h), fun a h => ?_, fun b o h nb t => y.kep b o (x.kep b o h nb t) (nb1 b o h nb t) t, fun b o h nb t hF => y.fno b o (x.kep b o h nb t) (nb1 b o h nb t) t (x.fno b o h nb t hF)⟩
  rcases y.new a h with q | q
  · exact x.new a q
  · by_cases ha : a ∈ ads
    · exact .inl ha
    · refine .inr fun o e => ?_
      cases t : isTb o with
      | true => rfl
      | false => rw [q o (x.kep a o e ha t)] at t; cases t
theorem Rp.ext {d : D} {v : V} (x : Ext F ads H F' ads' H') (r : Rp K F ads d v) : Rp K F' ads' d v := r.mono x.sub x.pre
theorem Rps.ext {d : List D} {v : List V} (x : Ext F ads H F' ads' H') (r : Rps K F ads d v) : Rps K F' ads' d v := r.mono x.sub x.pre
theorem Sim.at (s : Sim K F ads S H) {i : Nat} {o : O} (h : S[i]? = some o) : ∃ a, ads[i]? = some a ∧ ORp K F ads H a o := by
  have hi : i < S.length := (List.getElem?_eq_some_iff.mp h).1
  have ha : ads[i]? = some (ads[i]'(by rw [s.len]; exact hi)) := List.getElem?_eq_getElem _
  exact ⟨_, ha, s.ob i _ o ha h⟩
theorem ORp.there {a : Addr} {o : O} (h : ORp K F ads H a o) : ∃ u, H a = some u := by
  cases o with
  | lst ds => obtain ⟨_, vs, e, _⟩ := h; exact ⟨_, e⟩
  | gone => obtain ⟨vs, e⟩ := h; exact ⟨_, e⟩
  | ins c fs => obtain ⟨_, C, dx, gs, e, _⟩ := h; exact ⟨_, e⟩
  | dct kvs => obtain ⟨_, us, e, _⟩ := h; exact ⟨_, e⟩
theorem Sim.there (s : Sim K F ads S H) {a : Addr} (h : a ∈ ads) : ∃ u, H a = some u := by
  obtain ⟨i, hi, e⟩ := List.getElem_of_mem h
  have ha : ads[i]? = some a := by rw [List.getElem?_eq_getElem hi, e]
  have hS : i < S.length := by rw [← s.len]; exact hi
  exact (s.ob i a S[i] ha (List.getElem?_eq_getElem hS)).there
theorem ORp.noCode {a : Addr} {o : O} (h : ORp K F ads H a o) : (∀ c q, H c = some (LamX.CodeO c q) → c ≠ a) ∧ ∀ m, H a ≠ some (.tbl m) := by
  have key : ∀ u, H a = some u → (∀ φ, u ≠ .ext φ) → (∀ m, u ≠ .tbl m) → (∀ c q, H c = some (LamX.CodeO c q) → c ≠ a) ∧ ∀ m, H a ≠ some (.tbl m) := fun u e n n2 => by
    refine ⟨fun c q hc z => ?_, fun m z => n2 m (Option.some.inj (e.symm.trans z))⟩
    subst z
    rw [e] at hc
    exact n _ (Option.some.inj hc)
  cases o with
  | lst ds => obtain ⟨_, vs, e, _⟩ := h; exact key _ e (fun φ z => by cases z) (fun φ z => by cases z)
  | gone => obtain ⟨vs, e⟩ := h; exact key _ e (fun φ z => by cases z) (fun φ z => by cases z)
  | ins c fs => obtain ⟨_, C, dx, gs, e, _⟩ := h; exact key _ e (fun φ z => by cases z) (fun φ z => by cases z)
  | dct kvs => obtain ⟨_, us, e, _⟩ := h; exact key _ e (fun φ z => by cases z) (fun φ z => by cases z)
theorem Sim.noCode (s : Sim K F ads S H) {a : Addr} (h : a ∈ ads) : (∀ c q, H c = some (LamX.CodeO c q) → c ≠ a) ∧ ∀ m, H a ≠ some (.tbl m) := by
  obtain ⟨i, hi, e⟩ := List.getElem_of_mem h
  have ha : ads[i]? = some a := by rw [List.getElem?_eq_getElem hi, e]
  have hS : i < S.length := by rw [← s.len]; exact hi
  exact (s.ob i a S[i] ha (List.getElem?_eq_getElem hS)).noCode
theorem Sim.fresh (s : Sim K F ads S H) {p : Addr} (h : H p = none) : p ∉ ads ∧ F p = none := by
  refine ⟨fun hp => ?_, s.sub.free h⟩
  obtain ⟨u, e⟩ := s.there hp
  rw [e] at h; cases h
theorem ORp.keep {a : Addr} {o : O} (h : ORp K F ads H a o) (sF : Same F F') (pr : ∀ (i : Nat) a, ads[i]? = some a → ads'[i]? = some a) (e : H' a = H a) (f : F a = none → F' a = none) : ORp K F' ads' H' a o := by
  cases o with
  | lst ds => obtain ⟨q, vs, e1, r⟩ := h; exact ⟨f q, vs, by rw [e]; exact e1, r.mono sF pr⟩
  | gone => obtain ⟨u, e1⟩ := h; exact ⟨u, by rw [e]; exact e1⟩
  | ins c fs => obtain ⟨q, C, dx, gs, e1, n, k, r⟩ := h; exact ⟨f q, C, dx, gs, by rw [e]; exact e1, n, k, r.mono sF pr⟩
  | dct kvs => obtain ⟨q, us, e1, k, r⟩ := h; exact ⟨f q, us, by rw [e]; exact e1, k, r.mono sF pr⟩
/-- a new frozen object -/
theorem Sim.frz (s : Sim K F ads S H) {p : Addr} (hp : H p = none) (o : HO) (ho : isTb o = false := by rfl) : Sim K (upd F p o) ads S (upd H p o) ∧ Ext F ads H (upd F p o) ads (upd H p o) := by
  obtain ⟨np, nF⟩ := s.fresh hp
  have sF : Same F (upd F p o) := fun b u e => by rw [upd_ne (ne_of_none e nF)]; exact e
  have up : ∀ b u, H b = some u → upd H p o b = some u := fun b u e => by rw [upd_ne (ne_of_none e hp)]; exact e
  have tb : ∀ b m, upd F p o b = some (.tbl m) → F b = some (.tbl m) := fun b m e => by
    by_cases hb : b = p
    · subst hb; rw [upd_same] at e; cases e; cases ho
    · rw [upd_ne hb] at e; exact e
  refine ⟨⟨fun b u e => ?_, fun p hp => sF _ _ (s.tab p hp), fun b m e => s.tb2 b m (tb b m e), s.len, s.nd, fun i a q ha hq => ?_⟩, sF, fun _ _ h => h, fun _ h => .inl h, fun b u e _ _ => up b u e, fun b u e _ _ z => by rw [upd_ne (ne_of_none e hp)]; exact z⟩
  · by_cases hb : b = p
    · subst hb
      rw [upd_same] at e
      cases e
      cases o with
      | tbl m => cases ho
      | _ => exact upd_same
    · rw [upd_ne hb] at e
      have q := s.sub b u e
      cases u with
      | tbl m => obtain ⟨n, t, e1, e2⟩ := q; exact ⟨n, t, e1, e2.ext up⟩
      | _ => exact up b _ q
  · have na : a ≠ p := fun e => np (e ▸ List.mem_of_getElem? ha)
    exact (s.ob i a q ha hq).keep sF (fun _ _ h => h) (upd_ne na) (fun z => by rw [upd_ne na]; exact z)
/-- a new object of the store -/
theorem Sim.thw (s : Sim K F ads S H) {p : Addr} (hp : H p = none) (u : HO) (o : O) (h : ORp K F (ads ++ [p]) (upd H p u) p o) : Sim K F (ads ++ [p]) (S ++ [o]) (upd H p u) ∧ Ext F ads H F (ads ++ [p]) (upd H p u) := by
  obtain ⟨np, nF⟩ := s.fresh hp
  have up : ∀ b v, H b = some v → upd H p u b = some v := fun b v e => by rw [upd_ne (ne_of_none e hp)]; exact e
  have pr : ∀ (i : Nat) a, ads[i]? = some a → (ads ++ [p])[i]? = some a := fun i a e => by
    rw [List.getElem?_append_left (List.getElem?_eq_some_iff.mp e).1]; exact e
  refine ⟨⟨s.sub.to (fun b v e _ => upd_ne (ne_of_none e nF)) (fun b q t _ => t.ext up), s.tab, s.tb2, by simp [s.len], ?_, fun i a q ha hq => ?_⟩, Same.refl _, pr, fun a h => ?_, fun b v e _ _ => up b v e, fun _ _ _ _ _ z => z⟩
  · rw [List.nodup_append]
    exact ⟨s.nd, by simp, fun a ha b hb => by simp at hb; subst hb; exact fun e => np (e ▸ ha)⟩
  · by_cases hi : i < ads.length
    · rw [List.getElem?_append_left hi] at ha
      rw [List.getElem?_append_left (by rw [← s.len]; exact hi)] at hq
      have na : a ≠ p := fun e => np (e ▸ List.mem_of_getElem? ha)
      exact (s.ob i a q ha hq).keep (Same.refl _) pr (upd_ne na) id
    · have hi' : i = ads.length := by
        have := (List.getElem?_eq_some_iff.mp ha).1
        simp at this; omega
      subst hi'
      rw [List.getElem?_append_right (Nat.le_refl _)] at ha
      rw [s.len, List.getElem?_append_right (Nat.le_refl _)] at hq
      simp at ha hq
      subst ha; subst hq
      exact h
  · rcases List.mem_append.mp h with q | q
    · exact .inl q
    · simp at q; subst q; exact .inr (Fresh.none hp)
theorem nd_get {l : List Addr} (h : l.Nodup) {i j : Nat} {a : Addr} (x : l[i]? = some a) (y : l[j]? = some a) : i = j := L2.nd_ix h x y
/-- an object of the store is changed -/
theorem Sim.put (s : Sim K F ads S H) {i : Nat} {a : Addr} {o : O} (ha : ads[i]? = some a) (hF : F a = none) (u : HO) (h : ORp K F ads (upd H a u) a o) : Sim K F ads (S.set i o) (upd H a u) ∧ Ext F ads H F ads (upd H a u) := by
  obtain ⟨nc, nt⟩ := s.noCode (List.mem_of_getElem? ha)
  refine ⟨⟨s.sub.to (fun b v e _ => upd_ne (ne_of_none e hF)) (fun b q t z => tabs_upd t (fun e => by obtain ⟨m, z⟩ := z; rw [e, hF] at z; cases z) nc), s.tab, s.tb2, by simp [s.len], s.nd, fun j b q hb hq => ?_⟩, Same.refl _, fun _ _ h => h, fun _ h => .inl h, fun b u e nb _ => ?_, fun _ _ _ _ _ z => z⟩
  · by_cases hj : j = i
    · subst hj
      rw [ha] at hb; cases hb
      have hi : j < S.length := by rw [← s.len]; exact (List.getElem?_eq_some_iff.mp ha).1
      rw [List.getElem?_set_self hi] at hq
      cases hq
      exact h
    · rw [List.getElem?_set_ne (fun e => hj e.symm)] at hq
      have nb : b ≠ a := fun e => hj (nd_get s.nd hb (e ▸ ha))
      exact (s.ob j b q hb hq).keep (Same.refl _) (fun _ _ h => h) (upd_ne nb) id
  · have : b ≠ a := fun e => nb (e ▸ List.mem_of_getElem? ha)
    rw [upd_ne this]; exact e
/-- a list of the store is frozen -/
theorem Sim.freeze (s : Sim K F ads S H) {i : Nat} {a : Addr} {vs : List V} {ds : List D} (ha : ads[i]? = some a) (hH : H a = some (.lst vs)) (hF : F a = none) : Sim K (upd F a (.lst vs)) ads (S.set i .gone) H ∧ Ext F ads H (upd F a (.lst vs)) ads H := by
  have sF : Same F (upd F a (.lst vs)) := fun b u e => by rw [upd_ne (ne_of_none e hF)]; exact e
  have tb : ∀ b m, upd F a (.lst vs) b = some (.tbl m) → F b = some (.tbl m) := fun b m e => by
    by_cases hb : b = a
    · subst hb; rw [upd_same] at e; cases e
    · rw [upd_ne hb] at e; exact e
  refine ⟨⟨fun b u e => ?_, fun p hp => sF _ _ (s.tab p hp), fun b m e => s.tb2 b m (tb b m e), by simp [s.len], s.nd, fun j b q hb hq => ?_⟩, sF, fun _ _ h => h, fun _ h => .inl h, fun b u e nb _ => e, fun b u e nb _ z => by
    have : b ≠ a := fun q => nb (by rw [q]; exact List.mem_of_getElem? ha)
    rw [upd_ne this]; exact z⟩
  · by_cases hb : b = a
    · subst hb; rw [upd_same] at e; cases e; exact hH
    · rw [upd_ne hb] at e; exact s.sub b u e
  · by_cases hj : j = i
    · subst hj
      rw [ha] at hb; cases hb
      have hi : j < S.length := by rw [← s.len]; exact (List.getElem?_eq_some_iff.mp ha).1
      rw [List.getElem?_set_self hi] at hq
      cases hq
      exact ⟨_, hH⟩
    · rw [List.getElem?_set_ne (fun e => hj e.symm)] at hq
      have nb : b ≠ a := fun e => hj (nd_get s.nd hb (e ▸ ha))
      exact (s.ob j b q hb hq).keep sF (fun _ _ h => h) rfl (fun z => by rw [upd_ne nb]; exact z)
end
/-! ### one tracked thing left out of sight -/
def er (H : Hp) (D : Addr) : Hp := fun b => if b = D then none else H b
theorem er_ne {H : Hp} {D b : Addr} (h : b ≠ D) : er H D b = H b := by unfold er; rw [if_neg h]
theorem er_same {H : Hp} {D : Addr} : er H D D = none := by unfold er; rw [if_pos rfl]
theorem er_some {H : Hp} {D b : Addr} {o : HO} (h : er H D b = some o) : b ≠ D ∧ H b = some o := by
  by_cases e : b = D
  · subst e; rw [er_same] at h; cases h
  · rw [er_ne e] at h; exact ⟨e, h⟩
theorem er_upd {H : Hp} {D : Addr} {o : HO} : er (upd H D o) D = er H D := by
  funext b
  by_cases e : b = D
  · subst e; rw [er_same, er_same]
  · rw [er_ne e, er_ne e, upd_ne e]
theorem er_none {H : Hp} {D : Addr} (h : H D = none) : er H D = H := by
  funext b
  by_cases e : b = D
  · subst e; rw [er_same, h]
  · rw [er_ne e]
theorem upd_er {H : Hp} {D : Addr} {o : HO} (h : H D = some o) : upd (er H D) D o = H := by
  funext b
  by_cases e : b = D
  · subst e; rw [upd_same, h]
  · rw [upd_ne e, er_ne e]
section
variable {K : Fg} {F F' : Hp} {ads ads' : List Addr} {H H' : Hp} {S : Sto} {D : Addr}
theorem Ext.er (x : Ext F ads H F' ads' H') : Ext F ads (er H D) F' ads' (er H' D) where
  sub := x.sub
  pre := x.pre
  new := fun a h => (x.new a h).elim .inl fun q => .inr fun o e => q o (er_some e).2
  kep := fun b o h nb t => by
    obtain ⟨e, h⟩ := er_some h
    rw [er_ne e]; exact x.kep b o h nb t
  fno := fun b o h nb t z => x.fno b o (er_some h).2 nb t z
theorem Sim.er (s : Sim K F ads S H) (h1 : D ∉ ads) (h2 : F D = none) (h3 : ∃ vs, H D = some (.lst vs)) : Sim K F ads S (er H D) := by
  obtain ⟨vs, h3⟩ := h3
  refine ⟨s.sub.to (fun b o e _ => er_ne (ne_of_none e h2)) (fun b q t z => ?_), s.tab, s.tb2, s.len, s.nd, fun i a o ha ho => (s.ob i a o ha ho).keep (Same.refl _) (fun _ _ h => h) (er_ne fun e => h1 (e ▸ List.mem_of_getElem? ha)) id⟩
  obtain ⟨ps, k1, k2, k3⟩ := t
  refine ⟨ps, by rw [er_ne (fun e => by subst e; rw [h3] at k1; cases k1)]; exact k1, k2, fun pos cv hcv => ?_⟩
  obtain ⟨c, e1, e2⟩ := k3 pos cv hcv
  exact ⟨c, e1, by rw [er_ne (fun e => by subst e; rw [h3] at e2; cases e2)]; exact e2⟩
theorem Sim.uner (s : Sim K F ads S (DLay.er H D)) : Sim K F ads S H := by
  have na : ∀ a ∈ ads, a ≠ D := fun a ha e => by
    obtain ⟨u, q⟩ := s.there ha
    subst e; rw [er_same] at q; cases q
  refine ⟨s.sub.to (fun b o e _ => ?_) (fun b q t _ => t.ext fun c o e => (er_some e).2), s.tab, s.tb2, s.len, s.nd, fun i a o ha ho => (s.ob i a o ha ho).keep (Same.refl _) (fun _ _ h => h) (er_ne (na a (List.mem_of_getElem? ha))).symm id⟩
  obtain ⟨u, z⟩ := s.sub.there e
  obtain ⟨nb, _⟩ := er_some z
  exact (er_ne nb).symm
end
/-! ### the slots -/
structure EnvR (K : Fg) (F : Hp) (ads : List Addr) (env : Env) (σ : L2.St) : Prop where
  len : env.length = σ.length
  get : ∀ (i : Nat) d, env[i]? = some (some d) → ∃ v, σ[i]? = some (some v) ∧ Rp K F ads d v
section
variable {K : Fg} {F F' : Hp} {ads ads' : List Addr} {H H' : Hp} {env : Env} {σ : L2.St}
theorem EnvR.ext (x : Ext F ads H F' ads' H') (e : EnvR K F ads env σ) : EnvR K F' ads' env σ :=
  ⟨e.len, fun i d h => let ⟨v, a, r⟩ := e.get i d h; ⟨v, a, r.ext x⟩⟩
theorem EnvR.set (e : EnvR K F ads env σ) {i : Nat} {d : D} {v : V} (r : Rp K F ads d v) : EnvR K F ads (env.set i (some d)) (σ.set i (some v)) := by
  refine ⟨by simp [e.len], fun j c h => ?_⟩
  by_cases hj : j = i
  · subst hj
    by_cases hl : j < env.length
    · rw [List.getElem?_set_self hl] at h
      cases h
      exact ⟨v, List.getElem?_set_self (by rw [← e.len]; exact hl), r⟩
    · rw [List.getElem?_eq_none (by simpa using hl)] at h; cases h
  · rw [List.getElem?_set_ne (fun q => hj q.symm)] at h
    obtain ⟨u, a, q⟩ := e.get j c h
    exact ⟨u, by rw [List.getElem?_set_ne (fun q => hj q.symm)]; exact a, q⟩
def wipeD (env : Env) : List Nat → Env
  | [] => env
  | v :: vs => (wipeD env vs).set v none
theorem EnvR.setN (e : EnvR K F ads env σ) {i : Nat} : EnvR K F ads (env.set i none) (σ.set i none) := by
  refine ⟨by simp [e.len], fun j c h => ?_⟩
  by_cases hj : j = i
  · subst hj
    by_cases hl : j < env.length
    · rw [List.getElem?_set_self hl] at h; cases h
    · rw [List.getElem?_eq_none (by simpa using hl)] at h; cases h
  · rw [List.getElem?_set_ne (fun q => hj q.symm)] at h
    obtain ⟨u, a, q⟩ := e.get j c h
    exact ⟨u, by rw [List.getElem?_set_ne (fun q => hj q.symm)]; exact a, q⟩
theorem EnvR.wipe (e : EnvR K F ads env σ) : ∀ vs : List Nat, EnvR K F ads (wipeD env vs) (L2.wipe σ vs)
  | [] => e
  | v :: vs => (EnvR.wipe e vs).setN
end
/-! #### DL2 -/
/-! The D layer, part 2: readings, expressions. -/
abbrev QD := D → Sto → Prop
abbrev QL := List D → Sto → Prop
abbrev QB := Bool → Sto → Prop
abbrev XD := Str → Sto → Prop
abbrev WE := Env → Sto → QD → XD → Prop
abbrev WT := Env → Sto → QB → XD → Prop
abbrev WL := Env → Sto → QL → XD → Prop
/-- the syntax' surroundings -/
structure Sc where
  N : List Str
  sc : Scope
  fn : Str → Bool
abbrev scOf (X : Cx) : Sc := ⟨X.N, X.env.scope, X.fn⟩
/-- what does not change within a def -/
abbrev kt (X : Cx) (T : List (Addr × Str)) : Fg := ⟨X.K, T⟩
structure Cy where
  prog : Program
  w : World
  K : PySem.W.Frag
  mg : Str → Option Value
  base : Heap
  A : Around
  code : Value
  qual : Str
  T : List (Addr × Str)
abbrev cyOf (X : Cx) (T : List (Addr × Str)) : Cy := ⟨X.prog, X.w, X.K, X.mg, X.base, X.A, X.env.code, X.env.qual, T⟩
structure Good (X : Cx) (W : WX) : Prop where
  calm : X.calm = true
  nd : X.N.Nodup
  tk : Takes X W
  own : PassesOwn (model X.prog X.w) X.A X.env X.xe
  un : X.A.units + 200 < cLine
  dp : X.A.depth + 5 < recursionLimit
/-! ### readings -/
section
variable (K : Fg) (mg : Str → Option Value) (W : WX)
def KX (F : Hp) (ads : List Addr) (H : Hp) (σ : L2.St) (Xd : XD) : Prop := ∀ F' ads' S' H' x, Ext F ads H F' ads' H' → Sim K F' ads' S' H' → Xd x S' → W ((mg x).getD .none) none σ H'
def KV (F : Hp) (ads : List Addr) (H : Hp) (Qd : QD) (Q : VK) : Prop := ∀ F' ads' S' H' d v, Ext F ads H F' ads' H' → Sim K F' ads' S' H' → Rp K F' ads' d v → Qd d S' → Q v H'
def KB (F : Hp) (ads : List Addr) (H : Hp) (Qd : QB) (Q : Bool → Hp → Prop) : Prop := ∀ F' ads' S' H' b, Ext F ads H F' ads' H' → Sim K F' ads' S' H' → Qd b S' → Q b H'
def KA (n : Nat) (F : Hp) (ads : List Addr) (H : Hp) (Qd : QL) (Q : List V → Hp → Prop) : Prop := ∀ F' ads' S' H' ds vs, Ext F ads H F' ads' H' → Sim K F' ads' S' H' → Rps K F' ads' ds vs → ds.length = n → Qd ds S' → Q vs H'
def KL (F : Hp) (ads : List Addr) (H : Hp) (Qd : QL) (Q : VK) : Prop := ∀ F' ads' S' H' ds vs p, Ext F ads H F' ads' H' → Sim K F' ads' S' H' → Rps K F' ads' ds vs → H' p = none → Qd ds S' → Q (.ref p) (upd H' p (.lst vs))
def tE (w : WE) : TE := fun σ H Q => ∃ env S F ads Qd Xd, EnvR K F ads env σ ∧ Sim K F ads S H ∧ w env S Qd Xd ∧ KV K F ads H Qd Q ∧ KX K mg W F ads H σ Xd
def tT (w : WT) : TT := fun σ H Q => ∃ env S F ads Qd Xd, EnvR K F ads env σ ∧ Sim K F ads S H ∧ w env S Qd Xd ∧ KB K F ads H Qd Q ∧ KX K mg W F ads H σ Xd
def tA (n : Nat) (w : WL) : TA := fun σ H Q => ∃ env S F ads Qd Xd, EnvR K F ads env σ ∧ Sim K F ads S H ∧ w env S Qd Xd ∧ KA K n F ads H Qd Q ∧ KX K mg W F ads H σ Xd
def tL (w : WL) : TE := fun σ H Q => ∃ env S F ads Qd Xd, EnvR K F ads env σ ∧ Sim K F ads S H ∧ w env S Qd Xd ∧ KL K F ads H Qd Q ∧ KX K mg W F ads H σ Xd
end
section
variable {K : Fg} {mg : Str → Option Value} {W : WX} {F F' : Hp} {ads ads' : List Addr} {H H' : Hp} {σ : L2.St}
theorem KX.ext {Xd : XD} (k : KX K mg W F ads H σ Xd) (x : Ext F ads H F' ads' H') : KX K mg W F' ads' H' σ Xd := fun _ _ _ _ _ y s h => k _ _ _ _ _ (x.trans y) s h
theorem KV.ext {Qd : QD} {Q : VK} (k : KV K F ads H Qd Q) (x : Ext F ads H F' ads' H') : KV K F' ads' H' Qd Q := fun _ _ _ _ _ _ y s r h => k _ _ _ _ _ _ (x.trans y) s r h
theorem KB.ext {Qd : QB} {Q : Bool → Hp → Prop} (k : KB K F ads H Qd Q) (x : Ext F ads H F' ads' H') : KB K F' ads' H' Qd Q := fun _ _ _ _ _ y s h => k _ _ _ _ _ (x.trans y) s h
theorem KA.ext {n : Nat} {Qd : QL} {Q : List V → Hp → Prop} (k : KA K n F ads H Qd Q) (x : Ext F ads H F' ads' H') : KA K n F' ads' H' Qd Q := fun _ _ _ _ _ _ y s r e h => k _ _ _ _ _ _ (x.trans y) s r e h
theorem KL.ext {Qd : QL} {Q : VK} (k : KL K F ads H Qd Q) (x : Ext F ads H F' ads' H') : KL K F' ads' H' Qd Q := fun _ _ _ _ _ _ _ y s r p h => k _ _ _ _ _ _ _ (x.trans y) s r p h
end
theorem PE.imp {X : Cx} {e : Expr} {t t' : TE} (h : PE X e t) (q : ∀ σ H Q, t' σ H Q → t σ H Q) : PE X e t' := ⟨fun pins s σ H Q I z => h.run pins s σ H Q I (q _ _ _ z)⟩
theorem PT.imp {X : Cx} {e : Expr} {t t' : TT} (h : PT X e t) (q : ∀ σ H Q, t' σ H Q → t σ H Q) : PT X e t' := ⟨fun pins s σ H Q I z => h.run pins s σ H Q I (q _ _ _ z)⟩
theorem PA.imp {X : Cx} {e : List Expr} {t t' : TA} (h : PA X e t) (q : ∀ σ H Q, t' σ H Q → t σ H Q) : PA X e t' := ⟨fun pos pins s σ H Q I z => h.run pos pins s σ H Q I (q _ _ _ z)⟩
/-! ### the words: what is matched, what is meant, that it is right -/
structure DE where
  mt : Sc → Expr → Bool
  wp : WE
  rq : Cy → Prop
  ok : ∀ (X : Cx) (W : WX) (T : List (Addr × Str)) (e : Expr), mt (scOf X) e = true → Good X W → rq (cyOf X T) → PE X e (tE (kt X T) X.mg W wp)
structure DT where
  mt : Sc → Expr → Bool
  wp : WT
  rq : Cy → Prop
  ok : ∀ (X : Cx) (W : WX) (T : List (Addr × Str)) (e : Expr), mt (scOf X) e = true → Good X W → rq (cyOf X T) → PT X e (tT (kt X T) X.mg W wp)
/-- a new list -/
structure DL where
  mt : Sc → Expr → Bool
  wp : WL
  rq : Cy → Prop
  ok : ∀ (X : Cx) (W : WX) (T : List (Addr × Str)) (e : Expr), mt (scOf X) e = true → Good X W → rq (cyOf X T) → PE X e (tL (kt X T) X.mg W wp)
def noStar : Expr → Bool
  | .Starred _ _ => false
  | _ => true
theorem starEach_cons {e : Expr} {es : List Expr} {env : PySem.Env} (h : noStar e = true) : starEach (e :: es) env = (false, eval e env) :: starEach es env := by
  cases e <;> first | rfl | (simp [noStar] at h)
theorem starEach_all : ∀ {es : List Expr} {env : PySem.Env} (h : es.all noStar = true), starEach es env = es.map fun e => (false, eval e env)
  | [], _, _ => rfl
  | e :: es, env, h => by
    simp only [List.all_cons, Bool.and_eq_true] at h
    rw [starEach_cons h.1, starEach_all h.2]
    rfl
theorem backTo_any (pos : Pos) : ∀ l : List (Bool × Sem Value), (backTo pos l).any (·.1) = l.any (·.1) := fun l => by
  unfold backTo
  simp [List.any_map, Function.comp_def]
theorem star_any {es : List Expr} {env : PySem.Env} {pos : Pos} (h : es.all noStar = true) : (backTo pos (starEach es env)).any (·.1) = false := by
  rw [backTo_any, starEach_all h]
  simp [List.any_map, Function.comp_def]
structure DA where
  n : Nat
  mt : Sc → List Expr → Bool
  wp : WL
  rq : Cy → Prop
  ok : ∀ (X : Cx) (W : WX) (T : List (Addr × Str)) (e : List Expr), mt (scOf X) e = true → Good X W → rq (cyOf X T) → PA X e (tA (kt X T) X.mg W n wp) ∧ e.all noStar = true
/-! ### names, constants -/
def visB (c : Sc) (x : Str) : Bool := c.sc.names.lookup x == some .local || c.sc.names.lookup x == some .cell || c.sc.names.lookup x == some .free
theorem vis_of {X : Cx} {x : Str} (h : visB (scOf X) x = true) : Vis X.env.scope x := by
  simp only [visB, Bool.or_eq_true, beq_iff_eq] at h
  rcases h with (h | h) | h
  · exact .inl h
  · exact .inr (.inl h)
  · exact .inr (.inr h)
def nameB (c : Sc) (i : Nat) : Expr → Bool
  | .Name x _ => c.N[i]? == some x && visB c x && !(x == ("__debug__" : Str)) && !(x == ("__classdict__" : Str))
  | _ => false
theorem pe_slot {X : Cx} {i : Nat} {e : Expr} (h : nameB (scOf X) i e = true) : PE X e (tVar i) := by
  unfold nameB at h
  split at h
  · simp only [Bool.and_eq_true, beq_iff_eq, Bool.not_eq_true'] at h
    obtain ⟨⟨⟨h1, h2⟩, h3⟩, h4⟩ := h
    exact pe_var h1 (vis_of h2) h3 h4
  · cases h
def wVar (i : Nat) : WE := fun env S Q _ => ∃ d, env[i]? = some (some d) ∧ Q d S
def DE.var (i : Nat) : DE where
  mt c e := nameB c i e
  wp := wVar i
  rq _ := True
  ok X W T e h g _ := PE.imp (pe_slot h) fun σ H Q ⟨env, S, F, ads, Qd, Xd, er, sm, hw, kv, kx⟩ => by
    obtain ⟨d, hd, hq⟩ := hw
    obtain ⟨v, hv, r⟩ := er.get i d hd
    exact ⟨v, hv, kv _ _ _ _ _ _ Ext.refl sm r hq⟩
/-- a list of the store, frozen as it is read -/
def wFrz (i : Nat) : WE := fun env S Q _ => ∃ j ds, env[i]? = some (some (.han j)) ∧ S[j]? = some (.lst ds) ∧ Q (.lst ds) (S.set j .gone)
def DE.frz (i : Nat) : DE where
  mt c e := nameB c i e
  wp := wFrz i
  rq _ := True
  ok X W T e h g _ := PE.imp (pe_slot h) fun σ H Q ⟨env, S, F, ads, Qd, Xd, er, sm, hw, kv, kx⟩ => by
    obtain ⟨j, ds, hd, hS, hq⟩ := hw
    obtain ⟨v, hv, r⟩ := er.get i _ hd
    cases r with
    | han ha =>
      rename_i a
      obtain ⟨a', ha', nF, vs, hH, rs⟩ := sm.at hS
      rw [ha] at ha'; cases ha'
      obtain ⟨s2, x2⟩ := sm.freeze (ds := ds) ha hH nF
      exact ⟨_, hv, kv _ _ _ _ _ _ x2 s2 (.lst upd_same (rs.ext x2)) hq⟩
def wC (d : D) : WE := fun _ S Q _ => Q d S
def constB : D → Expr → Bool
  | .non, .Constant .none _ _ => true
  | .bl b, .Constant (.bool c) _ _ => b == c
  | .int i, .Constant (.int j) _ _ => i == j
  | .str x, .Constant (.str y) _ _ => x == y
  | _, _ => false
theorem pe_const {X : Cx} {d : D} {e : Expr} (h : constB d e = true) : ∃ v, PE X e (tC v) ∧ ∀ K F ads, Rp K F ads d v := by
  unfold constB at h
  split at h
  · exact ⟨.non, pe_non, fun _ _ _ => .non⟩
  · simp only [beq_iff_eq] at h; subst h; exact ⟨.bl _, pe_bl, fun _ _ _ => .bl _⟩
  · simp only [beq_iff_eq] at h; subst h; exact ⟨.int _, pe_int, fun _ _ _ => .int _⟩
  · simp only [beq_iff_eq] at h; subst h; exact ⟨.str _, pe_str, fun _ _ _ => .str _⟩
  · cases h
def DE.con (d : D) : DE where
  mt _ e := constB d e
  wp := wC d
  rq _ := True
  ok X W T e h g _ := by
    obtain ⟨v, p, r⟩ := pe_const (X := X) h
    exact PE.imp p fun σ H Q ⟨env, S, F, ads, Qd, Xd, er, sm, hw, kv, kx⟩ => kv _ _ _ _ _ _ Ext.refl sm (r _ _ _) hw
def glB (c : Sc) (x : Str) : Bool := c.sc.names.lookup x == some .globalImplicit
theorem gl_of {X : Cx} {x : Str} (h : glB (scOf X) x = true) : Gl X x := by
  simp only [glB, beq_iff_eq] at h; exact h
/-- a module's constant: an int -/
def DE.glo (x : Str) (i : Int) : DE where
  mt c e := match e with
    | .Name y _ => y == x && glB c x && !(x == ("__debug__" : Str))
    | _ => false
  wp := wC (.int i)
  rq Z := ∃ t, Z.mg x = some (.int i t)
  ok X W T e h g q := by
    split at h
    · simp only [Bool.and_eq_true, beq_iff_eq, Bool.not_eq_true'] at h
      obtain ⟨⟨h1, h2⟩, h3⟩ := h
      subst h1
      obtain ⟨t, ht⟩ := q
      exact PE.imp (pe_glob (v := .int i) (gl_of h2) ht ⟨t, rfl⟩ h3) fun σ H Q ⟨env, S, F, ads, Qd, Xd, er, sm, hw, kv, kx⟩ => kv _ _ _ _ _ _ Ext.refl sm (.int _) hw
    · cases h
/-! ### argument lists -/
def wNil : WL := fun _ S Q _ => Q [] S
def wCons (a : WE) (r : WL) : WL := fun env S Q X => a env S (fun d S1 => r env S1 (fun ds S2 => Q (d :: ds) S2) X) X
def DA.nil : DA where
  n := 0
  mt _ e := e.isEmpty
  wp := wNil
  rq _ := True
  ok X W T e h g _ := by
    have e0 : e = [] := by simpa using h
    subst e0
    exact ⟨PA.imp pa_nil fun σ H Q ⟨env, S, F, ads, Qd, Xd, er, sm, hw, kv, kx⟩ => kv _ _ _ _ _ _ Ext.refl sm .nil rfl hw, rfl⟩
def DA.cons (a : DE) (r : DA) : DA where
  n := r.n + 1
  mt c e := match e with
    | x :: xs => noStar x && a.mt c x && r.mt c xs
    | [] => false
  wp := wCons a.wp r.wp
  rq Z := a.rq Z ∧ r.rq Z
  ok X W T e h g q := by
    split at h
    · rename_i x xs
      simp only [Bool.and_eq_true] at h
      obtain ⟨⟨h1, h2⟩, h3⟩ := h
      obtain ⟨pr, ps⟩ := r.ok X W T xs h3 g q.2
      refine ⟨PA.imp (pa_cons (a.ok X W T x h2 g q.1) pr (starEach_cons h1)) fun σ H Q ⟨env, S, F, ads, Qd, Xd, er, sm, hw, kv, kx⟩ => ?_, by rw [List.all_cons, h1, ps]; rfl⟩
      refine ⟨env, S, F, ads, _, Xd, er, sm, hw, fun F1 ads1 S1 H1 d v x1 s1 r1 h1 => ?_, kx⟩
      exact ⟨env, S1, F1, ads1, _, Xd, er.ext x1, s1, h1, fun F2 ads2 S2 H2 ds vs x2 s2 r2 l2 h2 => kv _ _ _ _ _ _ (x1.trans x2) s2 (.cons (r1.ext x2) r2) (by rw [List.length_cons, l2]) h2, kx.ext x1⟩
    · cases h
/-! ### from values to data -/
/-- an operation of two values -/
def Ok2 (K : Fg) (op : D → D → Sto → QD → Prop) (r : R2) : Prop := ∀ {F ads S H x y v u Qd Q}, Sim K F ads S H → Rp K F ads x v → Rp K F ads y u → op x y S Qd → KV K F ads H Qd Q → r v u H Q
def w2 (op : D → D → Sto → QD → Prop) (a b : WE) : WE := fun env S Q X => a env S (fun x S1 => b env S1 (fun y S2 => op x y S2 Q) X) X
theorem seq2 {K : Fg} {mg : Str → Option Value} {W : WX} {op : D → D → Sto → QD → Prop} {r : R2} {a b : WE} (o : Ok2 K op r) {σ : L2.St} {H : Hp} {Q : VK} (h : tE K mg W (w2 op a b) σ H Q) : tOp r (tE K mg W a) (tE K mg W b) σ H Q := by
  obtain ⟨env, S, F, ads, Qd, Xd, er, sm, hw, kv, kx⟩ := h
  refine ⟨env, S, F, ads, _, Xd, er, sm, hw, fun F1 ads1 S1 H1 d v x1 s1 r1 h1 => ?_, kx⟩
  refine ⟨env, S1, F1, ads1, _, Xd, er.ext x1, s1, h1, fun F2 ads2 S2 H2 d2 v2 x2 s2 r2 h2 => ?_, kx.ext x1⟩
  exact o s2 (r1.ext x2) r2 h2 (kv.ext (x1.trans x2))
def Ok1 (K : Fg) (op : D → Sto → QD → Prop) (r : V → Hp → VK → Prop) : Prop := ∀ {F ads S H x v Qd Q}, Sim K F ads S H → Rp K F ads x v → op x S Qd → KV K F ads H Qd Q → r v H Q
def w1 (op : D → Sto → QD → Prop) (a : WE) : WE := fun env S Q X => a env S (fun x S1 => op x S1 Q) X
theorem seq1 {K : Fg} {mg : Str → Option Value} {W : WX} {op : D → Sto → QD → Prop} {r : V → Hp → VK → Prop} {a : WE} (o : Ok1 K op r) {σ : L2.St} {H : Hp} {Q : VK} (h : tE K mg W (w1 op a) σ H Q) : tUn r (tE K mg W a) σ H Q := by
  obtain ⟨env, S, F, ads, Qd, Xd, er, sm, hw, kv, kx⟩ := h
  exact ⟨env, S, F, ads, _, Xd, er, sm, hw, fun F1 ads1 S1 H1 d v x1 s1 r1 h1 => o s1 r1 h1 (kv.ext x1), kx⟩
def OkA (K : Fg) (op : List D → Sto → QD → Prop) (r : List V → Hp → VK → Prop) : Prop := ∀ {F ads S H xs vs Qd Q}, Sim K F ads S H → Rps K F ads xs vs → op xs S Qd → KV K F ads H Qd Q → r vs H Q
def wAp (op : List D → Sto → QD → Prop) (a : WL) : WE := fun env S Q X => a env S (fun x S1 => op x S1 Q) X
theorem seqA {K : Fg} {mg : Str → Option Value} {W : WX} {op : List D → Sto → QD → Prop} {r : List V → Hp → VK → Prop} {a : WL} {n : Nat} (o : OkA K op r) {σ : L2.St} {H : Hp} {Q : VK} (h : tE K mg W (wAp op a) σ H Q) : tCB r (tA K mg W n a) σ H Q := by
  obtain ⟨env, S, F, ads, Qd, Xd, er, sm, hw, kv, kx⟩ := h
  exact ⟨env, S, F, ads, _, Xd, er, sm, hw, fun F1 ads1 S1 H1 d v x1 s1 r1 _ h1 => o s1 r1 h1 (kv.ext x1), kx⟩
/-! ### sequences as data -/
/-- the items of a list -/
def lstOf (S : Sto) : D → Option (List D)
  | .lst ds => some ds
  | .scr ds => some ds
  | .han i => match S[i]? with
    | some (.lst ds) => some ds
    | _ => none
  | _ => none
theorem lst_sq {K : Fg} {F : Hp} {ads : List Addr} {S : Sto} {H : Hp} {d : D} {v : V} {ds : List D} (sm : Sim K F ads S H) (r : Rp K F ads d v) (h : lstOf S d = some ds) : ∃ a vs, v = .ref a ∧ SqL K.K H a vs ∧ Rps K F ads ds vs := by
  unfold lstOf at h
  split at h
  · cases h
    cases r with
    | lst hF rs => exact ⟨_, _, rfl, SqL.of (sm.sub _ _ hF), rs⟩
  · cases h
    cases r with
    | scr hF rs => exact ⟨_, _, rfl, sm.sub.seq hF, rs⟩
  · split at h
    · rename_i hS
      cases h
      cases r with
      | han ha =>
        obtain ⟨a', ha', nF, vs, hH, rs⟩ := sm.at hS
        rw [ha] at ha'; cases ha'
        exact ⟨_, _, rfl, SqL.of hH, rs⟩
    · cases h
  · cases h
def tupOf : D → Option (List D)
  | .tup ds => some ds
  | _ => none
theorem tup_sq {K : Fg} {F : Hp} {ads : List Addr} {S : Sto} {H : Hp} {d : D} {v : V} {ds : List D} (sm : Sim K F ads S H) (r : Rp K F ads d v) (h : tupOf d = some ds) : ∃ a vs, v = .ref a ∧ SqT K.K H a vs ∧ Rps K F ads ds vs := by
  unfold tupOf at h
  split at h
  · cases h
    cases r with
    | tup hF rs => exact ⟨_, _, rfl, Sub.tup sm.sub hF, rs⟩
  · cases h
/-- the items of a list or tuple -/
def seqOf (S : Sto) (d : D) : Option (List D) := match tupOf d with
  | some ds => some ds
  | none => lstOf S d
theorem seq_sq {K : Fg} {F : Hp} {ads : List Addr} {S : Sto} {H : Hp} {d : D} {v : V} {ds : List D} (sm : Sim K F ads S H) (r : Rp K F ads d v) (h : seqOf S d = some ds) : ∃ a vs, v = .ref a ∧ (SqL K.K H a vs ∨ SqT K.K H a vs) ∧ Rps K F ads ds vs := by
  unfold seqOf at h
  split at h
  · rename_i q
    cases h
    obtain ⟨a, vs, e, hs, rs⟩ := tup_sq sm r q
    exact ⟨a, vs, e, .inr hs, rs⟩
  · obtain ⟨a, vs, e, hs, rs⟩ := lst_sq sm r h
    exact ⟨a, vs, e, .inl hs, rs⟩
/-- a list that may be changed or joined (not the script) -/
def lstX (S : Sto) : D → Option (List D)
  | .lst ds => some ds
  | .han i => match S[i]? with
    | some (.lst ds) => some ds
    | _ => none
  | _ => none
theorem lstX_at {K : Fg} {F : Hp} {ads : List Addr} {S : Sto} {H : Hp} {d : D} {v : V} {ds : List D} (sm : Sim K F ads S H) (r : Rp K F ads d v) (h : lstX S d = some ds) : ∃ a vs, v = .ref a ∧ H a = some (.lst vs) ∧ Rps K F ads ds vs := by
  unfold lstX at h
  split at h
  · cases h
    cases r with
    | lst hF rs => exact ⟨_, _, rfl, sm.sub _ _ hF, rs⟩
  · split at h
    · rename_i hS
      cases h
      cases r with
      | han ha =>
        obtain ⟨a', ha', nF, vs, hH, rs⟩ := sm.at hS
        rw [ha] at ha'; cases ha'
        exact ⟨_, _, rfl, hH, rs⟩
    · cases h
  · cases h
/-! ### operators -/
def IntDivOk (j : Int) : Prop := j ≠ 0 ∧ j.natAbs.log2 < 9000
def oAdd : D → D → Sto → QD → Prop
  | .int i, .int j, S, Q => Q (.int (i + j)) S
  | .str a, .str b, S, Q => a.length + b.length ≤ sizeLine ∧ Q (.str (a ++ b)) S
  | .tup a, .tup b, S, Q => a.length + b.length ≤ sizeLine ∧ Q (.tup (a ++ b)) S
  | x, y, S, Q => ∃ a b, lstX S x = some a ∧ lstX S y = some b ∧ a.length + b.length ≤ sizeLine ∧ Q (.lst (a ++ b)) S
def oSub : D → D → Sto → QD → Prop
  | .int i, .int j, S, Q => Q (.int (i - j)) S
  | _, _, _, _ => False
def repS (z : Str) (k : Int) : Str := if k < 1 then Str.empty else if (k == 1 || z.length == 0) = true then z else ⟨(List.replicate k.toNat z.cps).foldl (· ++ ·) #[]⟩
def oMul : D → D → Sto → QD → Prop
  | .int i, .int j, S, Q => IntMulOk i j ∧ Q (.int (i * j)) S
  | .tup a, .int k, S, Q => a ≠ [] ∧ -1000 ≤ k ∧ k ≤ 1000 ∧ a.length ≤ 1000 ∧ Q (.tup (List.replicate k.toNat a).flatten) S
  | .str z, .int k, S, Q => (-1000 ≤ k ∧ k ≤ 1000 ∧ z.length ≤ 1000) ∧ Q (.str (repS z k)) S
  | _, _, _, _ => False
def oDiv : D → D → Sto → QD → Prop
  | .int i, .int j, S, Q => IntDivOk j ∧ Q (.int (i.fdiv j)) S
  | _, _, _, _ => False
def oMod : D → D → Sto → QD → Prop
  | .int i, .int j, S, Q => j ≠ 0 ∧ Q (.int (i.fmod j)) S
  | _, _, _, _ => False
def oPow : D → D → Sto → QD → Prop
  | .int i, .int j, S, Q => (0 ≤ j ∧ j ≤ 1000000 ∧ i.natAbs < 2 ^ 64) ∧ Q (.int (i ^ j.toNat)) S
  | _, _, _, _ => False
def opD : Operator → D → D → Sto → QD → Prop
  | .Add => oAdd
  | .Sub => oSub
  | .Mult => oMul
  | .FloorDiv => oDiv
  | .Mod => oMod
  | .Pow => oPow
  | _ => fun _ _ _ _ => False
theorem op_mulA {X : Cx} : OpR X (binaryOp .Mult) (rI IntMulOk fun i j => .int (i * j)) := opI fun _ _ _ _ _ _ _ hc q => mul_int q hc
theorem op_divA {X : Cx} : OpR X (binaryOp .FloorDiv) (rI (fun _ j => IntDivOk j) fun i j => .int (i.fdiv j)) := opI fun _ _ _ _ _ _ _ hc q => floordiv_int hc.1 q (.inl (PyProof.noPylong_of_log2 hc.2))
theorem ok_add {K : Fg} : Ok2 K oAdd (fun x y H Q => (rI0 fun i j => .int (i + j)) x y H Q ∨ ((fun x y H Q => ∃ i j, x = .str i ∧ y = .str j ∧ i.length + j.length ≤ sizeLine ∧ Q (.str (i ++ j)) H : R2) x y H Q ∨ (rCatA K.K x y H Q ∨ rCat x y H Q))) := by
  intro F ads S H x y v u Qd Q sm rx ry h kv
  unfold oAdd at h
  split at h
  · cases rx; cases ry
    exact .inl ⟨_, _, rfl, rfl, kv _ _ _ _ _ _ Ext.refl sm (.int _) h⟩
  · cases rx; cases ry
    exact .inr (.inl ⟨_, _, rfl, rfl, h.1, kv _ _ _ _ _ _ Ext.refl sm (.str _) h.2⟩)
  · rename_i da db
    have rx0 := rx; have ry0 := ry
    cases rx with
    | tup ha ra =>
      cases ry with
      | tup hb rb =>
        rename_i a xs b ys
        obtain ⟨hz, hq⟩ := h
        refine .inr (.inr (.inl ⟨a, b, xs, ys, rfl, rfl, Sub.tup sm.sub ha, Sub.tup sm.sub hb, by rw [← ra.length, ← rb.length]; exact hz, fun e => ?_, fun _ e => ?_, fun _ _ p hp => ?_⟩))
        · subst e
          cases ra
          exact kv _ _ _ _ _ _ Ext.refl sm ry0 hq
        · subst e
          cases rb
          rw [List.append_nil] at hq
          exact kv _ _ _ _ _ _ Ext.refl sm rx0 hq
        · obtain ⟨s2, x2⟩ := sm.frz hp (.tup (xs ++ ys))
          exact kv _ _ _ _ _ _ x2 s2 (.tup (SqT.of upd_same) ((ra.append rb).ext x2)) hq
  · obtain ⟨da, db, ha, hb, hz, hq⟩ := h
    obtain ⟨a, xs, rfl, ea, ra⟩ := lstX_at sm rx ha
    obtain ⟨b, ys, rfl, eb, rb⟩ := lstX_at sm ry hb
    refine .inr (.inr (.inr ⟨a, b, xs, ys, rfl, rfl, ea, eb, by rw [← ra.length, ← rb.length]; exact hz, fun p hp => ?_⟩))
    obtain ⟨s2, x2⟩ := sm.frz hp (.lst (xs ++ ys))
    exact kv _ _ _ _ _ _ x2 s2 (.lst upd_same ((ra.append rb).ext x2)) hq
theorem ok_sub {K : Fg} : Ok2 K oSub (rI0 fun i j => .int (i - j)) := by
  intro F ads S H x y v u Qd Q sm rx ry h kv
  unfold oSub at h
  split at h
  · cases rx; cases ry
    exact ⟨_, _, rfl, rfl, kv _ _ _ _ _ _ Ext.refl sm (.int _) h⟩
  · exact h.elim
theorem rep_size (a : Array Nat) : ∀ (m : Nat) (b : Array Nat), (List.foldl (fun x1 x2 => x1 ++ x2) b (List.replicate m a)).size = b.size + m * a.size
  | 0, b => by simp
  | m + 1, b => by
    rw [List.replicate_succ, List.foldl_cons, rep_size a m, Array.size_append, Nat.succ_mul]
    omega
def rRepS : R2 := fun x y H Q => ∃ z k, x = .str z ∧ y = .int k ∧ (-1000 ≤ k ∧ k ≤ 1000 ∧ z.length ≤ 1000) ∧ Q (.str (repS z k)) H
theorem op_repS {X : Cx} : OpR X (binaryOp .Mult) rRepS := by
  intro pins s σ H x y v u Q I rx ry h
  obtain ⟨z, k, rfl, rfl, ⟨h0, h1, hz⟩, q⟩ := h
  obtain ⟨t, rfl⟩ := rx
  obtain ⟨t2, rfl⟩ := ry
  have c0 : (decide (k < -(2 ^ 63 : Int)) || decide (k ≥ 2 ^ 63)) = false := by
    rw [decide_eq_false (by omega), decide_eq_false (by omega)] <;> rfl
  refine P.mul_str c0 (fun hk _ => ?_) (fun hk _ => ?_) ?_
  · have : (1000 : Int) ≤ (2 ^ 63 - 1) / k := by
      rw [Int.le_ediv_iff_mul_le (by omega)]
      omega
    omega
  · have : z.length * k.toNat ≤ 1000 * 1000 := Nat.mul_le_mul hz (by omega)
    exact decide_eq_false (by rw [sizeLine_eq]; omega)
  · have q' : Q (.str (repS z k)) H := q
    unfold repS at q'
    split
    · rename_i e
      rw [if_pos e] at q'
      exact ⟨by decide, .str _, H, I.tok _, ⟨_, rfl⟩, q'⟩
    · rename_i e
      rw [if_neg e] at q'
      split
      · rename_i e2
        rw [if_pos e2] at q'
        exact ⟨.str _, H, I, ⟨_, rfl⟩, q'⟩
      · rename_i e2
        rw [if_neg e2] at q'
        refine ⟨?_, .str _, H, I.tok _, ⟨_, rfl⟩, q'⟩
        have : z.length * k.toNat ≤ 1000 * 1000 := Nat.mul_le_mul hz (by omega)
        show (List.foldl (fun x1 x2 => x1 ++ x2) #[] (List.replicate k.toNat z.cps)).size ≤ sizeLine
        rw [rep_size, sizeLine_eq]
        rw [Nat.mul_comm] at this
        have e3 : z.cps.size = z.length := rfl
        rw [e3]; simp; omega
theorem ok_mul {K : Fg} : Ok2 K oMul (fun x y H Q => (rI IntMulOk fun i j => .int (i * j)) x y H Q ∨ (rRepA K.K x y H Q ∨ rRepS x y H Q)) := by
  intro F ads S H x y v u Qd Q sm rx ry h kv
  unfold oMul at h
  split at h
  · cases rx; cases ry
    exact .inl ⟨_, _, rfl, rfl, h.1, kv _ _ _ _ _ _ Ext.refl sm (.int _) h.2⟩
  · obtain ⟨hne, h0, h1, hl, hq⟩ := h
    rename_i da k
    have rx0 := rx
    cases ry
    cases rx with
    | tup ha ra =>
      rename_i a xs
      refine .inr <| .inl ⟨a, k, xs, rfl, rfl, Sub.tup sm.sub ha, fun e => ?_, h0, h1, by rw [← ra.length]; exact hl, fun e => ?_, fun _ p hp => ?_⟩
      · subst e; cases ra; exact hne rfl
      · subst e
        have : (List.replicate (1 : Int).toNat da).flatten = da := by simp [List.replicate]
        rw [this] at hq
        exact kv _ _ _ _ _ _ Ext.refl sm rx0 hq
      · obtain ⟨s2, x2⟩ := sm.frz hp (.tup (List.replicate k.toNat xs).flatten)
        exact kv _ _ _ _ _ _ x2 s2 (.tup (SqT.of upd_same) ((ra.rep _).ext x2)) hq
  · cases rx; cases ry
    exact .inr <| .inr ⟨_, _, rfl, rfl, h.1, kv _ _ _ _ _ _ Ext.refl sm (.str _) h.2⟩
  · exact h.elim
theorem ok_div {K : Fg} : Ok2 K oDiv (rI (fun _ j => IntDivOk j) fun i j => .int (i.fdiv j)) := by
  intro F ads S H x y v u Qd Q sm rx ry h kv
  unfold oDiv at h
  split at h
  · cases rx; cases ry
    exact ⟨_, _, rfl, rfl, h.1, kv _ _ _ _ _ _ Ext.refl sm (.int _) h.2⟩
  · exact h.elim
theorem ok_mod {K : Fg} : Ok2 K oMod (rI (fun _ j => j ≠ 0) fun i j => .int (i.fmod j)) := by
  intro F ads S H x y v u Qd Q sm rx ry h kv
  unfold oMod at h
  split at h
  · cases rx; cases ry
    exact ⟨_, _, rfl, rfl, h.1, kv _ _ _ _ _ _ Ext.refl sm (.int _) h.2⟩
  · exact h.elim
theorem ok_pow {K : Fg} : Ok2 K oPow (rI CPow fun i j => .int (i ^ j.toNat)) := by
  intro F ads S H x y v u Qd Q sm rx ry h kv
  unfold oPow at h
  split at h
  · cases rx; cases ry
    exact ⟨_, _, rfl, rfl, h.1, kv _ _ _ _ _ _ Ext.refl sm (.int _) h.2⟩
  · exact h.elim
theorem op_ok {X : Cx} (T : List (Addr × Str)) (o : Operator) : ∃ r, OpR X (binaryOp o) r ∧ Ok2 (kt X T) (opD o) r := by
  have no : ∀ o, ∃ r, OpR X (binaryOp o) r ∧ Ok2 (kt X T) (fun _ _ _ _ => False) r := fun o => ⟨fun _ _ _ _ => False, fun _ _ _ _ _ _ _ _ _ _ _ _ h => h.elim, fun _ _ _ h _ => h.elim⟩
  cases o with
  | Add => exact ⟨_, op_add.or (op_add_str.or (op_catA.or op_cat)), ok_add⟩
  | Sub => exact ⟨_, op_sub, ok_sub⟩
  | Mult => exact ⟨_, op_mulA.or (op_repA.or op_repS), ok_mul⟩
  | FloorDiv => exact ⟨_, op_divA, ok_div⟩
  | Mod => exact ⟨_, op_modN, ok_mod⟩
  | Pow => exact ⟨_, op_pow, ok_pow⟩
  | _ => exact no _
def DE.op (o : Operator) (a b : DE) : DE where
  mt c e := match e with
    | .BinOp x o' y _ => o' == o && a.mt c x && b.mt c y
    | _ => false
  wp := w2 (opD o) a.wp b.wp
  rq Z := a.rq Z ∧ b.rq Z
  ok X W T e h g q := by
    split at h
    · simp only [Bool.and_eq_true, beq_iff_eq] at h
      obtain ⟨⟨rfl, h1⟩, h2⟩ := h
      rename_i o' _ _
      obtain ⟨r, ho, hk⟩ := op_ok (X := X) T o'
      exact PE.imp (pe_op ho (a.ok X W T _ h1 g q.1) (b.ok X W T _ h2 g q.2)) fun σ H Q z => seq2 hk z
    · cases h
def oNeg : D → Sto → QD → Prop
  | .int i, S, Q => Q (.int (-i)) S
  | _, _, _ => False
theorem ok_neg {K : Fg} : Ok1 K oNeg (rU fun i => .int (-i)) := by
  intro F ads S H x v Qd Q sm rx h kv
  unfold oNeg at h
  split at h
  · cases rx
    exact ⟨_, rfl, kv _ _ _ _ _ _ Ext.refl sm (.int _) h⟩
  · exact h.elim
def DE.neg (a : DE) : DE where
  mt c e := match e with
    | .UnaryOp .USub x _ => a.mt c x
    | _ => false
  wp := w1 oNeg a.wp
  rq Z := a.rq Z
  ok X W T e h g q := by
    split at h
    · exact PE.imp (pe_un un_neg (a.ok X W T _ h g q)) fun σ H Q z => seq1 ok_neg z
    · cases h
/-! #### DL3 -/
/-! The D layer, part 3: comparisons, tests, subscripts, displays, built-ins. -/
/-! ### data as the library's own -/
mutual
def pyD : D → Option PyData
  | .non => some .none
  | .bl b => some (.bool b)
  | .int i => some (.int i)
  | .str x => some (.str x)
  | .tup ds => (pyDs ds).map .tuple
  | .lst ds => (pyDs ds).map .list
  | .scr ds => (pyDs ds).map .list
  | _ => none
def pyDs : List D → Option (List PyData)
  | [] => some []
  | d :: ds => match pyD d, pyDs ds with
    | some p, some ps => some (p :: ps)
    | _, _ => none
end
section
variable {K : Fg} {F : Hp} {ads : List Addr} {S : Sto} {H : Hp}
mutual
theorem dp_of (sm : Sim K F ads S H) : ∀ {d : D} {v : V} {p : PyData}, Rp K F ads d v → pyD d = some p → Dp K.K H v p
  | _, _, _, .non, e => by cases e; exact .non
  | _, _, _, .bl b, e => by cases e; exact .bl b
  | _, _, _, .int i, e => by cases e; exact .int i
  | _, _, _, .str x, e => by cases e; exact .str x
  | _, _, _, .flt b, e => by cases e
  | _, _, _, .tup (ds := ds) h r, e => by
    unfold pyD at e
    cases q : pyDs ds with
    | none => rw [q] at e; cases e
    | some ps => rw [q] at e; cases e; exact .tup (Sub.tup sm.sub h) (dps_of sm r q)
  | _, _, _, .lst (ds := ds) h r, e => by
    unfold pyD at e
    cases q : pyDs ds with
    | none => rw [q] at e; cases e
    | some ps => rw [q] at e; cases e; exact .lst (SqL.of (sm.sub _ _ h)) (dps_of sm r q)
  | _, _, _, .scr (ds := ds) h r, e => by
    unfold pyD at e
    cases q : pyDs ds with
    | none => rw [q] at e; cases e
    | some ps => rw [q] at e; cases e; exact .lst (sm.sub.seq h) (dps_of sm r q)
  | _, _, _, .han h, e => by cases e
  | _, _, _, .cst v, e => by cases e
theorem dps_of (sm : Sim K F ads S H) : ∀ {ds : List D} {vs : List V} {ps : List PyData}, Rps K F ads ds vs → pyDs ds = some ps → DpAll K.K H vs ps
  | _, _, _, .nil, e => by cases e; exact .nil
  | _, _, _, .cons (d := d) (ds := ds) r t, e => by
    unfold pyDs at e
    cases q : pyD d with
    | none => rw [q] at e; cases e
    | some p =>
      cases q2 : pyDs ds with
      | none => rw [q, q2] at e; cases e
      | some ps => rw [q, q2] at e; cases e; exact .cons (dp_of sm r q) (dps_of sm t q2)
end
/-- .. a handle's list too -/
def pyOf (S : Sto) : D → Option PyData
  | .han i => match S[i]? with
    | some (.lst ds) => (pyDs ds).map .list
    | _ => none
  | d => pyD d
theorem dpo_of (sm : Sim K F ads S H) {d : D} {v : V} {p : PyData} (r : Rp K F ads d v) (e : pyOf S d = some p) : Dp K.K H v p := by
  unfold pyOf at e
  split at e
  · split at e
    · rename_i ds hS
      cases r with
      | han ha =>
        obtain ⟨a', ha', nF, vs, hH, rs⟩ := sm.at hS
        rw [ha] at ha'; cases ha'
        cases q : pyDs ds with
        | none => rw [q] at e; cases e
        | some ps => rw [q] at e; cases e; exact .lst (SqL.of hH) (dps_of sm rs q)
    · cases e
  · exact dp_of sm r e
end
/-! ### comparisons -/
def oEq : D → D → Sto → QD → Prop
  | .int i, .int j, S, Q => Q (.bl (decide (i = j))) S
  | .str i, .str j, S, Q => Q (.bl (decide (i = j))) S
  | x, y, S, Q => ∃ p q, pyOf S x = some p ∧ pyOf S y = some q ∧ SeqAt.shaped p = true ∧ SeqAt.shaped q = true ∧ Q (.bl (PyData.eqv p q)) S
def oNe : D → D → Sto → QD → Prop
  | .int i, .int j, S, Q => Q (.bl (!decide (i = j))) S
  | .str i, .str j, S, Q => Q (.bl (!decide (i = j))) S
  | x, y, S, Q => ∃ p q, pyOf S x = some p ∧ pyOf S y = some q ∧ SeqAt.shaped p = true ∧ SeqAt.shaped q = true ∧ Q (.bl (!PyData.eqv p q)) S
def oI (f : Int → Int → Bool) : D → D → Sto → QD → Prop
  | .int i, .int j, S, Q => Q (.bl (f i j)) S
  | _, _, _, _ => False
def isNon : D → Option Bool
  | .non => some true
  | .cst _ => none
  | _ => some false
def oIs : D → D → Sto → QD → Prop
  | x, .non, S, Q => ∃ b, isNon x = some b ∧ Q (.bl b) S
  | .bl a, .bl b, S, Q => Q (.bl (decide (a = b))) S
  | _, _, _, _ => False
def oIsNot : D → D → Sto → QD → Prop
  | x, .non, S, Q => ∃ b, isNon x = some b ∧ Q (.bl (!b)) S
  | .bl a, .bl b, S, Q => Q (.bl (!decide (a = b))) S
  | _, _, _, _ => False
def oIn : D → D → Sto → QD → Prop
  | .str x, .str z, S, Q => ∃ c, x = ⟨#[c]⟩ ∧ Q (.bl (decide (c ∈ z.cps.toList))) S
  | .int i, y, S, Q => ∃ ns : List Int, seqOf S y = some (ns.map .int) ∧ Q (.bl (decide (i ∈ ns))) S
  | _, _, _, _ => False
def oNotIn : D → D → Sto → QD → Prop
  | .str x, .str z, S, Q => ∃ c, x = ⟨#[c]⟩ ∧ Q (.bl (!decide (c ∈ z.cps.toList))) S
  | .int i, y, S, Q => ∃ ns : List Int, seqOf S y = some (ns.map .int) ∧ Q (.bl (!decide (i ∈ ns))) S
  | _, _, _, _ => False
def cmD : CmpOp → D → D → Sto → QD → Prop
  | .Eq => oEq
  | .NotEq => oNe
  | .Lt => oI fun i j => decide (i < j)
  | .LtE => oI fun i j => decide (i ≤ j)
  | .Gt => oI fun i j => decide (j < i)
  | .GtE => oI fun i j => decide (j ≤ i)
  | .Is => oIs
  | .IsNot => oIsNot
  | .In => oIn
  | .NotIn => oNotIn
section
variable {K : Fg}
theorem ok_eq : Ok2 K oEq (fun x y H Q => rEq x y H Q ∨ rEqD K.K x y H Q) := by
  intro F ads S H x y v u Qd Q sm rx ry h kv
  unfold oEq at h
  split at h
  · cases rx; cases ry
    refine .inl ⟨rfl, kv _ _ _ _ _ _ Ext.refl sm (.bl _) ?_⟩
    simpa using h
  · cases rx; cases ry
    refine .inl ⟨rfl, kv _ _ _ _ _ _ Ext.refl sm (.bl _) ?_⟩
    simpa using h
  · obtain ⟨p, q, e1, e2, s1, s2, h⟩ := h
    exact .inr ⟨p, q, dpo_of sm rx e1, dpo_of sm ry e2, s1, s2, kv _ _ _ _ _ _ Ext.refl sm (.bl _) h⟩
theorem ok_ne : Ok2 K oNe (fun x y H Q => rNe x y H Q ∨ rNeD K.K x y H Q) := by
  intro F ads S H x y v u Qd Q sm rx ry h kv
  unfold oNe at h
  split at h
  · cases rx; cases ry
    refine .inl ⟨rfl, kv _ _ _ _ _ _ Ext.refl sm (.bl _) ?_⟩
    simpa using h
  · cases rx; cases ry
    refine .inl ⟨rfl, kv _ _ _ _ _ _ Ext.refl sm (.bl _) ?_⟩
    simpa using h
  · obtain ⟨p, q, e1, e2, s1, s2, h⟩ := h
    exact .inr ⟨p, q, dpo_of sm rx e1, dpo_of sm ry e2, s1, s2, kv _ _ _ _ _ _ Ext.refl sm (.bl _) h⟩
theorem ok_I {f : Int → Int → Bool} : Ok2 K (oI f) (rI0 fun i j => .bl (f i j)) := by
  intro F ads S H x y v u Qd Q sm rx ry h kv
  unfold oI at h
  split at h
  · cases rx; cases ry
    exact ⟨_, _, rfl, rfl, kv _ _ _ _ _ _ Ext.refl sm (.bl _) h⟩
  · exact h.elim
theorem isNon_of {F : Hp} {ads : List Addr} {x : D} {v : V} {b : Bool} (r : Rp K F ads x v) (h : isNon x = some b) : decide (v = .non) = b := by
  cases r <;> first | (cases h; rfl) | cases h
theorem ok_is : Ok2 K oIs (fun x y H Q => (y = .non ∧ Q (.bl (decide (x = .non))) H) ∨ ∃ a b, x = .bl a ∧ y = .bl b ∧ Q (.bl (decide (a = b))) H) := by
  intro F ads S H x y v u Qd Q sm rx ry h kv
  unfold oIs at h
  split at h
  · obtain ⟨b, hb, h⟩ := h
    cases ry
    refine .inl ⟨rfl, kv _ _ _ _ _ _ Ext.refl sm (.bl _) ?_⟩
    rw [isNon_of rx hb]; exact h
  · cases rx; cases ry
    exact .inr ⟨_, _, rfl, rfl, kv _ _ _ _ _ _ Ext.refl sm (.bl _) h⟩
  · exact h.elim
theorem ok_isnot : Ok2 K oIsNot (fun x y H Q => (y = .non ∧ Q (.bl (!decide (x = .non))) H) ∨ ∃ a b, x = .bl a ∧ y = .bl b ∧ Q (.bl (!decide (a = b))) H) := by
  intro F ads S H x y v u Qd Q sm rx ry h kv
  unfold oIsNot at h
  split at h
  · obtain ⟨b, hb, h⟩ := h
    cases ry
    refine .inl ⟨rfl, kv _ _ _ _ _ _ Ext.refl sm (.bl _) ?_⟩
    rw [isNon_of rx hb]; exact h
  · cases rx; cases ry
    exact .inr ⟨_, _, rfl, rfl, kv _ _ _ _ _ _ Ext.refl sm (.bl _) h⟩
  · exact h.elim
theorem inV_int (i : Int) : ∀ ns : List Int, inV (.int i) (ns.map V.int) = decide (i ∈ ns)
  | [] => rfl
  | n :: ns => by
    have ih := inV_int i ns
    unfold inV at ih ⊢
    rw [List.map_cons, List.any_cons, ih]
    by_cases e : n = i
    · subst e; simp [eqV]
    · have e' : ¬ i = n := fun q => e q.symm
      simp [eqV, e, e']
theorem flat_ints (ns : List Int) : (ns.map V.int).all flatV = true := by
  rw [List.all_map]
  simp [Function.comp_def, flatV]
theorem ok_in : Ok2 K oIn (fun x y H Q => (∃ (c : Nat) (z : Str), x = .str ⟨#[c]⟩ ∧ y = .str z ∧ Q (.bl (decide (c ∈ z.cps.toList))) H) ∨ rIn K.K false x y H Q) := by
  intro F ads S H x y v u Qd Q sm rx ry h kv
  unfold oIn at h
  split at h
  · obtain ⟨c, rfl, h⟩ := h
    cases rx; cases ry
    exact .inl ⟨_, _, rfl, rfl, kv _ _ _ _ _ _ Ext.refl sm (.bl _) h⟩
  · obtain ⟨ns, hs, h⟩ := h
    cases rx
    obtain ⟨a, vs, e, hq, rs⟩ := seq_sq sm ry hs
    have e2 := rs.ints
    subst e2
    refine .inr ⟨a, _, e, hq, rfl, flat_ints ns, kv _ _ _ _ _ _ Ext.refl sm (.bl _) ?_⟩
    rw [inV_int]; exact h
  · exact h.elim
theorem ok_notin : Ok2 K oNotIn (fun x y H Q => (∃ (c : Nat) (z : Str), x = .str ⟨#[c]⟩ ∧ y = .str z ∧ Q (.bl (!decide (c ∈ z.cps.toList))) H) ∨ rIn K.K true x y H Q) := by
  intro F ads S H x y v u Qd Q sm rx ry h kv
  unfold oNotIn at h
  split at h
  · obtain ⟨c, rfl, h⟩ := h
    cases rx; cases ry
    exact .inl ⟨_, _, rfl, rfl, kv _ _ _ _ _ _ Ext.refl sm (.bl _) h⟩
  · obtain ⟨ns, hs, h⟩ := h
    cases rx
    obtain ⟨a, vs, e, hq, rs⟩ := seq_sq sm ry hs
    have e2 := rs.ints
    subst e2
    refine .inr ⟨a, _, e, hq, rfl, flat_ints ns, kv _ _ _ _ _ _ Ext.refl sm (.bl _) ?_⟩
    rw [inV_int]; exact h
  · exact h.elim
end
theorem cm_ok {X : Cx} {W : WX} (T : List (Addr × Str)) (g : Good X W) (o : CmpOp) : ∃ r, OpR X (compareOp o) r ∧ Ok2 (kt X T) (cmD o) r := by
  have u64 : X.A.units + 64 < cLine := by have := g.un; omega
  cases o with
  | Eq => exact ⟨_, op_eq.or (op_eqD u64), ok_eq⟩
  | NotEq => exact ⟨_, op_ne.or (op_neD u64), ok_ne⟩
  | Lt => exact ⟨_, op_lt, ok_I⟩
  | LtE => exact ⟨_, op_le, ok_I⟩
  | Gt => exact ⟨_, op_gt, ok_I⟩
  | GtE => exact ⟨_, op_ge, ok_I⟩
  | Is => exact ⟨_, op_isN.or op_is_bl, ok_is⟩
  | IsNot => exact ⟨_, op_notN.or op_isnot_bl, ok_isnot⟩
  | In => exact ⟨_, op_in_sign.or op_in_seq, ok_in⟩
  | NotIn => exact ⟨_, op_notIn_sign.or op_notIn_seq, ok_notin⟩
def noSet : Expr → Bool
  | .Set _ _ _ => false
  | _ => true
theorem noSet_marks {o : CmpOp} {e : Expr} (h : noSet e = true) : behindInMarks o e = false := by
  cases e <;> first | rfl | (simp [noSet] at h)
def DE.cmp (o : CmpOp) (a b : DE) : DE where
  mt c e := match e with
    | .Compare x [o'] [y] _ => o' == o && a.mt c x && b.mt c y && noSet y
    | _ => false
  wp := w2 (cmD o) a.wp b.wp
  rq Z := a.rq Z ∧ b.rq Z
  ok X W T e h g q := by
    split at h
    · simp only [Bool.and_eq_true, beq_iff_eq] at h
      obtain ⟨⟨⟨rfl, h1⟩, h2⟩, h3⟩ := h
      rename_i o' _ _
      obtain ⟨r, ho, hk⟩ := cm_ok T g o'
      exact PE.imp (pe_cmpR ho (a.ok X W T _ h1 g q.1) (b.ok X W T _ h2 g q.2) (noSet_marks h3)) fun σ H Q z => seq2 hk z
    · cases h
/-! ### tests -/
/-- a value that is a bool, as a test -/
def wB (a : WE) : WT := fun env S Q X => a env S (fun d S1 => ∃ b, d = .bl b ∧ Q b S1) X
theorem tB_of {K : Fg} {mg : Str → Option Value} {W : WX} {a : WE} {σ : L2.St} {H : Hp} {Q : Bool → Hp → Prop} (h : tT K mg W (wB a) σ H Q) : tE K mg W a σ H fun x H' => ∃ k, x = .bl k ∧ Q k H' := by
  obtain ⟨env, S, F, ads, Qd, Xd, er, sm, hw, kv, kx⟩ := h
  refine ⟨env, S, F, ads, _, Xd, er, sm, hw, fun F1 ads1 S1 H1 d v x1 s1 r1 h1 => ?_, kx⟩
  obtain ⟨b, rfl, hq⟩ := h1
  cases r1
  exact ⟨b, rfl, kv _ _ _ _ _ x1 s1 hq⟩
def DT.cmp (o : CmpOp) (a b : DE) : DT where
  mt c e := match e with
    | .Compare x [o'] [y] _ => o' == o && a.mt c x && b.mt c y && noSet y
    | _ => false
  wp := wB (w2 (cmD o) a.wp b.wp)
  rq Z := a.rq Z ∧ b.rq Z
  ok X W T e h g q := by
    split at h
    · simp only [Bool.and_eq_true, beq_iff_eq] at h
      obtain ⟨⟨⟨rfl, h1⟩, h2⟩, h3⟩ := h
      rename_i o' _ _
      obtain ⟨r, ho, hk⟩ := cm_ok T g o'
      exact PT.imp (pt_cmpR ho (a.ok X W T _ h1 g q.1) (b.ok X W T _ h2 g q.2) (noSet_marks h3)) fun σ H Q z => seq2 hk (tB_of z)
    · cases h
/-- a < b < c -/
def w3 (op op' : D → D → Sto → QD → Prop) (a b c : WE) : WE := fun env S Q X => a env S (fun x S1 => b env S1 (fun y S2 => op x y S2 fun z S3 => ∃ k, z = .bl k ∧ if k = true then c env S3 (fun u S4 => op' y u S4 Q) X else Q (.bl false) S3) X) X
theorem seq3 {K : Fg} {mg : Str → Option Value} {W : WX} {op op' : D → D → Sto → QD → Prop} {r r' : R2} {a b c : WE} (o : Ok2 K op r) (o' : Ok2 K op' r') {σ : L2.St} {H : Hp} {Q : VK} (h : tE K mg W (w3 op op' a b c) σ H Q) :
    tChain r r' (tE K mg W a) (tE K mg W b) (tE K mg W c) σ H Q := by
  obtain ⟨env, S, F, ads, Qd, Xd, er, sm, hw, kv, kx⟩ := h
  refine ⟨env, S, F, ads, _, Xd, er, sm, hw, fun F1 ads1 S1 H1 d v x1 s1 r1 h1 => ?_, kx⟩
  refine ⟨env, S1, F1, ads1, _, Xd, er.ext x1, s1, h1, fun F2 ads2 S2 H2 d2 v2 x2 s2 r2 h2 => ?_, kx.ext x1⟩
  refine o s2 (r1.ext x2) r2 h2 fun F3 ads3 S3 H3 d3 v3 x3 s3 r3 h3 => ?_
  obtain ⟨k, rfl, h3⟩ := h3
  cases r3
  refine ⟨k, rfl, ?_⟩
  have x13 := (x1.trans x2).trans x3
  cases k with
  | false => exact kv _ _ _ _ _ _ x13 s3 (.bl _) h3
  | true => exact ⟨env, S3, F3, ads3, _, Xd, er.ext x13, s3, h3, fun F4 ads4 S4 H4 d4 v4 x4 s4 r4 h4 => o' s4 (r2.ext (x3.trans x4)) r4 h4 (kv.ext (x13.trans x4)), kx.ext x13⟩
def DE.chn (o o' : CmpOp) (a b c : DE) : DE where
  mt k e := match e with
    | .Compare x [p, p'] [y, z] _ => p == o && p' == o' && a.mt k x && b.mt k y && c.mt k z && noSet y && noSet z
    | _ => false
  wp := w3 (cmD o) (cmD o') a.wp b.wp c.wp
  rq Z := a.rq Z ∧ b.rq Z ∧ c.rq Z
  ok X W T e h g q := by
    split at h
    · simp only [Bool.and_eq_true, beq_iff_eq] at h
      obtain ⟨⟨⟨⟨⟨⟨rfl, rfl⟩, h1⟩, h2⟩, h3⟩, h4⟩, h5⟩ := h
      rename_i p p' _ _ _
      obtain ⟨r, ho, hk⟩ := cm_ok T g p
      obtain ⟨r', ho', hk'⟩ := cm_ok T g p'
      exact PE.imp (pe_chain ho ho' (a.ok X W T _ h1 g q.1) (b.ok X W T _ h2 g q.2.1) (c.ok X W T _ h3 g q.2.2) (noSet_marks h5)) fun σ H Q z => seq3 hk hk' z
    · cases h
def DT.chn (o o' : CmpOp) (a b c : DE) : DT where
  mt k e := match e with
    | .Compare x [p, p'] [y, z] _ => p == o && p' == o' && a.mt k x && b.mt k y && c.mt k z && noSet y && noSet z
    | _ => false
  wp := wB (w3 (cmD o) (cmD o') a.wp b.wp c.wp)
  rq Z := a.rq Z ∧ b.rq Z ∧ c.rq Z
  ok X W T e h g q := by
    split at h
    · simp only [Bool.and_eq_true, beq_iff_eq] at h
      obtain ⟨⟨⟨⟨⟨⟨rfl, rfl⟩, h1⟩, h2⟩, h3⟩, h4⟩, h5⟩ := h
      rename_i p p' _ _ _
      obtain ⟨r, ho, hk⟩ := cm_ok T g p
      obtain ⟨r', ho', hk'⟩ := cm_ok T g p'
      exact PT.imp (pt_chain ho ho' (a.ok X W T _ h1 g q.1) (b.ok X W T _ h2 g q.2.1) (c.ok X W T _ h3 g q.2.2) (noSet_marks h5)) fun σ H Q z => seq3 hk hk' (tB_of z)
    · cases h
def plainT : Expr → Bool
  | .UnaryOp .Not _ _ => false
  | .BoolOp _ _ _ => false
  | .IfExp _ _ _ _ => false
  | .Compare _ _ _ _ => false
  | _ => true
theorem plainT_of {e : Expr} {env : PySem.Env} (h : plainT e = true) (whole : Sem Value) : isTrue e env whole = (do let v ← whole; standAt e.pos; holding [v] (truthy v)) := by
  cases e with
  | UnaryOp o x p => cases o <;> first | rfl | (exact absurd h (by simp [plainT]))
  | _ => first | rfl | (exact absurd h (by simp [plainT]))
/-- an expression that gives a bool -/
def DT.val (a : DE) : DT where
  mt c e := plainT e && a.mt c e
  wp := wB a.wp
  rq Z := a.rq Z
  ok X W T e h g q := by
    simp only [Bool.and_eq_true] at h
    exact PT.imp (pt_val (a.ok X W T _ h.2 g q) (plainT_of h.1)) fun σ H Q z => tB_of z
def wNotT (a : WT) : WT := fun env S Q X => a env S (fun b S1 => Q (!b) S1) X
def DT.not (a : DT) : DT where
  mt c e := match e with
    | .UnaryOp .Not x _ => a.mt c x
    | _ => false
  wp := wNotT a.wp
  rq Z := a.rq Z
  ok X W T e h g q := by
    split at h
    · exact PT.imp (pt_not (a.ok X W T _ h g q)) fun σ H Q ⟨env, S, F, ads, Qd, Xd, er, sm, hw, kv, kx⟩ => ⟨env, S, F, ads, _, Xd, er, sm, hw, fun F1 ads1 S1 H1 b x1 s1 h1 => kv _ _ _ _ _ x1 s1 h1, kx⟩
    · cases h
/-- the parts of an «and», an «or» -/
structure DW where
  op : BoolOp
  mt : Sc → List Expr → Bool
  wp : WT
  rq : Cy → Prop
  ok : ∀ (X : Cx) (W : WX) (T : List (Addr × Str)) (e : List Expr) (pos : Pos), mt (scOf X) e = true → Good X W → rq (cyOf X T) → PW X (.BoolOp op e pos) (tT (kt X T) X.mg W wp) ∧ e ≠ []
theorem PW.imp {X : Cx} {e : Expr} {t t' : TT} (h : PW X e t) (q : ∀ σ H Q, t' σ H Q → t σ H Q) : PW X e t' := ⟨fun wh pins s σ H Q I z => h.run wh pins s σ H Q I (q _ _ _ z)⟩
def DW.one (o : BoolOp) (a : DT) : DW where
  op := o
  mt c e := match e with
    | [x] => a.mt c x
    | _ => false
  wp := a.wp
  rq := a.rq
  ok X W T e pos h g q := by
    split at h
    · cases o with
      | And => exact ⟨pw_and1 (a.ok X W T _ h g q), by simp⟩
      | Or => exact ⟨pw_or1 (a.ok X W T _ h g q), by simp⟩
    · cases h
def wAndT (a b : WT) : WT := fun env S Q X => a env S (fun k S1 => if k = true then b env S1 Q X else Q false S1) X
def wOrT (a b : WT) : WT := fun env S Q X => a env S (fun k S1 => if k = true then Q true S1 else b env S1 Q X) X
theorem seqAnd {K : Fg} {mg : Str → Option Value} {W : WX} {a b : WT} {σ : L2.St} {H : Hp} {Q : Bool → Hp → Prop} (h : tT K mg W (wAndT a b) σ H Q) : tAnd (tT K mg W a) (tT K mg W b) σ H Q := by
  obtain ⟨env, S, F, ads, Qd, Xd, er, sm, hw, kv, kx⟩ := h
  refine ⟨env, S, F, ads, _, Xd, er, sm, hw, fun F1 ads1 S1 H1 k x1 s1 h1 => ?_, kx⟩
  cases k with
  | true => exact ⟨env, S1, F1, ads1, _, Xd, er.ext x1, s1, h1, kv.ext x1, kx.ext x1⟩
  | false => exact kv _ _ _ _ _ x1 s1 h1
theorem seqOr {K : Fg} {mg : Str → Option Value} {W : WX} {a b : WT} {σ : L2.St} {H : Hp} {Q : Bool → Hp → Prop} (h : tT K mg W (wOrT a b) σ H Q) : tOr (tT K mg W a) (tT K mg W b) σ H Q := by
  obtain ⟨env, S, F, ads, Qd, Xd, er, sm, hw, kv, kx⟩ := h
  refine ⟨env, S, F, ads, _, Xd, er, sm, hw, fun F1 ads1 S1 H1 k x1 s1 h1 => ?_, kx⟩
  cases k with
  | false => exact ⟨env, S1, F1, ads1, _, Xd, er.ext x1, s1, h1, kv.ext x1, kx.ext x1⟩
  | true => exact kv _ _ _ _ _ x1 s1 h1
def boolW : BoolOp → WT → WT → WT
  | .And => wAndT
  | .Or => wOrT
def DW.cons (a : DT) (r : DW) : DW where
  op := r.op
  mt c e := match e with
    | x :: xs => a.mt c x && r.mt c xs
    | _ => false
  wp := boolW r.op a.wp r.wp
  rq Z := a.rq Z ∧ r.rq Z
  ok X W T e pos h g q := by
    split at h
    · simp only [Bool.and_eq_true] at h
      rename_i x xs
      obtain ⟨hr, hne⟩ := r.ok X W T xs pos h.2 g q.2
      have ha := a.ok X W T x h.1 g q.1
      refine ⟨?_, by simp⟩
      cases xs with
      | nil => exact absurd rfl hne
      | cons y ys =>
        cases hop : r.op with
        | And => rw [hop] at hr; exact PW.imp (pw_and ha hr) fun σ H Q z => seqAnd z
        | Or => rw [hop] at hr; exact PW.imp (pw_or ha hr) fun σ H Q z => seqOr z
    · cases h
def DT.bool (r : DW) : DT where
  mt c e := match e with
    | .BoolOp o es _ => o == r.op && r.mt c es
    | _ => false
  wp := r.wp
  rq := r.rq
  ok X W T e h g q := by
    split at h
    · simp only [Bool.and_eq_true, beq_iff_eq] at h
      obtain ⟨rfl, h2⟩ := h
      exact (r.ok X W T _ _ h2 g q).1.pt
    · cases h
/-! ### and, or, not, if as values -/
def wNotV (a : WE) : WE := fun env S Q X => a env S (fun d S1 => ∃ b, d = .bl b ∧ Q (.bl (!b)) S1) X
def DE.not (a : DE) : DE where
  mt c e := match e with
    | .UnaryOp .Not x _ => a.mt c x
    | _ => false
  wp := wNotV a.wp
  rq Z := a.rq Z
  ok X W T e h g q := by
    split at h
    · exact PE.imp (pe_not (a.ok X W T _ h g q)) fun σ H Q ⟨env, S, F, ads, Qd, Xd, er, sm, hw, kv, kx⟩ => ⟨env, S, F, ads, _, Xd, er, sm, hw, fun F1 ads1 S1 H1 d v x1 s1 r1 h1 => by
        obtain ⟨b, rfl, hq⟩ := h1
        cases r1
        exact ⟨b, rfl, kv _ _ _ _ _ _ x1 s1 (.bl _) hq⟩, kx⟩
    · cases h
structure DV where
  op : BoolOp
  mt : Sc → List Expr → Bool
  wp : WE
  rq : Cy → Prop
  ok : ∀ (X : Cx) (W : WX) (T : List (Addr × Str)) (e : List Expr) (pos : Pos), mt (scOf X) e = true → Good X W → rq (cyOf X T) → PE X (.BoolOp op e pos) (tE (kt X T) X.mg W wp) ∧ e ≠ []
def DV.one (o : BoolOp) (a : DE) : DV where
  op := o
  mt c e := match e with
    | [x] => a.mt c x
    | _ => false
  wp := a.wp
  rq := a.rq
  ok X W T e pos h g q := by
    split at h
    · exact ⟨pe_one (a.ok X W T _ h g q), by simp⟩
    · cases h
def wAndV (a b : WE) : WE := fun env S Q X => a env S (fun d S1 => ∃ k, d = .bl k ∧ if k = true then b env S1 Q X else Q (.bl false) S1) X
def wOrV (a b : WE) : WE := fun env S Q X => a env S (fun d S1 => ∃ k, d = .bl k ∧ if k = true then Q (.bl true) S1 else b env S1 Q X) X
theorem seqAndV {K : Fg} {mg : Str → Option Value} {W : WX} {a b : WE} {σ : L2.St} {H : Hp} {Q : VK} (h : tE K mg W (wAndV a b) σ H Q) : tAndV (tE K mg W a) (tE K mg W b) σ H Q := by
  obtain ⟨env, S, F, ads, Qd, Xd, er, sm, hw, kv, kx⟩ := h
  refine ⟨env, S, F, ads, _, Xd, er, sm, hw, fun F1 ads1 S1 H1 d v x1 s1 r1 h1 => ?_, kx⟩
  obtain ⟨k, rfl, h1⟩ := h1
  cases r1
  refine ⟨k, rfl, ?_⟩
  cases k with
  | true => exact ⟨env, S1, F1, ads1, _, Xd, er.ext x1, s1, h1, kv.ext x1, kx.ext x1⟩
  | false => exact kv _ _ _ _ _ _ x1 s1 (.bl _) h1
theorem seqOrV {K : Fg} {mg : Str → Option Value} {W : WX} {a b : WE} {σ : L2.St} {H : Hp} {Q : VK} (h : tE K mg W (wOrV a b) σ H Q) : tOrV (tE K mg W a) (tE K mg W b) σ H Q := by
  obtain ⟨env, S, F, ads, Qd, Xd, er, sm, hw, kv, kx⟩ := h
  refine ⟨env, S, F, ads, _, Xd, er, sm, hw, fun F1 ads1 S1 H1 d v x1 s1 r1 h1 => ?_, kx⟩
  obtain ⟨k, rfl, h1⟩ := h1
  cases r1
  refine ⟨k, rfl, ?_⟩
  cases k with
  | false => exact ⟨env, S1, F1, ads1, _, Xd, er.ext x1, s1, h1, kv.ext x1, kx.ext x1⟩
  | true => exact kv _ _ _ _ _ _ x1 s1 (.bl _) h1
def boolV : BoolOp → WE → WE → WE
  | .And => wAndV
  | .Or => wOrV
def DV.cons (a : DE) (r : DV) : DV where
  op := r.op
  mt c e := match e with
    | x :: xs => a.mt c x && r.mt c xs
    | _ => false
  wp := boolV r.op a.wp r.wp
  rq Z := a.rq Z ∧ r.rq Z
  ok X W T e pos h g q := by
    split at h
    · simp only [Bool.and_eq_true] at h
      rename_i x xs
      obtain ⟨hr, hne⟩ := r.ok X W T xs pos h.2 g q.2
      have ha := a.ok X W T x h.1 g q.1
      refine ⟨?_, by simp⟩
      cases xs with
      | nil => exact absurd rfl hne
      | cons y ys =>
        cases hop : r.op with
        | And => rw [hop] at hr; exact PE.imp (pe_and ha hr) fun σ H Q z => seqAndV z
        | Or => rw [hop] at hr; exact PE.imp (pe_or ha hr) fun σ H Q z => seqOrV z
    · cases h
def DE.bool (r : DV) : DE where
  mt c e := match e with
    | .BoolOp o es _ => o == r.op && r.mt c es
    | _ => false
  wp := r.wp
  rq := r.rq
  ok X W T e h g q := by
    split at h
    · simp only [Bool.and_eq_true, beq_iff_eq] at h
      obtain ⟨rfl, h2⟩ := h
      exact (r.ok X W T _ _ h2 g q).1
    · cases h
def wIte (t : WT) (a b : WE) : WE := fun env S Q X => t env S (fun k S1 => if k = true then a env S1 Q X else b env S1 Q X) X
def DE.ite (t : DT) (a b : DE) : DE where
  mt c e := match e with
    | .IfExp x y z _ => t.mt c x && a.mt c y && b.mt c z
    | _ => false
  wp := wIte t.wp a.wp b.wp
  rq Z := t.rq Z ∧ a.rq Z ∧ b.rq Z
  ok X W T e h g q := by
    split at h
    · simp only [Bool.and_eq_true] at h
      refine PE.imp (pe_ifExp (t.ok X W T _ h.1.1 g q.1) (a.ok X W T _ h.1.2 g q.2.1) (b.ok X W T _ h.2 g q.2.2)) fun σ H Q ⟨env, S, F, ads, Qd, Xd, er, sm, hw, kv, kx⟩ => ?_
      refine ⟨env, S, F, ads, _, Xd, er, sm, hw, fun F1 ads1 S1 H1 k x1 s1 h1 => ?_, kx⟩
      cases k with
      | true => exact ⟨env, S1, F1, ads1, _, Xd, er.ext x1, s1, h1, kv.ext x1, kx.ext x1⟩
      | false => exact ⟨env, S1, F1, ads1, _, Xd, er.ext x1, s1, h1, kv.ext x1, kx.ext x1⟩
    · cases h
/-! ### subscripts -/
def oIx : D → D → Sto → QD → Prop
  | x, .int i, S, Q => ∃ ds d, seqOf S x = some ds ∧ atI ds i = some d ∧ Q d S
  | _, _, _, _ => False
theorem atI_rp {K : Fg} {F : Hp} {ads : List Addr} {ds : List D} {vs : List V} {i : Int} {d : D} (r : Rps K F ads ds vs) (h : atI ds i = some d) : ∃ v, atI vs i = some v ∧ Rp K F ads d v := by
  unfold atI at h ⊢
  rw [← r.length]
  cases e : ixN ds.length i with
  | none => rw [e] at h; cases h
  | some j =>
    rw [e] at h
    obtain ⟨v, hv, rv⟩ := r.get (show ds[j]? = some d from h)
    exact ⟨v, hv, rv⟩
theorem ok_ix {K : Fg} : Ok2 K oIx (rIx K.K) := by
  intro F ads S H x y v u Qd Q sm rx ry h kv
  unfold oIx at h
  split at h
  · obtain ⟨ds, d, hs, hi, hq⟩ := h
    cases ry
    obtain ⟨a, vs, e, hq2, rs⟩ := seq_sq sm rx hs
    obtain ⟨z, hz, rz⟩ := atI_rp rs hi
    rcases hq2 with hq2 | hq2
    · exact .inl ⟨a, vs, _, z, e, rfl, hq2, hz, kv _ _ _ _ _ _ Ext.refl sm rz hq⟩
    · exact .inr (.inl ⟨a, vs, _, z, e, rfl, hq2, hz, kv _ _ _ _ _ _ Ext.refl sm rz hq⟩)
  · exact h.elim
def plainIx : Expr → Bool
  | .Slice _ _ _ _ => false
  | _ => true
theorem plainIx_of {e : Expr} (h : plainIx e = true) : PlainIx e := fun o i => by
  cases e <;> first | rfl | (simp [plainIx] at h)
def DE.ix (a b : DE) : DE where
  mt c e := match e with
    | .Subscript x y _ => a.mt c x && b.mt c y && plainIx y
    | _ => false
  wp := w2 oIx a.wp b.wp
  rq Z := a.rq Z ∧ b.rq Z
  ok X W T e h g q := by
    split at h
    · simp only [Bool.and_eq_true] at h
      exact PE.imp (pe_ix ix_seq (a.ok X W T _ h.1.1 g q.1) (b.ok X W T _ h.1.2 g q.2) (plainIx_of h.2)) fun σ H Q z => seq2 ok_ix z
    · cases h
/-! slices -/
abbrev WO := Env → Sto → (Option Int → Sto → Prop) → XD → Prop
def tO (K : Fg) (mg : Str → Option Value) (W : WX) (w : WO) : TO := fun σ H Q => ∃ env S F ads Qd Xd, EnvR K F ads env σ ∧ Sim K F ads S H ∧ w env S Qd Xd ∧ (∀ F' ads' S' H' o, Ext F ads H F' ads' H' → Sim K F' ads' S' H' → Qd o S' → Q o H') ∧ KX K mg W F ads H σ Xd
structure DO where
  mt : Sc → Option Expr → Bool
  wp : WO
  rq : Cy → Prop
  ok : ∀ (X : Cx) (W : WX) (T : List (Addr × Str)) (e : Option Expr), mt (scOf X) e = true → Good X W → rq (cyOf X T) → PO X e (tO (kt X T) X.mg W wp)
theorem PO.imp {X : Cx} {e : Option Expr} {t t' : TO} (h : PO X e t) (q : ∀ σ H Q, t' σ H Q → t σ H Q) : PO X e t' := ⟨fun pins s σ H Q I z => h.run pins s σ H Q I (q _ _ _ z)⟩
def wNo : WO := fun _ S Q _ => Q none S
def wSo (a : WE) : WO := fun env S Q X => a env S (fun d S1 => ∃ i, d = .int i ∧ Q (some i) S1) X
def DO.no : DO where
  mt _ e := e.isNone
  wp := wNo
  rq _ := True
  ok X W T e h g _ := by
    cases e with
    | none => exact PO.imp po_none fun σ H Q ⟨env, S, F, ads, Qd, Xd, er, sm, hw, kv, kx⟩ => kv _ _ _ _ _ Ext.refl sm hw
    | some x => cases h
def DO.so (a : DE) : DO where
  mt c e := match e with
    | some x => a.mt c x
    | none => false
  wp := wSo a.wp
  rq := a.rq
  ok X W T e h g q := by
    split at h
    · exact PO.imp (po_some (a.ok X W T _ h g q)) fun σ H Q ⟨env, S, F, ads, Qd, Xd, er, sm, hw, kv, kx⟩ => ⟨env, S, F, ads, _, Xd, er, sm, hw, fun F1 ads1 S1 H1 d v x1 s1 r1 h1 => by
        obtain ⟨i, rfl, hq⟩ := h1
        cases r1
        exact ⟨i, rfl, kv _ _ _ _ _ x1 s1 hq⟩, kx⟩
    · cases h
def cutD (xs : List D) (lo hi : Option Int) : List D := (xs.drop (HT.sIx xs.length 0 lo)).take (HT.sIx xs.length xs.length hi - HT.sIx xs.length 0 lo)
theorem cut_rp {K : Fg} {F : Hp} {ads : List Addr} {ds : List D} {vs : List V} (r : Rps K F ads ds vs) (lo hi : Option Int) : Rps K F ads (cutD ds lo hi) (cutV vs lo hi) := by
  unfold cutD cutV
  rw [r.length]
  exact (r.drop _).take _
def oSl (lo hi : Option Int) : D → Sto → QD → Prop
  | .tup ds, S, Q => Q (.tup (cutD ds lo hi)) S
  | .str z, S, Q => z.length ≤ sizeLine ∧ Q (.str (cutS z lo hi)) S
  | x, S, Q => ∃ ds, lstOf S x = some ds ∧ Q (.lst (cutD ds lo hi)) S
theorem cut_all {n : Nat} {ds : List D} {lo hi : Option Int} (h : HT.sIx ds.length 0 lo = 0 ∧ HT.sIx ds.length ds.length hi = ds.length) : cutD ds lo hi = ds := by
  unfold cutD
  rw [h.1, h.2]
  simp
theorem ok_sl {K : Fg} {lo hi : Option Int} : Ok1 K (oSl lo hi) (fun x H Q => rSlA K.K x lo hi H Q ∨ (rSlL K.K x lo hi H Q ∨ rSlS x lo hi H Q)) := by
  intro F ads S H x v Qd Q sm rx h kv
  unfold oSl at h
  split at h
  · have rx0 := rx
    cases rx with
    | tup ha ra =>
      rename_i ds a vs
      refine .inl ⟨a, vs, rfl, Sub.tup sm.sub ha, fun e => ?_, fun _ p hp => ?_⟩
      · rw [← ra.length] at e
        rw [cut_all (n := 0) e] at h
        exact kv _ _ _ _ _ _ Ext.refl sm rx0 h
      · obtain ⟨s2, x2⟩ := sm.frz hp (.tup (cutV vs lo hi))
        exact kv _ _ _ _ _ _ x2 s2 (.tup (SqT.of upd_same) ((cut_rp ra lo hi).ext x2)) h
  · cases rx
    exact .inr (.inr ⟨_, rfl, h.1, kv _ _ _ _ _ _ Ext.refl sm (.str _) h.2⟩)
  · obtain ⟨ds, hs, h⟩ := h
    obtain ⟨a, vs, e, hq, rs⟩ := lst_sq sm rx hs
    refine .inr (.inl ⟨a, vs, e, hq, fun p hp => ?_⟩)
    obtain ⟨s2, x2⟩ := sm.frz hp (.lst (cutV vs lo hi))
    exact kv _ _ _ _ _ _ x2 s2 (.lst upd_same ((cut_rp rs lo hi).ext x2)) h
def wSl (a : WE) (lo hi : WO) : WE := fun env S Q X => a env S (fun x S1 => lo env S1 (fun l S2 => hi env S2 (fun u S3 => oSl l u x S3 Q) X) X) X
def DE.sl (a : DE) (lo hi : DO) : DE where
  mt c e := match e with
    | .Subscript x (.Slice l u none _) _ => a.mt c x && lo.mt c l && hi.mt c u
    | _ => false
  wp := wSl a.wp lo.wp hi.wp
  rq Z := a.rq Z ∧ lo.rq Z ∧ hi.rq Z
  ok X W T e h g q := by
    split at h
    · simp only [Bool.and_eq_true] at h
      refine PE.imp (pe_slice (sl_tupA.or (sl_list.or sl_str)) (a.ok X W T _ h.1.1 g q.1) (lo.ok X W T _ h.1.2 g q.2.1) (hi.ok X W T _ h.2 g q.2.2)) fun σ H Q ⟨env, S, F, ads, Qd, Xd, er, sm, hw, kv, kx⟩ => ?_
      refine ⟨env, S, F, ads, _, Xd, er, sm, hw, fun F1 ads1 S1 H1 d v x1 s1 r1 h1 => ?_, kx⟩
      refine ⟨env, S1, F1, ads1, _, Xd, er.ext x1, s1, h1, fun F2 ads2 S2 H2 l x2 s2 h2 => ?_, kx.ext x1⟩
      refine ⟨env, S2, F2, ads2, _, Xd, er.ext (x1.trans x2), s2, h2, fun F3 ads3 S3 H3 u x3 s3 h3 => ?_, kx.ext (x1.trans x2)⟩
      exact ok_sl s3 (r1.ext (x2.trans x3)) h3 (kv.ext ((x1.trans x2).trans x3))
    · cases h
/-! #### DL4 -/
/-! The D layer, part 4: displays, new lists, built-ins, methods. -/
theorem small_line {n : Nat} (h : decide (n ≤ 1000) = true) : n ≤ sizeLine := Nat.le_trans (of_decide_eq_true h) (by rw [sizeLine_eq]; decide)
def wTup (a : WL) : WE := fun env S Q X => a env S (fun ds S1 => Q (.tup ds) S1) X
def DE.tup (a : DA) : DE where
  mt c e := match e with
    | .Tuple es _ _ => a.mt c es && decide (a.n ≤ 1000)
    | _ => false
  wp := wTup a.wp
  rq := a.rq
  ok X W T e h g q := by
    split at h
    · simp only [Bool.and_eq_true] at h
      refine PE.imp (pe_tup (a.ok X W T _ h.1 g q).1) fun σ H Q ⟨env, S, F, ads, Qd, Xd, er, sm, hw, kv, kx⟩ => ?_
      refine ⟨env, S, F, ads, _, Xd, er, sm, hw, fun F1 ads1 S1 H1 ds vs x1 s1 r1 l1 h1 => ?_, kx⟩
      refine ⟨by rw [← r1.length, l1]; exact small_line h.2, fun p hp => ?_⟩
      obtain ⟨s2, x2⟩ := s1.frz hp (.tup vs)
      exact kv _ _ _ _ _ _ (x1.trans x2) s2 (.tup (SqT.of upd_same) (r1.ext x2)) h1
    · cases h
/-! ### new lists -/
def DL.dis (a : DA) : DL where
  mt c e := match e with
    | .List es _ => a.mt c es && decide (a.n ≤ 1000)
    | _ => false
  wp := a.wp
  rq := a.rq
  ok X W T e h g q := by
    split at h
    · simp only [Bool.and_eq_true] at h
      refine PE.imp (pe_lst (a.ok X W T _ h.1 g q).1) fun σ H Q ⟨env, S, F, ads, Qd, Xd, er, sm, hw, kv, kx⟩ => ?_
      refine ⟨env, S, F, ads, _, Xd, er, sm, hw, fun F1 ads1 S1 H1 ds vs x1 s1 r1 l1 h1 => ?_, kx⟩
      exact ⟨by rw [← r1.length, l1]; exact small_line h.2, fun p hp => kv _ _ _ _ _ _ _ x1 s1 r1 hp h1⟩
    · cases h
def wLst (a : WL) : WE := fun env S Q X => a env S (fun ds S1 => Q (.lst ds) S1) X
def wThw (a : WL) : WE := fun env S Q X => a env S (fun ds S1 => Q (.han S1.length) (S1 ++ [.lst ds])) X
theorem seqLst {K : Fg} {mg : Str → Option Value} {W : WX} {a : WL} {σ : L2.St} {H : Hp} {Q : VK} (h : tE K mg W (wLst a) σ H Q) : tL K mg W a σ H Q := by
  obtain ⟨env, S, F, ads, Qd, Xd, er, sm, hw, kv, kx⟩ := h
  refine ⟨env, S, F, ads, _, Xd, er, sm, hw, fun F1 ads1 S1 H1 ds vs p x1 s1 r1 hp h1 => ?_, kx⟩
  obtain ⟨s2, x2⟩ := s1.frz hp (.lst vs)
  exact kv _ _ _ _ _ _ (x1.trans x2) s2 (.lst upd_same (r1.ext x2)) h1
theorem seqThw {K : Fg} {mg : Str → Option Value} {W : WX} {a : WL} {σ : L2.St} {H : Hp} {Q : VK} (h : tE K mg W (wThw a) σ H Q) : tL K mg W a σ H Q := by
  obtain ⟨env, S, F, ads, Qd, Xd, er, sm, hw, kv, kx⟩ := h
  refine ⟨env, S, F, ads, _, Xd, er, sm, hw, fun F1 ads1 S1 H1 ds vs p x1 s1 r1 hp h1 => ?_, kx⟩
  have pr : ∀ (i : Nat) a, ads1[i]? = some a → (ads1 ++ [p])[i]? = some a := fun i a e => by
    rw [List.getElem?_append_left (List.getElem?_eq_some_iff.mp e).1]; exact e
  obtain ⟨s2, x2⟩ := s1.thw hp (.lst vs) (.lst ds) ⟨(s1.fresh hp).2, vs, upd_same, r1.mono (Same.refl _) pr⟩
  refine kv _ _ _ _ _ _ (x1.trans x2) s2 (.han ?_) h1
  rw [← s1.len, List.getElem?_append_right (Nat.le_refl _)]
  simp
def DE.lst (l : DL) : DE where
  mt := l.mt
  wp := wLst l.wp
  rq := l.rq
  ok X W T e h g q := PE.imp (l.ok X W T e h g q) fun σ H Q z => seqLst z
def DE.thw (l : DL) : DE where
  mt := l.mt
  wp := wThw l.wp
  rq := l.rq
  ok X W T e h g q := PE.imp (l.ok X W T e h g q) fun σ H Q z => seqThw z
/-! ### built-ins by their names -/
def bltB (x : Str) (a : DA) (c : Sc) : Expr → Bool
  | .Call (.Name y _) (e :: es) [] _ => y == x && glB c x && a.mt c (e :: es)
  | _ => false
/-- a built-in function -/
def mkB (x : Str) (id : String) (hv : bootBuiltins x = some (.builtin id)) (hn : x ≠ "__name__") (hd : (x == ("__debug__" : Str)) = false) (op : List D → Sto → QD → Prop)
    (pf : ∀ (X : Cx) (W : WX) (T : List (Addr × Str)), Good X W → ∃ r, CallR X (.builtin id) r ∧ OkA (kt X T) op r) (a : DA) : DE where
  mt c e := bltB x a c e
  wp := wAp op a.wp
  rq Z := Z.mg x = none ∧ a.rq Z
  ok X W T e h g q := by
    unfold bltB at h
    split at h
    · simp only [Bool.and_eq_true, beq_iff_eq] at h
      obtain ⟨⟨rfl, h1⟩, h2⟩ := h
      obtain ⟨r, hr, hk⟩ := pf X W T g
      obtain ⟨pa, ps⟩ := a.ok X W T _ h2 g q.2
      simp only [List.all_cons, Bool.and_eq_true] at ps
      exact PE.imp (pe_callB hr (gl_of h1) q.1 hv pa hn hd (starEach_cons ps.1) (star_any ps.2)) fun σ H Q z => seqA hk z
    · cases h
/-- a built-in class, called -/
def mkT (x : Str) (Ty : String) (hv : bootBuiltins x = some (.type Ty)) (hn : x ≠ "__name__") (hd : (x == ("__debug__" : Str)) = false) (op : List D → Sto → QD → Prop)
    (pf : ∀ (X : Cx) (W : WX) (T : List (Addr × Str)), Good X W → ∃ r, CallR X (.type Ty) r ∧ OkA (kt X T) op r) (a : DA) : DE where
  mt c e := bltB x a c e
  wp := wAp op a.wp
  rq Z := Z.mg x = none ∧ a.rq Z
  ok X W T e h g q := by
    unfold bltB at h
    split at h
    · simp only [Bool.and_eq_true, beq_iff_eq] at h
      obtain ⟨⟨rfl, h1⟩, h2⟩ := h
      obtain ⟨r, hr, hk⟩ := pf X W T g
      obtain ⟨pa, ps⟩ := a.ok X W T _ h2 g q.2
      simp only [List.all_cons, Bool.and_eq_true] at ps
      exact PE.imp (pe_callTy hr (gl_of h1) q.1 hv pa hn hd (starEach_cons ps.1) (star_any ps.2)) fun σ H Q z => seqA hk z
    · cases h
def oLen : List D → Sto → QD → Prop
  | [.str z], S, Q => z.length ≤ sizeLine ∧ Q (.int z.length) S
  | [x], S, Q => ∃ ds, seqOf S x = some ds ∧ Q (.int ds.length) S
  | _, _, _ => False
theorem ok_len {K : Fg} : OkA K oLen (fun xs H Q => (∃ p ys, xs = [.ref p] ∧ (SqL K.K H p ys ∨ SqT K.K H p ys) ∧ Q (.int ys.length) H) ∨ ∃ z, xs = [.str z] ∧ z.length ≤ sizeLine ∧ Q (.int z.length) H) := by
  intro F ads S H xs vs Qd Q sm rx h kv
  unfold oLen at h
  split at h
  · cases rx with
    | cons r t => cases t; cases r; exact .inr ⟨_, rfl, h.1, kv _ _ _ _ _ _ Ext.refl sm (.int _) h.2⟩
  · cases rx with
    | cons r t =>
      cases t
      obtain ⟨ds, hs, hq⟩ := h
      obtain ⟨a, ys, e, hy, rs⟩ := seq_sq sm r hs
      subst e
      exact .inl ⟨a, ys, rfl, hy, kv _ _ _ _ _ _ Ext.refl sm (.int _) (by rw [← rs.length]; exact hq)⟩
  · exact h.elim
def DE.len : DA → DE := mkB "len" "len" PySem.boot_len (by decide) (by decide) oLen fun X W T g => ⟨_, call_len_seq.or call_len_str, ok_len⟩
def oAbs : List D → Sto → QD → Prop
  | [.int i], S, Q => Q (.int i.natAbs) S
  | _, _, _ => False
theorem ok_abs {K : Fg} : OkA K oAbs (fun xs H Q => ∃ i, xs = [.int i] ∧ Q (.int (if i < 0 then -i else i)) H) := by
  intro F ads S H xs vs Qd Q sm rx h kv
  unfold oAbs at h
  split at h
  · cases rx with
    | cons r t =>
      cases t; cases r
      rename_i i
      refine ⟨i, rfl, kv _ _ _ _ _ _ Ext.refl sm (.int _) ?_⟩
      have e : (if i < 0 then -i else i) = ((i.natAbs : Nat) : Int) := by split <;> omega
      rw [e]; exact h
  · exact h.elim
def DE.abs : DA → DE := mkB "abs" "abs" (by decide +kernel) (by decide) (by decide) oAbs fun X W T g => ⟨_, call_abs, ok_abs⟩
def oSum : List D → Sto → QD → Prop
  | [x], S, Q => ∃ ns : List Int, lstOf S x = some (ns.map .int) ∧ Q (.int ns.sum) S
  | _, _, _ => False
theorem ok_sum {K : Fg} : OkA K oSum (rSum K.K) := by
  intro F ads S H xs vs Qd Q sm rx h kv
  unfold oSum at h
  split at h
  · cases rx with
    | cons r t =>
      cases t
      obtain ⟨ns, hs, hq⟩ := h
      obtain ⟨a, ys, e, hy, rs⟩ := lst_sq sm r hs
      subst e
      have e2 := rs.ints
      subst e2
      exact ⟨a, ns, rfl, hy, kv _ _ _ _ _ _ Ext.refl sm (.int _) hq⟩
  · exact h.elim
def DE.sum : DA → DE := mkB "sum" "sum" (by decide +kernel) (by decide) (by decide) oSum fun X W T g => ⟨_, cr_sum g.calm, ok_sum⟩
def oAll : List D → Sto → QD → Prop
  | [x], S, Q => ∃ bs : List Bool, lstOf S x = some (bs.map .bl) ∧ Q (.bl (bs.all id)) S
  | _, _, _ => False
def oAny : List D → Sto → QD → Prop
  | [x], S, Q => ∃ bs : List Bool, lstOf S x = some (bs.map .bl) ∧ Q (.bl (bs.any id)) S
  | _, _, _ => False
theorem ok_all {K : Fg} : OkA K oAll (rAll K.K) := by
  intro F ads S H xs vs Qd Q sm rx h kv
  unfold oAll at h
  split at h
  · cases rx with
    | cons r t =>
      cases t
      obtain ⟨ns, hs, hq⟩ := h
      obtain ⟨a, ys, e, hy, rs⟩ := lst_sq sm r hs
      subst e
      have e2 := rs.bls
      subst e2
      exact ⟨a, ns, rfl, hy, kv _ _ _ _ _ _ Ext.refl sm (.bl _) hq⟩
  · exact h.elim
theorem ok_any {K : Fg} : OkA K oAny (rAny K.K) := by
  intro F ads S H xs vs Qd Q sm rx h kv
  unfold oAny at h
  split at h
  · cases rx with
    | cons r t =>
      cases t
      obtain ⟨ns, hs, hq⟩ := h
      obtain ⟨a, ys, e, hy, rs⟩ := lst_sq sm r hs
      subst e
      have e2 := rs.bls
      subst e2
      exact ⟨a, ns, rfl, hy, kv _ _ _ _ _ _ Ext.refl sm (.bl _) hq⟩
  · exact h.elim
def DE.all : DA → DE := mkB "all" "all" (by decide +kernel) (by decide) (by decide) oAll fun X W T g => ⟨_, cr_all g.calm, ok_all⟩
def DE.any : DA → DE := mkB "any" "any" (by decide +kernel) (by decide) (by decide) oAny fun X W T g => ⟨_, cr_any g.calm, ok_any⟩
def oTuple : List D → Sto → QD → Prop
  | [x], S, Q => ∃ ds, seqOf S x = some ds ∧ Q (.tup ds) S
  | _, _, _ => False
theorem tupOf_eq {d : D} {ds : List D} (h : tupOf d = some ds) : d = .tup ds := by
  unfold tupOf at h
  split at h
  · cases h; rfl
  · cases h
theorem ok_tuple {K : Fg} : OkA K oTuple (fun xs H Q => ∃ p ys, xs = [.ref p] ∧ ((SqL K.K H p ys ∧ ∀ l, H l = none → Q (.ref l) (upd H l (.tup ys))) ∨ (SqT K.K H p ys ∧ Q (.ref p) H))) := by
  intro F ads S H xs vs Qd Q sm rx h kv
  unfold oTuple at h
  split at h
  · cases rx with
    | cons r t =>
      cases t
      obtain ⟨ds, hs, hq⟩ := h
      unfold seqOf at hs
      split at hs
      · rename_i ht
        cases hs
        have r0 := r
        obtain ⟨a, ys, e, hy, rs⟩ := tup_sq sm r ht
        subst e
        rw [tupOf_eq ht] at r0
        exact ⟨a, ys, rfl, .inr ⟨hy, kv _ _ _ _ _ _ Ext.refl sm r0 hq⟩⟩
      · obtain ⟨a, ys, e, hy, rs⟩ := lst_sq sm r hs
        subst e
        refine ⟨a, ys, rfl, .inl ⟨hy, fun l hl => ?_⟩⟩
        obtain ⟨s2, x2⟩ := sm.frz hl (.tup ys)
        exact kv _ _ _ _ _ _ x2 s2 (.tup (SqT.of upd_same) (rs.ext x2)) hq
  · exact h.elim
def DE.tuple : DA → DE := mkT "tuple" "tuple" (by decide +kernel) (by decide) (by decide) oTuple fun X W T g => ⟨_, call_tuple_of, ok_tuple⟩
def oInt : List D → Sto → QD → Prop
  | [.int i], S, Q => Q (.int i) S
  | [.bl b], S, Q => Q (.int (if b then 1 else 0)) S
  | [.str z], S, Q => ∃ n, PySem.intText? z = some n ∧ z.length ≤ 640 ∧ Q (.int n) S
  | _, _, _ => False
theorem ok_int {K : Fg} : OkA K oInt (fun xs H Q => ((∃ i, xs = [.int i] ∧ Q (.int i) H) ∨ ∃ k, xs = [.bl k] ∧ Q (.int (if k then 1 else 0)) H) ∨ ∃ a n, xs = [.str a] ∧ PySem.intText? a = some n ∧ a.length ≤ 640 ∧ Q (.int n) H) := by
  intro F ads S H xs vs Qd Q sm rx h kv
  unfold oInt at h
  split at h
  · cases rx with
    | cons r t => cases t; cases r; exact .inl (.inl ⟨_, rfl, kv _ _ _ _ _ _ Ext.refl sm (.int _) h⟩)
  · cases rx with
    | cons r t => cases t; cases r; exact .inl (.inr ⟨_, rfl, kv _ _ _ _ _ _ Ext.refl sm (.int _) h⟩)
  · cases rx with
    | cons r t =>
      cases t; cases r
      obtain ⟨n, h1, h2, h3⟩ := h
      exact .inr ⟨_, n, rfl, h1, h2, kv _ _ _ _ _ _ Ext.refl sm (.int _) h3⟩
  · exact h.elim
def DE.int : DA → DE := mkT "int" "int" (by decide +kernel) (by decide) (by decide) oInt fun X W T g => ⟨_, call_int1.or call_int_str, ok_int⟩
def oStr : List D → Sto → QD → Prop
  | [.int i], S, Q => i.natAbs.log2 < 1920 ∧ Q (.str (toString i)) S
  | _, _, _ => False
theorem ok_str {K : Fg} : OkA K oStr (fun xs H Q => ∃ i : Int, xs = [.int i] ∧ i.natAbs.log2 < 1920 ∧ Q (.str (toString i)) H) := by
  intro F ads S H xs vs Qd Q sm rx h kv
  unfold oStr at h
  split at h
  · cases rx with
    | cons r t => cases t; cases r; exact ⟨_, rfl, h.1, kv _ _ _ _ _ _ Ext.refl sm (.str _) h.2⟩
  · exact h.elim
def DE.str : DA → DE := mkT "str" "str" (by decide +kernel) (by decide) (by decide) oStr fun X W T g => ⟨_, call_str_int, ok_str⟩
/-! list(x): a new list -/
def wLof (a : WL) : WL := fun env S Q X => a env S (fun xs S1 => ∃ x ds, xs = [x] ∧ seqOf S1 x = some ds ∧ Q ds S1) X
def DL.lof (a : DA) : DL where
  mt c e := bltB "list" a c e
  wp := wLof a.wp
  rq Z := Z.mg "list" = none ∧ a.rq Z
  ok X W T e h g q := by
    unfold bltB at h
    split at h
    · simp only [Bool.and_eq_true, beq_iff_eq] at h
      obtain ⟨⟨rfl, h1⟩, h2⟩ := h
      obtain ⟨pa, ps⟩ := a.ok X W T _ h2 g q.2
      simp only [List.all_cons, Bool.and_eq_true] at ps
      refine PE.imp (pe_callTy call_list_of (gl_of h1) q.1 (by decide +kernel) pa (by decide) (by decide) (starEach_cons ps.1) (star_any ps.2)) fun σ H Q ⟨env, S, F, ads, Qd, Xd, er, sm, hw, kv, kx⟩ => ?_
      refine ⟨env, S, F, ads, _, Xd, er, sm, hw, fun F1 ads1 S1 H1 xs vs x1 s1 r1 _ hh => ?_, kx⟩
      obtain ⟨x, ds, rfl, hs, hq⟩ := hh
      cases r1 with
      | cons r t =>
        cases t
        obtain ⟨a, ys, e, hy, rs⟩ := seq_sq s1 r hs
        subst e
        exact ⟨a, ys, rfl, hy, fun l hl => kv _ _ _ _ _ _ _ x1 s1 rs hl hq⟩
    · cases h
/-! a + b of lists, a new list -/
def wCat (a b : WE) : WL := fun env S Q X => a env S (fun x S1 => b env S1 (fun y S2 => ∃ xs ys, lstX S2 x = some xs ∧ lstX S2 y = some ys ∧ xs.length + ys.length ≤ sizeLine ∧ Q (xs ++ ys) S2) X) X
def DL.cat (a b : DE) : DL where
  mt c e := match e with
    | .BinOp x .Add y _ => a.mt c x && b.mt c y
    | _ => false
  wp := wCat a.wp b.wp
  rq Z := a.rq Z ∧ b.rq Z
  ok X W T e h g q := by
    split at h
    · simp only [Bool.and_eq_true] at h
      refine PE.imp (pe_op op_cat (a.ok X W T _ h.1 g q.1) (b.ok X W T _ h.2 g q.2)) fun σ H Q ⟨env, S, F, ads, Qd, Xd, er, sm, hw, kv, kx⟩ => ?_
      refine ⟨env, S, F, ads, _, Xd, er, sm, hw, fun F1 ads1 S1 H1 d v x1 s1 r1 h1 => ?_, kx⟩
      refine ⟨env, S1, F1, ads1, _, Xd, er.ext x1, s1, h1, fun F2 ads2 S2 H2 d2 v2 x2 s2 r2 h2 => ?_, kx.ext x1⟩
      obtain ⟨xs, ys, e1, e2, hz, hq⟩ := h2
      obtain ⟨a1, us, rfl, ea, ra⟩ := lstX_at s2 (r1.ext x2) e1
      obtain ⟨a2, ws, rfl, eb, rb⟩ := lstX_at s2 r2 e2
      exact ⟨a1, a2, us, ws, rfl, rfl, ea, eb, by rw [← ra.length, ← rb.length]; exact hz, fun p hp => kv _ _ _ _ _ _ _ (x1.trans x2) s2 (ra.append rb) hp hq⟩
    · cases h
/-! [a] * n -/
def wRep (a b : WE) : WL := fun env S Q X => a env S (fun x S1 => b env S1 (fun y S2 => ∃ xs k, lstX S2 x = some xs ∧ y = .int k ∧ -(2 ^ 63) ≤ k ∧ k < 2 ^ 63 ∧ xs.length * k.toNat ≤ sizeLine ∧ Q (List.replicate k.toNat xs).flatten S2) X) X
def DL.rep (a b : DE) : DL where
  mt c e := match e with
    | .BinOp x .Mult y _ => a.mt c x && b.mt c y
    | _ => false
  wp := wRep a.wp b.wp
  rq Z := a.rq Z ∧ b.rq Z
  ok X W T e h g q := by
    split at h
    · simp only [Bool.and_eq_true] at h
      refine PE.imp (pe_op op_rep (a.ok X W T _ h.1 g q.1) (b.ok X W T _ h.2 g q.2)) fun σ H Q ⟨env, S, F, ads, Qd, Xd, er, sm, hw, kv, kx⟩ => ?_
      refine ⟨env, S, F, ads, _, Xd, er, sm, hw, fun F1 ads1 S1 H1 d v x1 s1 r1 h1 => ?_, kx⟩
      refine ⟨env, S1, F1, ads1, _, Xd, er.ext x1, s1, h1, fun F2 ads2 S2 H2 d2 v2 x2 s2 r2 h2 => ?_, kx.ext x1⟩
      obtain ⟨xs, k, e1, rfl, hk1, hk2, hz, hq⟩ := h2
      cases r2
      obtain ⟨a1, us, rfl, ea, ra⟩ := lstX_at s2 (r1.ext x2) e1
      exact ⟨a1, k, us, rfl, rfl, ea, hk1, hk2, by rw [← ra.length]; exact hz, fun p hp => kv _ _ _ _ _ _ _ (x1.trans x2) s2 (ra.rep _) hp hq⟩
    · cases h
/-! ### isinstance(x, T), T a built-in class -/
def tyD (S : Sto) : D → Option String
  | .non => some "NoneType"
  | .bl _ => some "bool"
  | .int _ => some "int"
  | .str _ => some "str"
  | .flt _ => some "float"
  | .tup _ => some "tuple"
  | .lst _ => some "list"
  | .scr _ => some "list"
  | .han i => match S[i]? with
    | some (.lst _) => some "list"
    | some (.dct _) => some "dict"
    | _ => none
  | .cst _ => none
  | .exc _ => none
theorem tyD_of {K : Fg} {F : Hp} {ads : List Addr} {S : Sto} {H : Hp} {d : D} {v : V} {T : String} (sm : Sim K F ads S H) (r : Rp K F ads d v) (h : tyD S d = some T) : TyX K.K H v (.type T) := by
  cases r with
  | non => cases h; exact .base .non
  | bl b => cases h; exact .base (.bl b)
  | int b => cases h; exact .base (.int b)
  | str b => cases h; exact .base (.str b)
  | flt b => cases h; exact .base (.flt b)
  | tup hs _ =>
    cases h
    rcases Sub.tup sm.sub hs with (z | ⟨o, z⟩) | ⟨o, its, n, z, c, _⟩
    · exact .base (.tup z)
    · exact .fTuple z
    · exact .kTuple z c
  | lst hs _ => cases h; exact .base (.lst (sm.sub _ _ hs))
  | scr hs _ =>
    cases h
    rcases sm.sub.seq hs with (z | ⟨o, z⟩) | ⟨o, its, n, z, c, _⟩
    · exact .base (.lst z)
    · exact .base (.frz z)
    · exact .kList z c
  | han ha =>
    unfold tyD at h
    simp only at h
    split at h
    · rename_i hS
      cases h
      obtain ⟨a', ha', nF, vs, hH, rs⟩ := sm.at hS
      rw [ha] at ha'; cases ha'
      exact .base (.lst hH)
    · rename_i hS
      cases h
      obtain ⟨a', ha', nF, vs, hH, rs⟩ := sm.at hS
      rw [ha] at ha'; cases ha'
      exact .base (.dT hH)
    · cases h
  | cst v => cases h
  | exc _ _ => cases h
def wIsi (T : String) (a : WE) : WE := fun env S Q X => a env S (fun d S1 => ∃ t b, tyD S1 d = some t ∧ kitB t T = some b ∧ Q (.bl b) S1) X
def DE.isi (x : Str) (Ty : String) (hv : bootBuiltins x = some (.type Ty)) (hn : x ≠ "__name__") (hd : (x == ("__debug__" : Str)) = false) (a : DE) : DE where
  mt c e := match e with
    | .Call (.Name f _) [y, .Name z _] [] _ => f == "isinstance" && glB c "isinstance" && noStar y && a.mt c y && z == x && glB c x
    | _ => false
  wp := wIsi Ty a.wp
  rq Z := Z.mg "isinstance" = none ∧ Z.mg x = none ∧ a.rq Z
  ok X W T e h g q := by
    split at h
    · simp only [Bool.and_eq_true, beq_iff_eq] at h
      obtain ⟨⟨⟨⟨⟨rfl, h1⟩, h2⟩, h3⟩, rfl⟩, h5⟩ := h
      refine PE.imp (pe_callB call_isi (gl_of h1) q.1 (by decide +kernel) (pa_cons (a.ok X W T _ h3 g q.2.2) (pa_cons (pe_bltn (v := .ty Ty) (gl_of h5) q.2.1 hv rfl hn hd) pa_nil) (starEach_cons h2)) (by decide) (by decide) (starEach_cons h2) rfl) fun σ H Q ⟨env, S, F, ads, Qd, Xd, er, sm, hw, kv, kx⟩ => ?_
      refine ⟨env, S, F, ads, _, Xd, er, sm, hw, fun F1 ads1 S1 H1 d v x1 s1 r1 hh => ?_, kx⟩
      obtain ⟨t, b, ht, hb, hq⟩ := hh
      exact ⟨v, .ty Ty, .type t, .type Ty, b, rfl, .ty Ty, tyD_of s1 r1 ht, kit_ty hb, kv _ _ _ _ _ _ x1 s1 (.bl _) hq⟩
    · cases h
def DE.isTuple : DE → DE := DE.isi "tuple" "tuple" (by decide +kernel) (by decide) (by decide)
def DE.isInt : DE → DE := DE.isi "int" "int" (by decide +kernel) (by decide) (by decide)
def DE.isBool : DE → DE := DE.isi "bool" "bool" (by decide +kernel) (by decide) (by decide)
def DE.isStr : DE → DE := DE.isi "str" "str" (by decide +kernel) (by decide) (by decide)
/-! ### methods of built-in classes -/
def noCall : Expr → Bool
  | .Call (.Name _ _) [] [] _ => false
  | _ => true
theorem noCall_base {o : Expr} {f : Str} {env : PySem.Env} (h : noCall o = true) : attributeBase o f env (eval o env) = eval o env := by
  unfold attributeBase
  split
  · simp [noCall] at h
  · rfl
def met0B (name : Str) (o : DE) (c : Sc) : Expr → Bool
  | .Call (.Attribute x n apos) [] [] cpos => n == name && noCall x && o.mt c x && (apos.endLine == cpos.line)
  | _ => false
def met1B (name : Str) (o : DE) (a : DE) (c : Sc) : Expr → Bool
  | .Call (.Attribute x n apos) [e] [] cpos => n == name && noCall x && o.mt c x && (apos.endLine == cpos.line) && noStar e && a.mt c e
  | _ => false
/-- the receiver's class -/
def recD (S : Sto) (T : String) : D → Bool
  | .str _ => T == "str"
  | .lst _ => T == "list"
  | .han i => match S[i]? with
    | some (.lst _) => T == "list"
    | some (.dct _) => T == "dict"
    | _ => false
  | _ => false
theorem rec_ty {K : Fg} {F : Hp} {ads : List Addr} {S : Sto} {H : Hp} {d : D} {v : V} {T : String} (sm : Sim K F ads S H) (r : Rp K F ads d v) (h : recD S T d = true) : tyV K.K T v H := by
  cases r with
  | str b => simp [recD] at h; exact h
  | lst hs _ => simp [recD] at h; exact .inl ⟨h, _, SqL.of (sm.sub _ _ hs)⟩
  | han ha =>
    unfold recD at h
    simp only at h
    split at h
    · rename_i hS
      obtain ⟨a', ha', nF, vs, hH, rs⟩ := sm.at hS
      rw [ha] at ha'; cases ha'
      exact .inl ⟨by simpa using h, _, SqL.of hH⟩
    · rename_i hS
      obtain ⟨a', ha', nF, vs, hH, rs⟩ := sm.at hS
      rw [ha] at ha'; cases ha'
      exact .inr (.inr (.inl ⟨by simpa using h, .inr ⟨_, hH⟩⟩))
    · cases h
  | _ => simp [recD] at h
def OkM (K : Fg) (op : D → List D → Sto → QD → Prop) (r : V → List V → Hp → VK → Prop) : Prop := ∀ {F ads S H x xs v vs Qd Q}, Sim K F ads S H → Rp K F ads x v → Rps K F ads xs vs → op x xs S Qd → KV K F ads H Qd Q → r v vs H Q
def wM0 (T : String) (op : D → List D → Sto → QD → Prop) (o : WE) : WE := fun env S Q X => o env S (fun x S1 => recD S1 T x = true ∧ op x [] S1 Q) X
def wM1 (T : String) (op : D → List D → Sto → QD → Prop) (o a : WE) : WE := fun env S Q X => o env S (fun x S1 => recD S1 T x = true ∧ a env S1 (fun y S2 => op x [y] S2 Q) X) X
def mkM0 (Ty : String) (name : Str) (id : String) (pa : PlainAttrs Ty) (slot : Slot Ty name id) (hty : typeOf (.builtin id) = pure (.type "method_descriptor")) (op : D → List D → Sto → QD → Prop)
    (pf : ∀ (X : Cx) (W : WX) (T : List (Addr × Str)), Good X W → ∃ r, MtR X id r ∧ OkM (kt X T) op r) (o : DE) : DE where
  mt c e := met0B name o c e
  wp := wM0 Ty op o.wp
  rq Z := o.rq Z
  ok X W T e h g q := by
    unfold met0B at h
    split at h
    · simp only [Bool.and_eq_true, beq_iff_eq] at h
      obtain ⟨⟨⟨rfl, h1⟩, h2⟩, h3⟩ := h
      obtain ⟨r, hr, hk⟩ := pf X W T g
      refine PE.imp (pe_bm0 pa slot hty hr (o.ok X W T _ h2 g q) (noCall_base h1) (by simpa using h3)) fun σ H Q ⟨env, S, F, ads, Qd, Xd, er, sm, hw, kv, kx⟩ => ?_
      refine ⟨env, S, F, ads, _, Xd, er, sm, hw, fun F1 ads1 S1 H1 d v x1 s1 r1 hh => ?_, kx⟩
      exact ⟨rec_ty s1 r1 hh.1, hk s1 r1 .nil hh.2 (kv.ext x1)⟩
    · cases h
def mkM1 (Ty : String) (name : Str) (id : String) (pa : PlainAttrs Ty) (slot : Slot Ty name id) (hty : typeOf (.builtin id) = pure (.type "method_descriptor")) (op : D → List D → Sto → QD → Prop)
    (pf : ∀ (X : Cx) (W : WX) (T : List (Addr × Str)), Good X W → ∃ r, MtR X id r ∧ OkM (kt X T) op r) (o a : DE) : DE where
  mt c e := met1B name o a c e
  wp := wM1 Ty op o.wp a.wp
  rq Z := o.rq Z ∧ a.rq Z
  ok X W T e h g q := by
    unfold met1B at h
    split at h
    · simp only [Bool.and_eq_true, beq_iff_eq] at h
      obtain ⟨⟨⟨⟨⟨rfl, h1⟩, h2⟩, h3⟩, h4⟩, h5⟩ := h
      obtain ⟨r, hr, hk⟩ := pf X W T g
      have hs : ∀ e, noStar e = true → starEach [e] X.env = [(false, eval e X.env)] := fun e he => starEach_cons he
      refine PE.imp (pe_bm pa slot hty hr (o.ok X W T _ h2 g q.1) (pa_cons (a.ok X W T _ h5 g q.2) pa_nil (starEach_cons h4)) (noCall_base h1) (by rw [hs _ h4]; rfl) (by simpa using h3) (starEach_cons h4) rfl) fun σ H Q ⟨env, S, F, ads, Qd, Xd, er, sm, hw, kv, kx⟩ => ?_
      refine ⟨env, S, F, ads, _, Xd, er, sm, hw, fun F1 ads1 S1 H1 d v x1 s1 r1 hh => ?_, kx⟩
      refine ⟨rec_ty s1 r1 hh.1, env, S1, F1, ads1, _, Xd, er.ext x1, s1, hh.2, fun F2 ads2 S2 H2 d2 v2 x2 s2 r2 h2 => ?_, kx.ext x1⟩
      exact hk s2 (r1.ext x2) (.cons r2 .nil) h2 (kv.ext (x1.trans x2))
    · cases h
/-- .. of an object of the store -/
def oAppend : D → List D → Sto → QD → Prop
  | .han i, [y], S, Q => ∃ ds, S[i]? = some (.lst ds) ∧ ds.length < sizeLine ∧ Q .non (S.set i (.lst (ds ++ [y])))
  | _, _, _, _ => False
theorem ok_append {K : Fg} : OkM K oAppend rAppend := by
  intro F ads S H x xs v vs Qd Q sm rx rxs h kv
  unfold oAppend at h
  split at h
  · obtain ⟨ds, hS, hz, hq⟩ := h
    cases rx with
    | han ha =>
      cases rxs with
      | cons r t =>
        cases t
        obtain ⟨a', ha', nF, us, hH, rs⟩ := sm.at hS
        rw [ha] at ha'; cases ha'
        refine ⟨_, us, _, rfl, rfl, hH, by rw [← rs.length]; exact hz, ?_⟩
        obtain ⟨s2, x2⟩ := sm.put ha nF (.lst (us ++ [_])) (o := .lst (ds ++ [_])) ⟨nF, _, upd_same, rs.append (.cons r .nil)⟩
        exact kv _ _ _ _ _ _ x2 s2 .non hq
  · exact h.elim
def DE.append : DE → DE → DE := mkM1 "list" "append" "list.append" PySem.F.plainAttrs_list PySem.F.slot_list_append PySem.F.type_list_append oAppend fun X W T g => ⟨_, mt_append, ok_append⟩
def oPop : D → List D → Sto → QD → Prop
  | .han i, [], S, Q => ∃ ds d, S[i]? = some (.lst ds) ∧ ds[ds.length - 1]? = some d ∧ Q d (S.set i (.lst ds.dropLast))
  | _, _, _, _ => False
theorem ok_pop {K : Fg} : OkM K oPop rPop := by
  intro F ads S H x xs v vs Qd Q sm rx rxs h kv
  unfold oPop at h
  split at h
  · obtain ⟨ds, d, hS, hd, hq⟩ := h
    cases rx with
    | han ha =>
      cases rxs
      obtain ⟨a', ha', nF, us, hH, rs⟩ := sm.at hS
      rw [ha] at ha'; cases ha'
      obtain ⟨u, hu, ru⟩ := rs.get hd
      rw [rs.length] at hu
      refine ⟨_, us, u, rfl, rfl, hH, hu, ?_⟩
      obtain ⟨s2, x2⟩ := sm.put ha nF (.lst us.dropLast) (o := .lst ds.dropLast) ⟨nF, _, upd_same, rs.dropLast⟩
      exact kv _ _ _ _ _ _ x2 s2 (ru.ext x2) hq
  · exact h.elim
def DE.pop : DE → DE := mkM0 "list" "pop" "list.pop" PySem.F.plainAttrs_list PySem.F.slot_list_pop PySem.F.type_list_pop oPop fun X W T g => ⟨_, mt_pop, ok_pop⟩
def oExtend : D → List D → Sto → QD → Prop
  | .han i, [y], S, Q => ∃ ds es, S[i]? = some (.lst ds) ∧ y = .lst es ∧ ds.length + es.length ≤ sizeLine ∧ Q .non (S.set i (.lst (ds ++ es)))
  | _, _, _, _ => False
theorem ok_extend {K : Fg} : OkM K oExtend rExtend := by
  intro F ads S H x xs v vs Qd Q sm rx rxs h kv
  unfold oExtend at h
  split at h
  · obtain ⟨ds, es, hS, rfl, hz, hq⟩ := h
    cases rx with
    | han ha =>
      cases rxs with
      | cons r t =>
        cases t
        cases r with
        | lst hF re =>
          obtain ⟨a', ha', nF, us, hH, rs⟩ := sm.at hS
          rw [ha] at ha'; cases ha'
          refine ⟨_, _, us, _, rfl, rfl, hH, sm.sub _ _ hF, by rw [← rs.length, ← re.length]; exact hz, ?_⟩
          obtain ⟨s2, x2⟩ := sm.put ha nF (.lst _) (o := .lst (ds ++ es)) ⟨nF, _, upd_same, rs.append re⟩
          exact kv _ _ _ _ _ _ x2 s2 .non hq
  · exact h.elim
def DE.extend : DE → DE → DE := mkM1 "list" "extend" "list.extend" PySem.F.plainAttrs_list PySem.F.slot_list_extend PySem.F.type_list_extend oExtend fun X W T g => ⟨_, mt_extend, ok_extend⟩
/-! #### DL5 -/
/-! The D layer, part 5: what is walked, targets, comprehensions. -/
/-! ### what is walked -/
abbrev Src := List (Nat × List D)
abbrev QI := List D → Src → Sto → Prop
abbrev WI := Env → Sto → QI → XD → Prop
def srcOk : Src → Sto → Prop
  | [], _ => True
  | (h, ds) :: r, S => S[h]? = some (.lst ds) ∧ srcOk r S
theorem srcOk_app : ∀ {a b : Src} {S : Sto}, srcOk (a ++ b) S → srcOk a S ∧ srcOk b S
  | [], _, _, h => ⟨trivial, h⟩
  | (_, _) :: r, _, _, h => ⟨⟨h.1, (srcOk_app (a := r) h.2).1⟩, (srcOk_app (a := r) h.2).2⟩
def ItOk (K : Fg) (F : Hp) (ads : List Addr) (ds : List D) (src : Src) (J : It) : Prop :=
  ∀ F2 ads2 S2 H2, Same F F2 → (∀ (i : Nat) a, ads[i]? = some a → ads2[i]? = some a) → Sim K F2 ads2 S2 H2 → srcOk src S2 →
    (∀ (i : Nat) d, ds[i]? = some d → J.go i H2 ∧ ∀ x H3, J.yld i H2 x H3 → ∃ F3, Ext F2 ads2 H2 F3 ads2 H3 ∧ Sim K F3 ads2 S2 H3 ∧ Rp K F3 ads2 d x) ∧ ∀ i, ds.length ≤ i → J.stop i H2
def tI (K : Fg) (mg : Str → Option Value) (W : WX) (w : WI) : TI := fun σ H R => ∃ env S F ads Qd Xd, EnvR K F ads env σ ∧ Sim K F ads S H ∧ w env S Qd Xd ∧
  (∀ F' ads' S' H' ds src J, Ext F ads H F' ads' H' → Sim K F' ads' S' H' → ItOk K F' ads' ds src J → Qd ds src S' → R J H') ∧ KX K mg W F ads H σ Xd
structure DI where
  mt : Sc → Expr → Expr → Bool
  wp : WI
  rq : Cy → Prop
  ok : ∀ (X : Cx) (W : WX) (T : List (Addr × Str)) (tg e : Expr), mt (scOf X) tg e = true → Good X W → rq (cyOf X T) → PI X tg e (tI (kt X T) X.mg W wp)
theorem PI.imp {X : Cx} {tg e : Expr} {t t' : TI} (h : PI X tg e t) (q : ∀ σ H Q, t' σ H Q → t σ H Q) : PI X tg e t' := ⟨fun pins s σ H Q I z => h.run pins s σ H Q I (q _ _ _ z)⟩
/-- lists and tuples -/
def iSeq (K : PySem.W.Frag) (tl : TE) : TI := fun σ H R => tl σ H fun x H1 => ∃ a, x = .ref a ∧ (((∃ xs, SqL K H1 a xs) ∧ R (Itl K a) H1) ∨ ((∃ xs, SqT K H1 a xs) ∧ R (Itt K a) H1))
theorem pi_seq {X : Cx} {tg l : Expr} {tl : TE} (hl : PE X l tl) : PI X tg l (iSeq X.K tl) := by
  refine ⟨fun pins s σ H R I h => ?_⟩
  refine thn (hl.run pins s σ H _ I h) fun v s1 ⟨x, H1, I1, r1, q1⟩ => ?_
  obtain ⟨a, e, q⟩ := q1
  subst e
  cases r1
  rcases q with ⟨⟨xs, hq⟩, q⟩ | ⟨⟨xs, hq⟩, q⟩
  · obtain ⟨its, rv, p, hz⟩ := I1.list hq
    refine wpAny_pyIter_list p.isList ?_
    refine ⟨s1.heap.objs.size, [s1.heap.objs.size], _, _, H1, rfl, I1.kept (t' := s1.toks) fun b o e => Heap.get?_push_of_some _ e, turn_list a _, ⟨_, Heap.get?_push_size _ rfl, rfl, rfl⟩, fun b hb => ?_, q⟩
    have e : b = s1.heap.objs.size := by simpa using hb
    subst e
    exact I1.fpOk (Nat.le_refl _) (I1.hok.fresh (Nat.le_refl _))
  · obtain ⟨its, rv, p, hz⟩ := I1.tuple hq
    refine wpAny_pyIter_tuple (show s1.heap.IsTuple a its.toArray from p) ?_
    refine ⟨s1.heap.objs.size, [s1.heap.objs.size], _, _, H1, rfl, I1.kept (t' := s1.toks) fun b o e => Heap.get?_push_of_some _ e, turn_tuple a _, ⟨_, Heap.get?_push_size _ rfl, rfl, rfl⟩, fun b hb => ?_, q⟩
    have e : b = s1.heap.objs.size := by simpa using hb
    subst e
    exact I1.fpOk (Nat.le_refl _) (I1.hok.fresh (Nat.le_refl _))
def srcOf : D → List D → Src
  | .han i, ds => [(i, ds)]
  | _, _ => []
theorem it_key {K : Fg} {F : Hp} {ads : List Addr} {ds : List D} {src : Src} {a : Addr}
    (hk : ∀ F2 ads2 S2 H2, Same F F2 → (∀ (i : Nat) a, ads[i]? = some a → ads2[i]? = some a) → Sim K F2 ads2 S2 H2 → srcOk src S2 → ∃ us, SqL K.K H2 a us ∧ Rps K F2 ads2 ds us) : ItOk K F ads ds src (Itl K.K a) := fun F2 ads2 S2 H2 f2 p2 s2 so => by
  obtain ⟨us, hu, ru⟩ := hk F2 ads2 S2 H2 f2 p2 s2 so
  refine ⟨fun i d hd => ?_, fun i hi => ⟨us, hu, by rw [← ru.length]; exact hi⟩⟩
  obtain ⟨x, hx, rx⟩ := ru.get hd
  refine ⟨⟨us, x, hu, hx⟩, fun y H3 hy => ?_⟩
  obtain ⟨rfl, hy⟩ := hy
  have ey : us[i]? = some y := hy us hu
  rw [hx] at ey; cases ey
  exact ⟨F2, Ext.refl, s2, rx⟩
theorem it_keyT {K : Fg} {F : Hp} {ads : List Addr} {ds : List D} {a : Addr} {vs : List V} (h : SqT K.K F a vs) (r : Rps K F ads ds vs) : ItOk K F ads ds [] (Itt K.K a) := fun F2 ads2 S2 H2 f2 p2 s2 so => by
  have hu : SqT K.K H2 a vs := Sub.tup s2.sub (Same.tup f2 h)
  have ru := r.mono f2 p2
  refine ⟨fun i d hd => ?_, fun i hi => ⟨vs, hu, by rw [← ru.length]; exact hi⟩⟩
  obtain ⟨x, hx, rx⟩ := ru.get hd
  refine ⟨⟨vs, x, hu, hx⟩, fun y H3 hy => ?_⟩
  obtain ⟨rfl, hy⟩ := hy
  have ey : vs[i]? = some y := hy vs hu
  rw [hx] at ey; cases ey
  exact ⟨F2, Ext.refl, s2, rx⟩
/-- a list's standing in every later state -/
theorem lst_later {K : Fg} {F : Hp} {ads : List Addr} {S : Sto} {d : D} {v : V} {ds : List D} (r : Rp K F ads d v) (h : lstOf S d = some ds) : ∃ a, v = .ref a ∧
    ∀ F2 ads2 S2 H2, Same F F2 → (∀ (i : Nat) a, ads[i]? = some a → ads2[i]? = some a) → Sim K F2 ads2 S2 H2 → srcOk (srcOf d ds) S2 → ∃ us, SqL K.K H2 a us ∧ Rps K F2 ads2 ds us := by
  cases r with
  | lst hF rs => cases h; exact ⟨_, rfl, fun F2 ads2 S2 H2 f2 p2 s2 so => ⟨_, SqL.of (s2.sub _ _ (f2 _ _ hF)), rs.mono f2 p2⟩⟩
  | scr hF rs => cases h; exact ⟨_, rfl, fun F2 ads2 S2 H2 f2 p2 s2 so => ⟨_, s2.sub.seq (f2.seq hF), rs.mono f2 p2⟩⟩
  | han ha =>
    refine ⟨_, rfl, fun F2 ads2 S2 H2 f2 p2 s2 so => ?_⟩
    obtain ⟨a', ha', nF, us, hH, rs⟩ := s2.at (show S2[_]? = some (.lst ds) from so.1)
    rw [p2 _ _ ha] at ha'; cases ha'
    exact ⟨us, SqL.of hH, rs⟩
  | _ => cases h
theorem src_now {S : Sto} {d : D} {ds : List D} (h : lstOf S d = some ds) : srcOk (srcOf d ds) S := by
  cases d with
  | han i =>
    unfold lstOf at h
    simp only at h
    split at h
    · rename_i q; cases h; exact ⟨q, trivial⟩
    · cases h
  | _ => trivial
def wIseq (a : WE) : WI := fun env S Q X => a env S (fun d S1 => ∃ ds, seqOf S1 d = some ds ∧ Q ds (srcOf d ds) S1) X
def DI.seq (a : DE) : DI where
  mt c _ e := a.mt c e && noSet e
  wp := wIseq a.wp
  rq := a.rq
  ok X W T tg e h g q := by
    simp only [Bool.and_eq_true] at h
    refine PI.imp (pi_seq (a.ok X W T e h.1 g q)) fun σ H R ⟨env, S, F, ads, Qd, Xd, er, sm, hw, kv, kx⟩ => ?_
    refine ⟨env, S, F, ads, _, Xd, er, sm, hw, fun F1 ads1 S1 H1 d v x1 s1 r1 h1 => ?_, kx⟩
    obtain ⟨ds, hs, hq⟩ := h1
    unfold seqOf at hs
    split at hs
    · rename_i ht
      cases hs
      rw [tupOf_eq ht] at r1 hq
      cases r1 with
      | tup hF rs => exact ⟨_, rfl, .inr ⟨⟨_, Sub.tup s1.sub hF⟩, kv _ _ _ _ _ _ _ x1 s1 (it_keyT hF rs) hq⟩⟩
    · obtain ⟨a, e, hk⟩ := lst_later r1 hs
      obtain ⟨a', vs, e', hq', rs⟩ := lst_sq s1 r1 hs
      subst e; cases e'
      exact ⟨a, rfl, .inl ⟨⟨vs, hq'⟩, kv _ _ _ _ _ _ _ x1 s1 (it_key hk) hq⟩⟩
/-- range -/
def rangeD (lo : Int) (n : Nat) : List D := (List.range n).map fun i => .int (lo + (i : Nat))
theorem range_get {lo : Int} {n i : Nat} {d : D} (h : (rangeD lo n)[i]? = some d) : i < n ∧ d = .int (lo + (i : Nat)) := by
  unfold rangeD at h
  rw [List.getElem?_map] at h
  by_cases hi : i < n
  · rw [List.getElem?_range hi] at h
    exact ⟨hi, (Option.some.inj h).symm⟩
  · rw [List.getElem?_eq_none (by simpa using hi)] at h; cases h
theorem range_len {lo : Int} {n : Nat} : (rangeD lo n).length = n := by unfold rangeD; simp
theorem it_range {K : Fg} {F : Hp} {ads : List Addr} {lo : Int} {n : Nat} : ItOk K F ads (rangeD lo n) [] (Itr lo n) := fun F2 ads2 S2 H2 f2 p2 s2 so => by
  refine ⟨fun i d hd => ?_, fun i hi => ?_⟩
  · obtain ⟨hi, rfl⟩ := range_get hd
    refine ⟨hi, fun x H3 hy => ?_⟩
    obtain ⟨rfl, rfl⟩ := hy
    exact ⟨F2, Ext.refl, s2, .int _⟩
  · rw [range_len] at hi; exact hi
def wR1 (a : WE) : WI := fun env S Q X => a env S (fun d S1 => ∃ j, d = .int j ∧ -(2 ^ 62) ≤ j ∧ j < 2 ^ 62 ∧ Q (rangeD 0 j.toNat) [] S1) X
def wR2 (a b : WE) : WI := fun env S Q X => a env S (fun d S1 => b env S1 (fun d2 S2 => ∃ i j, d = .int i ∧ d2 = .int j ∧ (-(2 ^ 62) ≤ i ∧ i < 2 ^ 62 ∧ -(2 ^ 62) ≤ j ∧ j < 2 ^ 62) ∧ Q (rangeD i (j - i).toNat) [] S2) X) X
def DI.range1 (a : DE) : DI where
  mt c _ e := match e with
    | .Call (.Name x _) [y] [] _ => x == "range" && glB c "range" && noStar y && a.mt c y
    | _ => false
  wp := wR1 a.wp
  rq Z := Z.mg "range" = none ∧ a.rq Z
  ok X W T tg e h g q := by
    split at h
    · simp only [Bool.and_eq_true, beq_iff_eq] at h
      obtain ⟨⟨⟨rfl, h1⟩, h2⟩, h3⟩ := h
      refine PI.imp (pi_range1 (gl_of h1) q.1 (pa_cons (a.ok X W T _ h3 g q.2) pa_nil (starEach_cons h2)) (starEach_cons h2)) fun σ H R ⟨env, S, F, ads, Qd, Xd, er, sm, hw, kv, kx⟩ => ?_
      refine ⟨env, S, F, ads, _, Xd, er, sm, hw, fun F1 ads1 S1 H1 d v x1 s1 r1 h1 => ?_, kx⟩
      obtain ⟨j, rfl, b1, b2, hq⟩ := h1
      cases r1
      exact ⟨j, rfl, b1, b2, kv _ _ _ _ _ _ _ x1 s1 it_range hq⟩
    · cases h
def DI.range2 (a b : DE) : DI where
  mt c _ e := match e with
    | .Call (.Name x _) [y, z] [] _ => x == "range" && glB c "range" && noStar y && a.mt c y && noStar z && b.mt c z
    | _ => false
  wp := wR2 a.wp b.wp
  rq Z := Z.mg "range" = none ∧ a.rq Z ∧ b.rq Z
  ok X W T tg e h g q := by
    split at h
    · simp only [Bool.and_eq_true, beq_iff_eq] at h
      obtain ⟨⟨⟨⟨⟨rfl, h1⟩, h2⟩, h3⟩, h4⟩, h5⟩ := h
      rename_i y z _
      have e2 : starEach [z] X.env = [(false, eval z X.env)] := starEach_cons h4
      refine PI.imp (pi_range2 (gl_of h1) q.1 (pa_cons (a.ok X W T _ h3 g q.2.1) (pa_cons (b.ok X W T _ h5 g q.2.2) pa_nil (starEach_cons h4)) (starEach_cons h2)) (by rw [starEach_cons h2, e2]) e2) fun σ H R ⟨env, S, F, ads, Qd, Xd, er, sm, hw, kv, kx⟩ => ?_
      refine ⟨env, S, F, ads, _, Xd, er, sm, hw, fun F1 ads1 S1 H1 d v x1 s1 r1 h1 => ?_, kx⟩
      refine ⟨env, S1, F1, ads1, _, Xd, er.ext x1, s1, h1, fun F2 ads2 S2 H2 d2 v2 x2 s2 r2 h2 => ?_, kx.ext x1⟩
      obtain ⟨i, j, rfl, rfl, hb, hq⟩ := h2
      cases r1; cases r2
      exact ⟨i, j, rfl, hb, kv _ _ _ _ _ _ _ (x1.trans x2) s2 it_range hq⟩
    · cases h
/-- the signs of a text -/
def wChr (a : WE) : WI := fun env S Q X => a env S (fun d S1 => ∃ z : Str, d = .str z ∧ Q (z.cps.toList.map fun c => .str ⟨#[c]⟩) [] S1) X
theorem it_str {K : Fg} {F : Hp} {ads : List Addr} {z : Str} : ItOk K F ads (z.cps.toList.map fun c => D.str ⟨#[c]⟩) [] (Its z) := fun F2 ads2 S2 H2 f2 p2 s2 so => by
  refine ⟨fun i d hd => ?_, fun i hi => ?_⟩
  · rw [List.getElem?_map] at hd
    cases e : z.cps.toList[i]? with
    | none => rw [e] at hd; cases hd
    | some c =>
      rw [e] at hd
      have hc : z.cps[i]? = some c := by rw [← Array.getElem?_toList]; exact e
      have hi : i < z.cps.size := by
        rw [Array.getElem?_eq_some_iff] at hc; exact hc.1
      refine ⟨hi, fun x H3 hy => ?_⟩
      obtain ⟨rfl, c', e', rfl⟩ := hy
      rw [hc] at e'; cases e'
      have hd' : d = .str ⟨#[c]⟩ := (Option.some.inj hd).symm
      subst hd'
      exact ⟨F2, Ext.refl, s2, .str _⟩
  · have : z.cps.size ≤ i := by simpa using hi
    exact this
def DI.chr (a : DE) : DI where
  mt c _ e := a.mt c e && noSet e
  wp := wChr a.wp
  rq := a.rq
  ok X W T tg e h g q := by
    simp only [Bool.and_eq_true] at h
    refine PI.imp (pi_str (a.ok X W T e h.1 g q)) fun σ H R ⟨env, S, F, ads, Qd, Xd, er, sm, hw, kv, kx⟩ => ?_
    refine ⟨env, S, F, ads, _, Xd, er, sm, hw, fun F1 ads1 S1 H1 d v x1 s1 r1 h1 => ?_, kx⟩
    obtain ⟨z, rfl, hq⟩ := h1
    cases r1
    exact ⟨z, rfl, kv _ _ _ _ _ _ _ x1 s1 it_str hq⟩
/-- zip of two lists or of two tuples -/
def zipD (xs ys : List D) : List D := (xs.zip ys).map fun p => .tup [p.1, p.2]
theorem zip_get {xs ys : List D} {i : Nat} {d : D} (h : (zipD xs ys)[i]? = some d) : ∃ x y, xs[i]? = some x ∧ ys[i]? = some y ∧ d = .tup [x, y] := by
  unfold zipD at h
  rw [List.getElem?_map] at h
  cases e : (xs.zip ys)[i]? with
  | none => rw [e] at h; cases h
  | some p =>
    rw [e] at h
    obtain ⟨e1, e2⟩ := List.getElem?_zip_eq_some.mp e
    exact ⟨p.1, p.2, e1, e2, (Option.some.inj h).symm⟩
theorem zip_len {xs ys : List D} {i : Nat} (h : (zipD xs ys).length ≤ i) : xs.length ≤ i ∨ ys.length ≤ i := by
  unfold zipD at h
  simp only [List.length_map, List.length_zip] at h
  omega
theorem new_pair {K : Fg} {F : Hp} {ads : List Addr} {S : Sto} {H : Hp} {T : Addr} {x y : V} {a b : D} (sm : Sim K F ads S H) (hT : H T = none) (ra : Rp K F ads a x) (rb : Rp K F ads b y) :
    ∃ F3, Ext F ads H F3 ads (upd H T (.tup [x, y])) ∧ Sim K F3 ads S (upd H T (.tup [x, y])) ∧ Rp K F3 ads (.tup [a, b]) (.ref T) := by
  obtain ⟨s2, x2⟩ := sm.frz hT (.tup [x, y])
  exact ⟨_, x2, s2, .tup (SqT.of upd_same) (.cons (ra.ext x2) (.cons (rb.ext x2) .nil))⟩
def wZip (a b : WE) : WI := fun env S Q X => a env S (fun d S1 => b env S1 (fun d2 S2 => ∃ xs ys, ((tupOf d = some xs ∧ tupOf d2 = some ys) ∨ (lstOf S2 d = some xs ∧ lstOf S2 d2 = some ys)) ∧ Q (zipD xs ys) (srcOf d xs ++ srcOf d2 ys) S2) X) X
def isTup : Expr → Bool
  | .Tuple _ _ _ => true
  | _ => false
def DI.zip (a b : DE) : DI where
  mt c tg e := isTup tg && match e with
    | .Call (.Name x _) [y, z] [] _ => x == "zip" && glB c "zip" && noStar y && a.mt c y && noStar z && b.mt c z
    | _ => false
  wp := wZip a.wp b.wp
  rq Z := Z.mg "zip" = none ∧ a.rq Z ∧ b.rq Z
  ok X W T tg e h g q := by
    simp only [Bool.and_eq_true] at h
    obtain ⟨ht, h⟩ := h
    cases tg with
    | Tuple elts kk tpos =>
      split at h
      · simp only [Bool.and_eq_true, beq_iff_eq] at h
        obtain ⟨⟨⟨⟨⟨rfl, h1⟩, h2⟩, h3⟩, h4⟩, h5⟩ := h
        rename_i y z _
        have e2 : starEach [z] X.env = [(false, eval z X.env)] := starEach_cons h4
        refine PI.imp (RZ.pi_zipA (gl_of h1) q.1 (pa_cons (a.ok X W T _ h3 g q.2.1) (pa_cons (b.ok X W T _ h5 g q.2.2) pa_nil (starEach_cons h4)) (starEach_cons h2)) (starEach_cons h2) (star_any (by rw [List.all_cons, h4]; rfl))) fun σ H R ⟨env, S, F, ads, Qd, Xd, er, sm, hw, kv, kx⟩ => ?_
        refine ⟨env, S, F, ads, _, Xd, er, sm, hw, fun F1 ads1 S1 H1 d v x1 s1 r1 h1 => ?_, kx⟩
        refine ⟨env, S1, F1, ads1, _, Xd, er.ext x1, s1, h1, fun F2 ads2 S2 H2 d2 v2 x2 s2 r2 h2 => ?_, kx.ext x1⟩
        obtain ⟨xs, ys, hs, hq⟩ := h2
        have r1 := r1.ext x2
        rcases hs with ⟨t1, t2⟩ | ⟨t1, t2⟩
        · rw [tupOf_eq t1] at r1 hq
          rw [tupOf_eq t2] at r2 hq
          cases r1 with
          | tup f1 g1 =>
            cases r2 with
            | tup f2 g2 =>
              refine ⟨_, _, _, _, rfl, .inr ⟨Sub.tup s2.sub f1, Sub.tup s2.sub f2, kv _ _ _ _ _ _ _ (x1.trans x2) s2 ?_ hq⟩⟩
              intro F3 ads3 S3 H3 f3 p3 s3 so
              have q1 := Sub.tup s3.sub (Same.tup f3 f1)
              have q2 := Sub.tup s3.sub (Same.tup f3 f2)
              have g1 := g1.mono f3 p3
              have g2 := g2.mono f3 p3
              refine ⟨fun i d hd => ?_, fun i hi => ⟨_, _, q1, q2, by rw [← g1.length, ← g2.length]; exact zip_len hi⟩⟩
              obtain ⟨x, y, ex, ey, rfl⟩ := zip_get hd
              obtain ⟨u, hu, ru⟩ := g1.get ex
              obtain ⟨w, hw, rw⟩ := g2.get ey
              refine ⟨⟨_, _, u, w, q1, q2, hu, hw⟩, fun z H4 hy => ?_⟩
              obtain ⟨T, u', w', rfl, hT, rfl, k1, k2⟩ := hy
              have := k1 _ q1; rw [hu] at this; cases this
              have := k2 _ q2; rw [hw] at this; cases this
              exact new_pair s3 hT ru rw
        · obtain ⟨a1, rfl, l1⟩ := lst_later r1 t1
          obtain ⟨a2, rfl, l2⟩ := lst_later r2 t2
          obtain ⟨us, hu, gu⟩ := l1 _ _ _ _ (Same.refl _) (fun _ _ h => h) s2 (src_now t1)
          obtain ⟨ws, hw, gw⟩ := l2 _ _ _ _ (Same.refl _) (fun _ _ h => h) s2 (src_now t2)
          refine ⟨a1, a2, us, ws, rfl, .inl ⟨hu, hw, kv _ _ _ _ _ _ _ (x1.trans x2) s2 ?_ hq⟩⟩
          intro F3 ads3 S3 H3 f3 p3 s3 so
          obtain ⟨us, q1, g1⟩ := l1 _ _ _ _ f3 p3 s3 (srcOk_app so).1
          obtain ⟨ws, q2, g2⟩ := l2 _ _ _ _ f3 p3 s3 (srcOk_app so).2
          refine ⟨fun i d hd => ?_, fun i hi => ⟨_, _, q1, q2, by rw [← g1.length, ← g2.length]; exact zip_len hi⟩⟩
          obtain ⟨x, y, ex, ey, rfl⟩ := zip_get hd
          obtain ⟨u, hu, ru⟩ := g1.get ex
          obtain ⟨w, hw, rw⟩ := g2.get ey
          refine ⟨⟨_, _, u, w, q1, q2, hu, hw⟩, fun z H4 hy => ?_⟩
          obtain ⟨T, u', w', rfl, hT, rfl, k1, k2⟩ := hy
          have := k1 _ q1; rw [hu] at this; cases this
          have := k2 _ q2; rw [hw] at this; cases this
          exact new_pair s3 hT ru rw
      · cases h
    | _ => cases ht
/-! ### targets: names, tuples of names -/
theorem wipe_set {σ : L2.St} {i : Nat} {x : Option V} : ∀ {vs : List Nat}, i ∈ vs → L2.wipe (σ.set i x) vs = L2.wipe σ vs
  | [], h => by cases h
  | v :: vs, h => by
    unfold L2.wipe
    by_cases e : i = v
    · subst e
      by_cases hm : i ∈ vs
      · rw [wipe_set hm]
      · have key : ∀ (us : List Nat) (τ : L2.St), i ∉ us → L2.wipe (τ.set i x) us = (L2.wipe τ us).set i x := by
          intro us
          induction us with
          | nil => intro τ _; rfl
          | cons u us ih =>
            intro τ hn
            simp only [List.mem_cons, not_or] at hn
            show (L2.wipe (τ.set i x) us).set u none = ((L2.wipe τ us).set u none).set i x
            rw [ih τ hn.2, List.set_comm _ _ hn.1]
        rw [key vs σ hm, List.set_set]
    · have hm : i ∈ vs := by
        rcases List.mem_cons.mp h with q | q
        · exact absurd q e
        · exact q
      rw [wipe_set hm]
def tG (K : Fg) (sl : List Nat) (bd : D → Env → Sto → Option Env) : TG := fun v σ H Q => ∃ env S F ads d env', EnvR K F ads env σ ∧ Sim K F ads S H ∧ Rp K F ads d v ∧ bd d env S = some env' ∧
  ∀ σ', EnvR K F ads env' σ' → (∀ vs : List Nat, (∀ i ∈ sl, i ∈ vs) → L2.wipe σ' vs = L2.wipe σ vs) → Q σ' H
structure DG where
  sl : List Nat
  mt : Sc → Expr → Bool
  bd : D → Env → Sto → Option Env
  ok : ∀ (X : Cx) (T : List (Addr × Str)) (e : Expr), mt (scOf X) e = true → X.calm = true → X.N.Nodup → PG X e (tG (kt X T) sl bd)
theorem PG.imp {X : Cx} {e : Expr} {t t' : TG} (h : PG X e t) (q : ∀ v σ H Q, t' v σ H Q → t v σ H Q) : PG X e t' := ⟨fun pins s σ H v u Q I r z => h.run pins s σ H v u Q I r (q _ _ _ _ z)⟩
theorem PG.or {X : Cx} {e : Expr} {t t' : TG} (h : PG X e t) (h' : PG X e t') : PG X e (fun v σ H Q => t v σ H Q ∨ t' v σ H Q) := ⟨fun pins s σ H v u Q I r z => z.elim (h.run pins s σ H v u Q I r) (h'.run pins s σ H v u Q I r)⟩
def locB (c : Sc) (i : Nat) (x : Str) : Bool := c.N[i]? == some x && ((c.sc.names.lookup x == some .local) || (c.sc.names.lookup x == some .cell && c.fn x))
theorem loc_of {X : Cx} {i : Nat} {x : Str} (h : locB (scOf X) i x = true) : X.N[i]? = some x ∧ Loc X.env.scope x ∧ (X.fn x = true ∨ X.env.scope.names.lookup x = some .local) := by
  simp only [locB, Bool.and_eq_true, Bool.or_eq_true, beq_iff_eq] at h
  obtain ⟨h1, h2 | ⟨h2, h3⟩⟩ := h
  · exact ⟨h1, .inl h2, .inr h2⟩
  · exact ⟨h1, .inr h2, .inl h3⟩
def DG.nm (i : Nat) : DG where
  sl := [i]
  mt c e := match e with
    | .Name x _ => locB c i x
    | _ => false
  bd d env _ := some (env.set i (some d))
  ok X T e h hc hN := by
    split at h
    · obtain ⟨h1, h2, h3⟩ := loc_of h
      exact PG.imp (pg_name hN h1 h2 h3) fun v σ H Q ⟨env, S, F, ads, d, env', er, sm, r, hb, k⟩ => by
        cases hb
        exact k _ (er.set r) fun vs hv => wipe_set (hv i (by simp))
    · cases h
def tGs (K : Fg) (sl : List Nat) (bd : List D → Env → Option Env) : TGs := fun vs σ H Q => ∃ env F ads ds env', EnvR K F ads env σ ∧ Rps K F ads ds vs ∧ bd ds env = some env' ∧
  ∀ σ', EnvR K F ads env' σ' → (∀ vs : List Nat, (∀ i ∈ sl, i ∈ vs) → L2.wipe σ' vs = L2.wipe σ vs) → Q σ' H
structure DGs where
  n : Nat
  sl : List Nat
  mt : Sc → List Expr → Bool
  bd : List D → Env → Option Env
  ok : ∀ (X : Cx) (T : List (Addr × Str)) (e : List Expr), mt (scOf X) e = true → X.N.Nodup → PGs X e (tGs (kt X T) sl bd) ∧ (assignEach e X.env).length = n ∧ (assignEach e X.env).findIdx? (·.1) = none
theorem PGs.imp {X : Cx} {e : List Expr} {t t' : TGs} (h : PGs X e t) (q : ∀ v σ H Q, t' v σ H Q → t v σ H Q) : PGs X e t' := ⟨fun pins s σ H v u Q I r z => h.run pins s σ H v u Q I r (q _ _ _ _ z)⟩
def DGs.nil : DGs where
  n := 0
  sl := []
  mt _ e := e.isEmpty
  bd ds env := match ds with
    | [] => some env
    | _ => none
  ok X T e h hN := by
    have e0 : e = [] := by simpa using h
    subst e0
    refine ⟨PGs.imp pgs_nil fun v σ H Q ⟨env, F, ads, ds, env', er, r, hb, k⟩ => ?_, rfl, rfl⟩
    simp only at hb
    split at hb
    · cases hb; cases r; exact ⟨rfl, k σ er fun _ _ => rfl⟩
    · cases hb
def DGs.cons (i : Nat) (r : DGs) : DGs where
  n := r.n + 1
  sl := i :: r.sl
  mt c e := match e with
    | .Name x _ :: es => locB c i x && r.mt c es
    | _ => false
  bd ds env := match ds with
    | d :: ds => r.bd ds (env.set i (some d))
    | _ => none
  ok X T e h hN := by
    split at h
    · simp only [Bool.and_eq_true] at h
      obtain ⟨h1, h2, h3⟩ := loc_of h.1
      obtain ⟨p, l, f⟩ := r.ok X T _ h.2 hN
      refine ⟨PGs.imp (pgs_cons (pg_name hN h1 h2 h3) p rfl) fun v σ H Q ⟨env, F, ads, ds, env', er, rs, hb, k⟩ => ?_, ?_, ?_⟩
      · simp only at hb
        split at hb
        · cases rs with
          | cons ra rt =>
            refine ⟨_, _, rfl, env.set i (some _), F, ads, _, env', er.set ra, rt, hb, fun σ' er' hw => k σ' er' fun vs hv => ?_⟩
            rw [hw vs fun j hj => hv j (List.mem_cons_of_mem _ hj)]
            exact wipe_set (hv i List.mem_cons_self)
        · cases hb
      · show (assignEach _ X.env).length + 1 = _
        rw [l]
      · show ((false, _) :: assignEach _ X.env).findIdx? (·.1) = none
        rw [List.findIdx?_cons]
        simp [f]
    · cases h
def DG.tp (r : DGs) : DG where
  sl := r.sl
  mt c e := match e with
    | .Tuple es _ _ => r.mt c es
    | _ => false
  bd d env S := match seqOf S d with
    | some ds => if ds.length = r.n then r.bd ds env else none
    | none => none
  ok X T e h hc hN := by
    split at h
    · obtain ⟨p, l, f⟩ := r.ok X T _ h hN
      refine PG.imp (PG.or (pg_tup hc p l f) (pg_lst hc p l f)) fun v σ H Q ⟨env, S, F, ads, d, env', er, sm, rd, hb, k⟩ => ?_
      cases hs : seqOf S d with
      | none => simp only [hs] at hb; cases hb
      | some ds =>
        simp only [hs] at hb
        split at hb
        · rename_i hl
          obtain ⟨a, vs, rfl, hq, rs⟩ := seq_sq sm rd hs
          have fin : tGs (kt X T) r.sl r.bd vs σ H Q := ⟨env, F, ads, ds, env', er, rs, hb, k⟩
          rcases hq with hq | hq
          · exact .inr ⟨a, vs, rfl, hq, by rw [← rs.length]; exact hl, fin⟩
          · exact .inl ⟨a, vs, rfl, hq, by rw [← rs.length]; exact hl, fin⟩
        · cases hb
    · cases h
/-! #### DL6 -/
/-! The D layer, part 6: comprehensions. -/
/-- a clause's tests: none or one -/
structure DF where
  mt : Sc → List Expr → Bool
  wp : WT
  rq : Cy → Prop
  ok : ∀ (X : Cx) (W : WX) (T : List (Addr × Str)) (e : List Expr), mt (scOf X) e = true → Good X W → rq (cyOf X T) → PTs X e (tT (kt X T) X.mg W wp)
theorem PTs.imp {X : Cx} {e : List Expr} {t t' : TT} (h : PTs X e t) (q : ∀ σ H Q, t' σ H Q → t σ H Q) : PTs X e t' := ⟨fun pins s σ H Q I z => h.run pins s σ H Q I (q _ _ _ z)⟩
def wYes : WT := fun _ S Q _ => Q true S
def DF.no : DF where
  mt _ e := e.isEmpty
  wp := wYes
  rq _ := True
  ok X W T e h g _ := by
    have e0 : e = [] := by simpa using h
    subst e0
    exact PTs.imp pts_nil fun σ H Q ⟨env, S, F, ads, Qd, Xd, er, sm, hw, kv, kx⟩ => kv _ _ _ _ _ Ext.refl sm hw
def DF.one (t : DT) : DF where
  mt c e := match e with
    | [x] => t.mt c x
    | _ => false
  wp := t.wp
  rq := t.rq
  ok X W T e h g q := by
    split at h
    · exact pts_one (t.ok X W T _ h g q)
    · cases h
def blkSc (c : Sc) (scope : Scope) : Sc := ⟨c.N, relS scope c.sc, fun x => scope.names.lookup x == some .cell⟩
theorem good_blk {X : Cx} {W : WX} (g : Good X W) (s : Shared) (H : Hp) (scope : Scope) (C : Addr) (cl : List (Str × Addr)) (fp : List Addr) : Good (X.blk s H scope (compEnvC scope cl C X.env) fp) (fun _ _ _ _ => False) :=
  ⟨g.calm, g.nd, takes0, PassesOwn.never, g.un, g.dp⟩
def noX : XD := fun _ _ => False
/-- the turns of a comprehension -/
def compGo (bd : D → Env → Sto → Option Env) (t : WT) (e : WE) (env : Env) (src : Src) : List D → Sto → List D → QL → Prop
  | [], S, acc, Q => srcOk src S ∧ Q acc S
  | d :: ds, S, acc, Q => srcOk src S ∧ ∃ env', bd d env S = some env' ∧ t env' S (fun b S1 => if b = true then e env' S1 (fun x S2 => compGo bd t e env src ds S2 (acc ++ [x]) Q) noX else compGo bd t e env src ds S1 acc Q) noX
def wComp (own : List Nat) (bd : D → Env → Sto → Option Env) (i : WI) (t : WT) (e : WE) : WL := fun env S Q X => i env S (fun ds src S1 => ds.length ≤ sizeLine ∧ compGo bd t e (wipeD env own) src ds S1 [] Q) X
theorem noX_kx {K : Fg} {mg : Str → Option Value} {W : WX} {F : Hp} {ads : List Addr} {H : Hp} {σ : L2.St} : KX K mg W F ads H σ noX := fun _ _ _ _ _ _ _ h => h.elim
theorem wipe_wipe {σ : L2.St} {own : List Nat} : ∀ us : List Nat, (∀ i ∈ us, i ∈ own) → L2.wipe (L2.wipe σ us) own = L2.wipe σ own
  | [], _ => rfl
  | u :: us, h => by
    show L2.wipe ((L2.wipe σ us).set u none) own = _
    rw [wipe_set (h u List.mem_cons_self)]
    exact wipe_wipe us fun i hi => h i (List.mem_cons_of_mem _ hi)
theorem seqComp {K : Fg} {mg : Str → Option Value} {W : WX} {own sl : List Nat} {bd : D → Env → Sto → Option Env} {i : WI} {t : WT} {e : WE} (hsl : ∀ j ∈ sl, j ∈ own) {σ : L2.St} {H : Hp} {Q : VK} (h : tL K mg W (wComp own bd i t e) σ H Q) :
    tLc (tI K mg W i) (tG K sl bd) (tT K mg (fun _ _ _ _ => False) t) (tE K mg (fun _ _ _ _ => False) e) own σ H Q := by
  obtain ⟨env, S, F, ads, Qd, Xd, er, sm, hw, kv, kx⟩ := h
  refine ⟨env, S, F, ads, _, Xd, er, sm, hw, fun F1 ads1 S1 H1 ds src J x1 s1 it h1 => ?_, kx⟩
  intro D hD
  obtain ⟨hz, h1⟩ := h1
  have er1 := (er.ext x1).wipe own
  refine ⟨fun i m H => m = ds.length - i ∧ i ≤ ds.length ∧ ∃ F2 ads2 S2 acc accv, Ext F1 ads1 H1 F2 ads2 (DLay.er H D) ∧ Sim K F2 ads2 S2 (DLay.er H D) ∧ F2 D = none ∧ H D = some (.lst accv) ∧ Rps K F2 ads2 acc accv ∧ acc.length ≤ i ∧ compGo bd t e (wipeD env own) src (ds.drop i) S2 acc Qd,
    ⟨ds.length, rfl, Nat.zero_le _, F1, ads1, S1, [], [], ?_, ?_, s1.sub.free hD, upd_same, .nil, Nat.le_refl _, by rw [List.drop_zero]; exact h1⟩, ?_⟩
  · rw [er_upd, er_none hD]; exact Ext.refl
  · rw [er_upd, er_none hD]; exact s1
  rintro i m H2 ⟨rfl, hi, F2, ads2, S2, acc, accv, x2, s2, nF, eD, ra, hl, hc⟩
  have nD : D ∉ ads2 := fun q => by
    obtain ⟨u, z⟩ := s2.there q
    rw [er_same] at z; cases z
  have s2u : Sim K F2 ads2 S2 H2 := s2.uner
  by_cases hlt : i < ds.length
  · have hdrop : ds.drop i = ds[i] :: ds.drop (i + 1) := List.drop_eq_getElem_cons hlt
    rw [hdrop] at hc
    obtain ⟨so, env', hb, ht⟩ := hc
    obtain ⟨go, yl⟩ := (it F2 ads2 S2 H2 x2.sub x2.pre s2u so).1 i ds[i] (List.getElem?_eq_getElem hlt)
    refine .inr ⟨go, fun H' => ∃ F3 ads3 S3 acc accv, Ext F1 ads1 H1 F3 ads3 (DLay.er H' D) ∧ Sim K F3 ads3 S3 (DLay.er H' D) ∧ F3 D = none ∧ H' D = some (.lst accv) ∧ Rps K F3 ads3 acc accv ∧ acc.length ≤ i + 1 ∧ compGo bd t e (wipeD env own) src (ds.drop (i + 1)) S3 acc Qd,
      fun H' hN => ⟨_, by omega, rfl, hlt, hN⟩, fun x H' hy => ?_⟩
    obtain ⟨F3, x3, s3, rx⟩ := yl x H' hy
    have er3 := (er1.ext x2).ext x3
    have eD3 := x3.kep D _ eD nD rfl
    have nF3 := x3.fno D _ eD nD rfl nF
    refine ⟨_, S2, F3, ads2, _, env', er3, s3, rx, hb, fun σ' er' hw => ⟨(hw own hsl).trans (wipe_wipe own fun _ h => h), env', S2, F3, ads2, _, noX, er', s3, ht, fun F4 ads4 S4 H4 b x4 s4 h4 => ?_, noX_kx⟩⟩
    have x34 := x3.trans x4
    have eD4 := x34.kep D _ eD nD rfl
    have nF4 := x34.fno D _ eD nD rfl nF
    have nD4 : D ∉ ads4 := fun q => (x34.new D q).elim nD fun z => by cases z _ eD
    cases b with
    | false =>
      exact ⟨F4, ads4, S4, acc, accv, x2.trans x34.er, s4.er nD4 nF4 ⟨_, eD4⟩, nF4, eD4, ra.ext x34, by omega, h4⟩
    | true =>
      refine ⟨env', S4, F4, ads4, _, noX, er'.ext x4, s4, h4, fun F5 ads5 S5 H5 d v x5 s5 r5 h5 => ?_, noX_kx⟩
      have x35 := x34.trans x5
      have eD5 := x35.kep D _ eD nD rfl
      have nF5 := x35.fno D _ eD nD rfl nF
      have nD5 : D ∉ ads5 := fun q => (x35.new D q).elim nD fun z => by cases z _ eD
      refine ⟨accv, eD5, ?_, F5, ads5, S5, acc ++ [d], accv ++ [v], ?_, ?_, nF5, upd_same, (ra.ext x35).append (.cons r5 .nil), by simp; omega, h5⟩
      · rw [← ra.length]; omega
      · rw [er_upd]; exact x2.trans x35.er
      · rw [er_upd]; exact s5.er nD5 nF5 ⟨_, eD5⟩
  · have e0 : ds.drop i = [] := List.drop_eq_nil_of_le (by omega)
    rw [e0] at hc
    obtain ⟨so, hq⟩ := hc
    refine .inl ⟨(it F2 ads2 S2 H2 x2.sub x2.pre s2u so).2 i (by omega), ?_⟩
    have := kv F2 ads2 S2 (DLay.er H2 D) acc accv D (x1.trans x2) s2 ra er_same hq
    rw [upd_er eD] at this
    exact this
def compB (own : List (Str × Nat)) (g : DG) (i : DI) (t : DF) (e : DE) (c : Sc) : Expr → Bool
  | .ListComp elt [⟨tg, iter, ifs, a⟩] scope _ => a == 0 && i.mt c tg iter && noSet iter && blkC c.N c.sc scope own && g.sl.all (fun j => (own.map (·.2)).contains j) && g.mt (blkSc c scope) tg && t.mt (blkSc c scope) ifs && e.mt (blkSc c scope) elt
  | _ => false
theorem folded_no {e : Expr} (h : noSet e = true) (env : PySem.Env) (x : Value) : foldedSetIterable e env x = pure x := by
  cases e <;> first | rfl | (simp [noSet] at h)
/-- what pe_lc and ps_setLc ask -/
structure CompOk (X : Cx) (W : WX) (T : List (Addr × Str)) (own : List (Str × Nat)) (g : DG) (i : DI) (t : DF) (e : DE) (elt tg iter : Expr) (ifs : List Expr) (scope : Scope) : Prop where
  hi : PI X tg iter (tI (kt X T) X.mg W i.wp)
  ok : BlkOk X.N X.env.scope scope own
  hg : ∀ (s : Shared) (H : Hp) (C : Addr) (cl : List (Str × Addr)) (fp : List Addr), PG (X.blk s H scope (compEnvC scope cl C X.env) fp) tg (tG (kt X T) g.sl g.bd)
  ht : ∀ (s : Shared) (H : Hp) (C : Addr) (cl : List (Str × Addr)) (fp : List Addr), PTs (X.blk s H scope (compEnvC scope cl C X.env) fp) ifs (tT (kt X T) X.mg (fun _ _ _ _ => False) t.wp)
  he : ∀ (s : Shared) (H : Hp) (C : Addr) (cl : List (Str × Addr)) (fp : List Addr), PE (X.blk s H scope (compEnvC scope cl C X.env) fp) elt (tE (kt X T) X.mg (fun _ _ _ _ => False) e.wp)
  hs : ∀ x, foldedSetIterable iter X.env x = pure x
  sl : ∀ j ∈ g.sl, j ∈ own.map (·.2)
theorem comp_ok {X : Cx} {W : WX} {T : List (Addr × Str)} {own : List (Str × Nat)} {g : DG} {i : DI} {t : DF} {e : DE} {elt tg iter : Expr} {ifs : List Expr} {scope : Scope} {a : Int} {pos : Pos} (h : compB own g i t e (scOf X) (.ListComp elt [⟨tg, iter, ifs, a⟩] scope pos) = true)
    (gd : Good X W) (q : i.rq (cyOf X T) ∧ t.rq (cyOf X T) ∧ e.rq (cyOf X T)) : a = 0 ∧ CompOk X W T own g i t e elt tg iter ifs scope := by
  unfold compB at h
  simp only [Bool.and_eq_true, beq_iff_eq] at h
  obtain ⟨⟨⟨⟨⟨⟨⟨h0, h1⟩, h2⟩, h3⟩, h4⟩, h5⟩, h6⟩, h7⟩ := h
  refine ⟨h0, i.ok X W T tg iter h1 gd q.1, blkOk_by h3, fun s H C cl fp => ?_, fun s H C cl fp => ?_, fun s H C cl fp => ?_, folded_no h2 X.env, fun j hj => ?_⟩
  · exact g.ok (X.blk s H scope (compEnvC scope cl C X.env) fp) T tg h5 gd.calm gd.nd
  · exact t.ok (X.blk s H scope (compEnvC scope cl C X.env) fp) _ T ifs h6 (good_blk gd s H scope C cl fp) q.2.1
  · exact e.ok (X.blk s H scope (compEnvC scope cl C X.env) fp) _ T elt h7 (good_blk gd s H scope C cl fp) q.2.2
  · have := List.all_eq_true.mp h4 j hj
    simpa using this
def DL.comp (own : List (Str × Nat)) (g : DG) (i : DI) (t : DF) (e : DE) : DL where
  mt c x := compB own g i t e c x
  wp := wComp (own.map (·.2)) g.bd i.wp t.wp e.wp
  rq Z := i.rq Z ∧ t.rq Z ∧ e.rq Z
  ok X W T x h gd q := by
    have h' := h
    unfold compB at h'
    split at h'
    · obtain ⟨rfl, c⟩ := comp_ok h gd q
      exact PE.imp (pe_lc gd.calm gd.nd c.hi c.ok c.hg c.ht c.he c.hs) fun σ H Q z => seqComp c.sl z
    · cases h'
/-! #### DL7 -/
/-! The D layer, part 7: statements. -/
structure DEnds where
  nx : Env → Sto → Prop
  rt : D → Sto → Prop
  xq : Str → Env → Sto → Prop
  bk : Env → Sto → Prop := fun _ _ => False
  ct : Env → Sto → Prop := fun _ _ => False
abbrev WS := DEnds → Env → Sto → Prop
section
variable (K : Fg) (mg : Str → Option Value) (W : WX)
def KN (F : Hp) (ads : List Addr) (H : Hp) (P : Env → Sto → Prop) (Q : L2.St → Hp → Prop) : Prop := ∀ F' ads' S' H' env' σ', Ext F ads H F' ads' H' → Sim K F' ads' S' H' → EnvR K F' ads' env' σ' → P env' S' → Q σ' H'
def KZ (F : Hp) (ads : List Addr) (H : Hp) (P : Str → Env → Sto → Prop) : Prop := ∀ F' ads' S' H' env' σ' x, Ext F ads H F' ads' H' → Sim K F' ads' S' H' → EnvR K F' ads' env' σ' → P x env' S' → W ((mg x).getD .none) none σ' H'
structure KE (F : Hp) (ads : List Addr) (H : Hp) (E : DEnds) (D : Ends) : Prop where
  nx : KN K F ads H E.nx D.nx
  rt : KV K F ads H E.rt D.rt
  bk : KN K F ads H E.bk D.bk
  ct : KN K F ads H E.ct D.ct
  xq : KZ K mg W F ads H E.xq
def tS (w : WS) : TS := fun D σ H => ∃ env S F ads E, EnvR K F ads env σ ∧ Sim K F ads S H ∧ w E env S ∧ KE K mg W F ads H E D
end
section
variable {K : Fg} {mg : Str → Option Value} {W : WX} {F F' : Hp} {ads ads' : List Addr} {H H' : Hp} {σ : L2.St} {E : DEnds} {D : Ends}
theorem KN.ext {P : Env → Sto → Prop} {Q : L2.St → Hp → Prop} (k : KN K F ads H P Q) (x : Ext F ads H F' ads' H') : KN K F' ads' H' P Q := fun _ _ _ _ _ _ y s r h => k _ _ _ _ _ _ (x.trans y) s r h
theorem KZ.ext {P : Str → Env → Sto → Prop} (k : KZ K mg W F ads H P) (x : Ext F ads H F' ads' H') : KZ K mg W F' ads' H' P := fun _ _ _ _ _ _ _ y s r h => k _ _ _ _ _ _ _ (x.trans y) s r h
theorem KE.ext (k : KE K mg W F ads H E D) (x : Ext F ads H F' ads' H') : KE K mg W F' ads' H' E D := ⟨k.nx.ext x, k.rt.ext x, k.bk.ext x, k.ct.ext x, k.xq.ext x⟩
theorem KZ.kx {P : Str → Env → Sto → Prop} {env : Env} (k : KZ K mg W F ads H P) (er : EnvR K F ads env σ) : KX K mg W F ads H σ (fun x S => P x env S) := fun _ _ _ _ _ x s h => k _ _ _ _ _ _ _ x s (er.ext x) h
end
/-- the surroundings of a def's body -/
structure FnK (X : Cx) : Prop where
  kind : X.env.scope.kind = .function
  stk : X.stack = X.env :: X.outer
  frm : X.env.frame = some X.env.locals
  ex : X.ex = []
structure DS where
  mt : Sc → Stmt → Bool
  wp : WS
  rq : Cy → Prop
  ok : ∀ (X : Cx) (W : WX) (T : List (Addr × Str)) (s : Stmt), mt (scOf X) s = true → Good X W → FnK X → rq (cyOf X T) → PS X s (tS (kt X T) X.mg W wp)
structure DB where
  mt : Sc → List Stmt → Bool
  wp : WS
  rq : Cy → Prop
  ok : ∀ (X : Cx) (W : WX) (T : List (Addr × Str)) (s : List Stmt), mt (scOf X) s = true → Good X W → FnK X → rq (cyOf X T) → PSs X s (tS (kt X T) X.mg W wp)
theorem PS.imp {X : Cx} {e : Stmt} {t t' : TS} (h : PS X e t) (q : ∀ D σ H, t' D σ H → t D σ H) : PS X e t' := ⟨fun pins s σ H D I z => h.run pins s σ H D I (q _ _ _ z)⟩
theorem PSs.imp {X : Cx} {e : List Stmt} {t t' : TS} (h : PSs X e t) (q : ∀ D σ H, t' D σ H → t D σ H) : PSs X e t' := ⟨fun pins s σ H D I z => h.run pins s σ H D I (q _ _ _ z)⟩
def wSkip : WS := fun E env S => E.nx env S
def DB.nil : DB where
  mt _ s := s.isEmpty
  wp := wSkip
  rq _ := True
  ok X W T s h g _ _ := by
    have e0 : s = [] := by simpa using h
    subst e0
    exact PSs.imp pss_nil fun D σ H ⟨env, S, F, ads, E, er, sm, hw, k⟩ => k.nx _ _ _ _ _ _ Ext.refl sm er hw
def wSeq (a b : WS) : WS := fun E env S => a { E with nx := b E } env S
def DB.cons (a : DS) (b : DB) : DB where
  mt c s := match s with
    | x :: xs => a.mt c x && b.mt c xs
    | [] => false
  wp := wSeq a.wp b.wp
  rq Z := a.rq Z ∧ b.rq Z
  ok X W T s h g f q := by
    split at h
    · simp only [Bool.and_eq_true] at h
      refine PSs.imp (pss_cons (a.ok X W T _ h.1 g f q.1) (b.ok X W T _ h.2 g f q.2)) fun D σ H ⟨env, S, F, ads, E, er, sm, hw, k⟩ => ?_
      refine ⟨env, S, F, ads, { E with nx := b.wp E }, er, sm, hw, fun F1 ads1 S1 H1 env1 σ1 x1 s1 r1 h1 => ?_, k.rt, k.bk, k.ct, k.xq⟩
      exact ⟨env1, S1, F1, ads1, E, r1, s1, h1, k.ext x1⟩
    · cases h
def noComp : Expr → Bool
  | .ListComp _ _ _ _ => false
  | .SetComp _ _ _ _ => false
  | .DictComp _ _ _ _ _ => false
  | _ => true
theorem noComp_sw {e : Expr} {t : Option Expr} {l : Nat} {env : PySem.Env} (h : noComp e = true) : swapsWith e t l env = pure false := by
  cases e <;> first | rfl | (simp [noComp] at h)
def wExpr (a : WE) : WS := fun E env S => a env S (fun _ S1 => E.nx env S1) (fun x S1 => E.xq x env S1)
def DS.expr (a : DE) : DS where
  mt c s := match s with
    | .Expr e _ => a.mt c e && noComp e
    | _ => false
  wp := wExpr a.wp
  rq := a.rq
  ok X W T s h g f q := by
    split at h
    · simp only [Bool.and_eq_true] at h
      refine PS.imp (ps_expr (a.ok X W T _ h.1 g q) (noComp_sw h.2)) fun D σ H ⟨env, S, F, ads, E, er, sm, hw, k⟩ => ?_
      exact ⟨env, S, F, ads, _, _, er, sm, hw, fun F1 ads1 S1 H1 d v x1 s1 r1 h1 => k.nx _ _ _ _ _ _ x1 s1 (er.ext x1) h1, k.xq.kx er⟩
    · cases h
def wRet (a : WE) : WS := fun E env S => a env S E.rt (fun x S1 => E.xq x env S1)
def DS.ret (a : DE) : DS where
  mt c s := match s with
    | .Return (some e) _ => a.mt c e
    | _ => false
  wp := wRet a.wp
  rq := a.rq
  ok X W T s h g f q := by
    split at h
    · refine PS.imp (ps_ret (a.ok X W T _ h g q)) fun D σ H ⟨env, S, F, ads, E, er, sm, hw, k⟩ => ?_
      exact ⟨env, S, F, ads, _, _, er, sm, hw, k.rt, k.xq.kx er⟩
    · cases h
def DS.pass : DS where
  mt _ s := match s with
    | .Pass _ => true
    | _ => false
  wp := wSkip
  rq _ := True
  ok X W T s h g f q := by
    split at h
    · exact PS.imp ps_pass fun D σ H ⟨env, S, F, ads, E, er, sm, hw, k⟩ => k.nx _ _ _ _ _ _ Ext.refl sm er hw
    · cases h
def wCont : WS := fun E env S => E.ct env S
def DS.cont : DS where
  mt _ s := match s with
    | .Continue _ => true
    | _ => false
  wp := wCont
  rq _ := True
  ok X W T s h g f q := by
    split at h
    · exact PS.imp ps_continue fun D σ H ⟨env, S, F, ads, E, er, sm, hw, k⟩ => k.ct _ _ _ _ _ _ Ext.refl sm er hw
    · cases h
/-! ### assignments -/
def wSet (i : Nat) (a : WE) : WS := fun E env S => a env S (fun d S1 => E.nx (env.set i (some d)) S1) (fun x S1 => E.xq x env S1)
theorem seqSet {K : Fg} {mg : Str → Option Value} {W : WX} {i : Nat} {a : WE} {D : Ends} {σ : L2.St} {H : Hp} (h : tS K mg W (wSet i a) D σ H) : tAsg (tE K mg W a) (gName i) D σ H := by
  obtain ⟨env, S, F, ads, E, er, sm, hw, k⟩ := h
  exact ⟨env, S, F, ads, _, _, er, sm, hw, fun F1 ads1 S1 H1 d v x1 s1 r1 h1 => k.nx _ _ _ _ _ _ x1 s1 ((er.ext x1).set r1) h1, k.xq.kx er⟩
def DS.set (i : Nat) (a : DE) : DS where
  mt c s := match s with
    | .Assign [.Name x _] e _ => locB c i x && a.mt c e && noComp e
    | _ => false
  wp := wSet i a.wp
  rq := a.rq
  ok X W T s h g f q := by
    split at h
    · simp only [Bool.and_eq_true] at h
      obtain ⟨h1, h2, h3⟩ := loc_of h.1.1
      exact PS.imp (ps_set g.nd h1 h2 (a.ok X W T _ h.1.2 g q) (noComp_sw h.2) h3) fun D σ H z => seqSet z
    · cases h
/-- name = [.. for ..], frozen (the name is a plain local, on one line) -/
def setCB (i : Nat) (own : List (Str × Nat)) (g : DG) (it : DI) (t : DF) (e : DE) (c : Sc) : Stmt → Bool
  | .Assign [.Name y py] (.ListComp elt gs scope pos) _ => c.N[i]? == some y && (c.sc.names.lookup y == some .local) && (py.line == pos.line) && !(scope.names.any fun (n, k) => n == y && (k == .local || k == .cell)) && compB own g it t e c (.ListComp elt gs scope pos)
  | _ => false
theorem setC_ok {X : Cx} {W : WX} {T : List (Addr × Str)} {i : Nat} {own : List (Str × Nat)} {g : DG} {it : DI} {t : DF} {e : DE} {s : Stmt} (h : setCB i own g it t e (scOf X) s = true) (gd : Good X W) (f : X.env.scope.kind = .function)
    (q : it.rq (cyOf X T) ∧ t.rq (cyOf X T) ∧ e.rq (cyOf X T)) : PS X s (tAsg (tL (kt X T) X.mg W (wComp (own.map (·.2)) g.bd it.wp t.wp e.wp)) (gName i)) := by
  unfold setCB at h
  split at h
  · rename_i y py elt gs scope pos spos
    simp only [Bool.and_eq_true, beq_iff_eq, Bool.not_eq_true'] at h
    obtain ⟨⟨⟨⟨h1, h2⟩, h3⟩, h4⟩, h5⟩ := h
    have h5' := h5
    unfold compB at h5'
    split at h5'
    · rename_i heq
      cases heq
      obtain ⟨rfl, c⟩ := comp_ok h5 gd q
      have z := ps_setLc (py := py) (pos := pos) (spos := spos) gd.calm gd.nd h1 h2 (sw_true f h2 (by simpa using h3) h4) c.hi c.ok c.hg c.ht c.he c.hs
      exact PS.imp z fun D σ H z => seqComp c.sl z
    · cases h5'
  · cases h
def DS.setC (i : Nat) (own : List (Str × Nat)) (g : DG) (it : DI) (t : DF) (e : DE) : DS where
  mt c s := setCB i own g it t e c s
  wp := wSet i (wLst (wComp (own.map (·.2)) g.bd it.wp t.wp e.wp))
  rq Z := it.rq Z ∧ t.rq Z ∧ e.rq Z
  ok X W T s h gd f q := PS.imp (setC_ok h gd f.kind q) fun D σ H z => seqLst (seqSet z)
/-- .. as a list of the store -/
def DS.setCT (i : Nat) (own : List (Str × Nat)) (g : DG) (it : DI) (t : DF) (e : DE) : DS where
  mt c s := setCB i own g it t e c s
  wp := wSet i (wThw (wComp (own.map (·.2)) g.bd it.wp t.wp e.wp))
  rq Z := it.rq Z ∧ t.rq Z ∧ e.rq Z
  ok X W T s h gd f q := PS.imp (setC_ok h gd f.kind q) fun D σ H z => seqThw (seqSet z)
/-! a, b = .. -/
def swNm (sc : Scope) (ts : List Expr) : List Str := ts.filterMap fun
  | .Name id pos => if sc.names.lookup id == some .local && pos.line == (ts.head?.map (·.pos.line)).getD 0 then some id else none
  | _ => none
def swCore (sc : Scope) (ts vs : List Expr) : Option (Option (List Str)) :=
  if (!(ts.length == 2 || ts.length == 3) || vs.length != ts.length || ScopeKind.function != ScopeKind.function) = true then some none else
  if (vs.any fun | .Starred .. => true | _ => false) = true then some none else
  if ((swNm sc ts).length != ts.length || (swNm sc ts).eraseDups.length != (swNm sc ts).length) = true then some none else
  if vs.all (foldedForSure 8) = true then some none else
  if vs.all (constantsAlone 8) = true then none else some (some (swNm sc ts))
theorem swCore_of {ts vs : List Expr} {k k2 : Nat} {p p2 : Pos} {env : PySem.Env} {r : Option (List Str)} (hk : env.scope.kind = .function) (h : swCore env.scope ts vs = some r) : swappedStores [.Tuple ts k p] (.Tuple vs k2 p2) env = pure r := by
  have hb : env.blockKind = .function := by unfold Env.blockKind; rw [hk]; rfl
  unfold swappedStores
  dsimp only
  rw [hb]
  unfold swCore at h
  split at h
  · rename_i c; cases h; exact if_pos c
  rename_i c; refine (if_neg c).trans ?_; clear c
  split at h
  · rename_i c; cases h; exact if_pos c
  rename_i c; refine (if_neg c).trans ?_; clear c
  split at h
  · rename_i c; cases h; exact if_pos c
  rename_i c
  refine (if_neg c).trans ?_; clear c
  split at h
  · rename_i c; cases h; exact if_pos c
  rename_i c; refine (if_neg c).trans ?_; clear c
  split at h
  · cases h
  rename_i c; cases h; exact if_neg c
def swNo (sc : Scope) (tg e : Expr) : Bool := match tg, e with
  | .Tuple ts _ _, .Tuple vs _ _ => swCore sc ts vs == some none
  | .List _ _, .Tuple _ _ _ => false
  | _, _ => true
theorem swNo_of {tg e : Expr} {env : PySem.Env} (hk : env.scope.kind = .function) (h : swNo env.scope tg e = true) : swappedStores [tg] e env = pure none := by
  cases tg with
  | Tuple ts a b =>
    cases e with
    | Tuple vs c d => exact swCore_of hk (by simpa [swNo] using h)
    | _ => rfl
  | List ts a =>
    cases e with
    | Tuple vs c d => simp [swNo] at h
    | _ => rfl
  | _ => cases e <;> rfl
/-- a target of names (a tuple of them), no swap -/
def wAsg (bd : D → Env → Sto → Option Env) (a : WE) : WS := fun E env S => a env S (fun d S1 => ∃ env', bd d env S1 = some env' ∧ E.nx env' S1) (fun x S1 => E.xq x env S1)
def DS.asg (t : DG) (a : DE) : DS where
  mt c s := match s with
    | .Assign [tg] e _ => t.mt c tg && a.mt c e && noComp e && swNo c.sc tg e && noStar tg
    | _ => false
  wp := wAsg t.bd a.wp
  rq := a.rq
  ok X W T s h g f q := by
    split at h
    · rename_i tg e pos
      simp only [Bool.and_eq_true] at h
      obtain ⟨⟨⟨⟨h1, h2⟩, h3⟩, h4⟩, h5⟩ := h
      refine PS.imp (ps_asg (a.ok X W T _ h2 g q) (t.ok X T _ h1 g.calm g.nd) (noComp_sw h3) (swNo_of f.kind h4) (by cases tg <;> first | rfl | (simp [noStar] at h5))) fun D σ H ⟨env, S, F, ads, E, er, sm, hw, k⟩ => ?_
      refine ⟨env, S, F, ads, _, _, er, sm, hw, fun F1 ads1 S1 H1 d v x1 s1 r1 h1 => ?_, k.xq.kx er⟩
      obtain ⟨env', hb, hq⟩ := h1
      exact ⟨env, S1, F1, ads1, d, env', er.ext x1, s1, r1, hb, fun σ' er' _ => k.nx _ _ _ _ _ _ x1 s1 er' hq⟩
    · cases h
/-- a, b = x, y: two plain locals -/
def wPar (i j : Nat) (a b : WE) : WS := fun E env S => a env S (fun d S1 => b env S1 (fun d2 S2 => E.nx ((env.set i (some d)).set j (some d2)) S2) (fun x S2 => E.xq x env S2)) (fun x S1 => E.xq x env S1)
def parB (i j : Nat) (a b : DE) (c : Sc) : Stmt → Bool
  | .Assign [.Tuple [.Name x px, .Name y py] kt pt] (.Tuple [u, v] k2 pt2) _ => c.N[i]? == some x && c.N[j]? == some y && i != j && (c.sc.names.lookup x == some .local) && (c.sc.names.lookup y == some .local) &&
      noStar u && noStar v && a.mt c u && b.mt c v && swCore c.sc [.Name x px, .Name y py] [u, v] == some (some [x, y])
  | _ => false
def DS.par (i j : Nat) (a b : DE) : DS where
  mt c s := parB i j a b c s
  wp := wPar i j a.wp b.wp
  rq Z := a.rq Z ∧ b.rq Z
  ok X W T s h g f q := by
    unfold parB at h
    split at h
    · rename_i x px y py kt pt u v k2 pt2 pos
      simp only [Bool.and_eq_true, beq_iff_eq, bne_iff_ne, ne_eq] at h
      obtain ⟨⟨⟨⟨⟨⟨⟨⟨⟨h1, h2⟩, h3⟩, h4⟩, h5⟩, h6⟩, h7⟩, h8⟩, h9⟩, h10⟩ := h
      refine PS.imp (ps_par g.calm g.nd h1 h2 h3 h4 h5 (pa_cons (a.ok X W T _ h8 g q.1) (pa_cons (b.ok X W T _ h9 g q.2) pa_nil (starEach_cons h7)) (starEach_cons h6)) (swCore_of f.kind h10)) fun D σ H ⟨env, S, F, ads, E, er, sm, hw, k⟩ => ?_
      refine ⟨env, S, F, ads, _, _, er, sm, hw, fun F1 ads1 S1 H1 d v x1 s1 r1 h1 => ?_, k.xq.kx er⟩
      refine ⟨env, S1, F1, ads1, _, _, er.ext x1, s1, h1, fun F2 ads2 S2 H2 d2 v2 x2 s2 r2 h2 => ?_, (k.xq.kx er).ext x1⟩
      exact ⟨v, v2, rfl, k.nx _ _ _ _ _ _ (x1.trans x2) s2 (((er.ext (x1.trans x2)).set (r1.ext x2)).set r2) h2⟩
    · cases h
/-- a, b, c = x, y, z -/
def wPar3 (i j l : Nat) (a b c : WE) : WS := fun E env S => a env S (fun d S1 => b env S1 (fun d2 S2 => c env S2 (fun d3 S3 => E.nx (((env.set i (some d)).set j (some d2)).set l (some d3)) S3) (fun x S2 => E.xq x env S2)) (fun x S2 => E.xq x env S2)) (fun x S1 => E.xq x env S1)
/-! ### o[i] = e, an object of the store -/
def wSub (a o b : WE) : WS := fun E env S => a env S (fun d S1 => o env S1 (fun x S2 => b env S2 (fun y S3 => ∃ h k j ds, x = .han h ∧ y = .int k ∧ S3[h]? = some (.lst ds) ∧ ixN ds.length k = some j ∧ E.nx env (S3.set h (.lst (ds.set j d)))) (fun x S3 => E.xq x env S3)) (fun x S2 => E.xq x env S2)) (fun x S1 => E.xq x env S1)
def tgSub (c : Sc) (o b : DE) : Expr → Bool
  | .Subscript x y _ => o.mt c x && b.mt c y && plainIx y
  | _ => false
theorem assign_sub {o i : Expr} {pos : Pos} {env : PySem.Env} (h : plainIx i = true) (v : Value) : assign (.Subscript o i pos) env v = (do
      let ov ← holding [v] (eval o env)
      let iv ← holding [v, ov] (eval i env)
      standAt pos
      holding [v, ov, iv] (setItem ov iv v)
      release [v, ov, iv] []) := by
  cases i <;> first | rfl | (simp [plainIx] at h)
def DS.sub (o b a : DE) : DS where
  mt c s := match s with
    | .Assign [tg] e _ => tgSub c o b tg && a.mt c e
    | _ => false
  wp := wSub a.wp o.wp b.wp
  rq Z := a.rq Z ∧ o.rq Z ∧ b.rq Z
  ok X W T s h g f q := by
    split at h
    · rename_i tg e pos
      simp only [Bool.and_eq_true] at h
      obtain ⟨h1, h2⟩ := h
      unfold tgSub at h1
      split at h1
      · simp only [Bool.and_eq_true] at h1
        obtain ⟨⟨h3, h4⟩, h5⟩ := h1
        refine PS.imp (ps_asg (a.ok X W T _ h2 g q.1) (pg_sub (o.ok X W T _ h3 g q.2.1) (b.ok X W T _ h4 g q.2.2) set_list (assign_sub h5)) (by cases e <;> rfl) (by cases e <;> rfl) rfl) fun D σ H ⟨env, S, F, ads, E, er, sm, hw, k⟩ => ?_
        refine ⟨env, S, F, ads, _, _, er, sm, hw, fun F1 ads1 S1 H1 d v x1 s1 r1 h1 => ?_, k.xq.kx er⟩
        refine ⟨env, S1, F1, ads1, _, _, er.ext x1, s1, h1, fun F2 ads2 S2 H2 d2 v2 x2 s2 r2 h2 => ?_, (k.xq.kx er).ext x1⟩
        refine ⟨env, S2, F2, ads2, _, _, er.ext (x1.trans x2), s2, h2, fun F3 ads3 S3 H3 d3 v3 x3 s3 r3 h3 => ?_, (k.xq.kx er).ext (x1.trans x2)⟩
        obtain ⟨hd, kk, j, ds, rfl, rfl, hS, hj, hq⟩ := h3
        cases r3
        cases r2.ext x3 with
        | han ha =>
          obtain ⟨a', ha', nF, us, hH, rs⟩ := s3.at hS
          rw [ha] at ha'; cases ha'
          refine ⟨_, us, kk, j, rfl, rfl, hH, by rw [← rs.length]; exact hj, ?_⟩
          have r1' := r1.ext (x2.trans x3)
          obtain ⟨s4, x4⟩ := s3.put ha nF (.lst (us.set j v)) (o := .lst (ds.set j d)) ⟨nF, _, upd_same, rs.set r1' j⟩
          have xx := ((x1.trans x2).trans x3).trans x4
          exact k.nx _ _ _ _ _ _ xx s4 (er.ext xx) hq
      · cases h1
    · cases h
/-! ### if, while, for, raise -/
def wIf (t : WT) (a b : WS) : WS := fun E env S => t env S (fun k S1 => if k = true then a E env S1 else b E env S1) (fun x S1 => E.xq x env S1)
def DS.iff (t : DT) (a b : DB) : DS where
  mt c s := match s with
    | .If x y z _ => t.mt c x && a.mt c y && b.mt c z
    | _ => false
  wp := wIf t.wp a.wp b.wp
  rq Z := t.rq Z ∧ a.rq Z ∧ b.rq Z
  ok X W T s h g f q := by
    split at h
    · simp only [Bool.and_eq_true] at h
      refine PS.imp (ps_if (t.ok X W T _ h.1.1 g q.1) (a.ok X W T _ h.1.2 g f q.2.1) (b.ok X W T _ h.2 g f q.2.2)) fun D σ H ⟨env, S, F, ads, E, er, sm, hw, k⟩ => ?_
      refine ⟨env, S, F, ads, _, _, er, sm, hw, fun F1 ads1 S1 H1 b x1 s1 h1 => ?_, k.xq.kx er⟩
      cases b with
      | true => exact ⟨env, S1, F1, ads1, E, er.ext x1, s1, h1, k.ext x1⟩
      | false => exact ⟨env, S1, F1, ads1, E, er.ext x1, s1, h1, k.ext x1⟩
    · cases h
def whileGo (t : WT) (b : WS) (E : DEnds) : Nat → Env → Sto → Prop
  | 0, _, _ => False
  | n + 1, env, S => t env S (fun k S1 => if k = true then b { E with nx := whileGo t b E n, ct := whileGo t b E n, bk := E.nx } env S1 else E.nx env S1) (fun x S1 => E.xq x env S1)
def wWhile (t : WT) (b : WS) : WS := fun E env S => ∃ n, whileGo t b E n env S
def DS.while (t : DT) (b : DB) : DS where
  mt c s := match s with
    | .While x y [] _ => t.mt c x && b.mt c y
    | _ => false
  wp := wWhile t.wp b.wp
  rq Z := t.rq Z ∧ b.rq Z
  ok X W T s h g f q := by
    split at h
    · simp only [Bool.and_eq_true] at h
      refine PS.imp (ps_while g.own (t.ok X W T _ h.1 g q.1) (b.ok X W T _ h.2 g f q.2)) fun D σ H ⟨env, S, F, ads, E, er, sm, hw, k⟩ => ?_
      obtain ⟨n, hw⟩ := hw
      refine ⟨fun m σ' H' => ∃ env' S' F' ads', Ext F ads H F' ads' H' ∧ EnvR (kt X T) F' ads' env' σ' ∧ Sim (kt X T) F' ads' S' H' ∧ whileGo t.wp b.wp E m env' S', ⟨n, env, S, F, ads, Ext.refl, er, sm, hw⟩, ?_⟩
      rintro m σ1 H1 ⟨env1, S1, F1, ads1, x1, er1, s1, hw1⟩
      cases m with
      | zero => exact hw1.elim
      | succ m =>
        have k1 := k.ext x1
        refine ⟨env1, S1, F1, ads1, _, _, er1, s1, hw1, fun F2 ads2 S2 H2 b2 x2 s2 h2 => ?_, k1.xq.kx er1⟩
        cases b2 with
        | false => exact k1.nx _ _ _ _ _ _ x2 s2 (er1.ext x2) h2
        | true =>
          have k2 := k1.ext x2
          have nxt : KN (kt X T) F2 ads2 H2 (whileGo t.wp b.wp E m) (fun σ' H' => ∃ env' S' F' ads', Ext F ads H F' ads' H' ∧ EnvR (kt X T) F' ads' env' σ' ∧ Sim (kt X T) F' ads' S' H' ∧ whileGo t.wp b.wp E m env' S') :=
            fun F3 ads3 S3 H3 env3 σ3 x3 s3 er3 h3 => ⟨env3, S3, F3, ads3, (x1.trans x2).trans x3, er3, s3, h3⟩
          exact ⟨_, fun σ' H' hN => ⟨m, Nat.lt_succ_self m, hN⟩, env1, S2, F2, ads2, { E with nx := whileGo t.wp b.wp E m, ct := whileGo t.wp b.wp E m, bk := E.nx }, er1.ext x2, s2, h2, nxt, k2.rt, k2.nx, nxt, k2.xq⟩
    · cases h
def forGo (bd : D → Env → Sto → Option Env) (b : WS) (E : DEnds) (src : Src) : List D → Env → Sto → Prop
  | [], env, S => srcOk src S ∧ E.nx env S
  | d :: ds, env, S => srcOk src S ∧ ∃ env', bd d env S = some env' ∧ b { E with nx := forGo bd b E src ds, ct := forGo bd b E src ds, bk := E.nx } env' S
def wFor (bd : D → Env → Sto → Option Env) (i : WI) (b : WS) : WS := fun E env S => i env S (fun ds src S1 => forGo bd b E src ds env S1) (fun x S1 => E.xq x env S1)
def DS.for (t : DG) (i : DI) (b : DB) : DS where
  mt c s := match s with
    | .For tg it y [] _ => t.mt c tg && i.mt c tg it && noSet it && b.mt c y
    | _ => false
  wp := wFor t.bd i.wp b.wp
  rq Z := i.rq Z ∧ b.rq Z
  ok X W T s h g f q := by
    split at h
    · simp only [Bool.and_eq_true] at h
      obtain ⟨⟨⟨h1, h2⟩, h3⟩, h4⟩ := h
      refine PS.imp (ps_for g.own g.calm (i.ok X W T _ _ h2 g q.1) (t.ok X T _ h1 g.calm g.nd) (b.ok X W T _ h4 g f q.2) (folded_no h3 X.env)) fun D σ H ⟨env, S, F, ads, E, er, sm, hw, k⟩ => ?_
      refine ⟨env, S, F, ads, _, _, er, sm, hw, fun F1 ads1 S1 H1 ds src J x1 s1 it h1 => ?_, k.xq.kx er⟩
      refine ⟨fun i m σ' H' => m = ds.length - i ∧ i ≤ ds.length ∧ ∃ env' S' F' ads', Ext F1 ads1 H1 F' ads' H' ∧ EnvR (kt X T) F' ads' env' σ' ∧ Sim (kt X T) F' ads' S' H' ∧ forGo t.bd b.wp E src (ds.drop i) env' S',
        ⟨ds.length, rfl, Nat.zero_le _, env, S1, F1, ads1, Ext.refl, er.ext x1, s1, by rw [List.drop_zero]; exact h1⟩, ?_⟩
      rintro i m σ2 H2 ⟨rfl, hi, env2, S2, F2, ads2, x2, er2, s2, hw2⟩
      have k2 := k.ext (x1.trans x2)
      by_cases hlt : i < ds.length
      · have hdrop : ds.drop i = ds[i] :: ds.drop (i + 1) := List.drop_eq_getElem_cons hlt
        rw [hdrop] at hw2
        obtain ⟨so, env', hb, hw2⟩ := hw2
        obtain ⟨go, yl⟩ := (it F2 ads2 S2 H2 x2.sub x2.pre s2 so).1 i ds[i] (List.getElem?_eq_getElem hlt)
        refine .inr ⟨go, fun σ' H' => ∃ env' S' F' ads', Ext F1 ads1 H1 F' ads' H' ∧ EnvR (kt X T) F' ads' env' σ' ∧ Sim (kt X T) F' ads' S' H' ∧ forGo t.bd b.wp E src (ds.drop (i + 1)) env' S', fun σ' H' hN => ⟨_, by omega, rfl, hlt, hN⟩, fun x H' hy => ?_⟩
        obtain ⟨F3, x3, s3, rx⟩ := yl x H' hy
        have k3 := k2.ext x3
        refine ⟨env2, S2, F3, ads2, _, env', er2.ext x3, s3, rx, hb, fun σ' er' _ => ?_⟩
        have nxt : KN (kt X T) F3 ads2 H' (forGo t.bd b.wp E src (ds.drop (i + 1))) (fun σ' H' => ∃ env' S' F' ads', Ext F1 ads1 H1 F' ads' H' ∧ EnvR (kt X T) F' ads' env' σ' ∧ Sim (kt X T) F' ads' S' H' ∧ forGo t.bd b.wp E src (ds.drop (i + 1)) env' S') :=
          fun F4 ads4 S4 H4 env4 σ4 x4 s4 er4 h4 => ⟨env4, S4, F4, ads4, (x2.trans x3).trans x4, er4, s4, h4⟩
        exact ⟨env', S2, F3, ads2, { E with nx := forGo t.bd b.wp E src (ds.drop (i + 1)), ct := forGo t.bd b.wp E src (ds.drop (i + 1)), bk := E.nx }, er', s3, hw2, nxt, k3.rt, k3.nx, nxt, k3.xq⟩
      · have e0 : ds.drop i = [] := List.drop_eq_nil_of_le (by omega)
        rw [e0] at hw2
        obtain ⟨so, hq⟩ := hw2
        exact .inl ⟨(it F2 ads2 S2 H2 x2.sub x2.pre s2 so).2 i (by omega), k2.nx _ _ _ _ _ _ Ext.refl s2 er2 hq⟩
    · cases h
/-- what is known of an own exception class -/
def ExcOk (Z : Cy) (x : Str) : Prop := ∃ C, Z.mg x = some (.ref C) ∧ PySem.W.excIn Z.K C [.type "ValueError", .type "Exception", .type "BaseException", .type "object"] "ValueError.__new__" = true ∧ PySem.W.keepIn Z.K (.ref C) = true ∧ PySem.W.subIn Z.K (.ref C) (.type "BaseException") = some true ∧ PySem.W.typeIn Z.K (.ref C) = some (.type "type")
def wRaise (x : Str) : WS := fun E env S => E.xq x env S
def DS.raise (x : Str) : DS where
  mt c s := match s with
    | .Raise (some (.Call (.Name y _) [.Constant (.str _) _ _] [] _)) none _ => y == x && glB c x && !(x == ("__debug__" : Str))
    | _ => false
  wp := wRaise x
  rq Z := ExcOk Z x
  ok X W T s h g f q := by
    split at h
    · simp only [Bool.and_eq_true, beq_iff_eq, Bool.not_eq_true'] at h
      obtain ⟨⟨rfl, h1⟩, h2⟩ := h
      obtain ⟨C, gC, xC, kC, bC, tC⟩ := q
      refine PS.imp (ps_raise g.calm g.tk (pmk_own PySem.F.excBase_ValueError xC gC kC (raises_own bC tC) (gl_of h1) h2)) fun D σ H ⟨env, S, F, ads, E, er, sm, hw, k⟩ => ?_
      have := k.xq _ _ _ _ _ _ _ Ext.refl sm er hw
      rw [show X.mg _ = some (.ref C) from gC] at this
      exact this
    · cases h
/-! #### DL8 -/
/-! The D layer, part 8: defs, their promises, the law's end. -/
/-- a def's promise over data -/
abbrev Ct := List D → Sto → QD → XD → Prop
def spOf (K : Fg) (mg : Str → Option Value) (n : Nat) (C : Ct) : Sp := fun vs H Q E => ∃ ds S F ads Qd Xd, ds.length = n ∧ Sim K F ads S H ∧ Rps K F ads ds vs ∧ C ds S Qd Xd ∧ KV K F ads H Qd Q ∧
  (∀ F' ads' S' H' x, Ext F ads H F' ads' H' → Sim K F' ads' S' H' → Xd x S' → E ((mg x).getD .none) none H')
/-- a def of the text keeps a promise, with room for k calls one in another -/
def FnAt (P : Program) (w : World) (K : Fg) (mg : Str → Option Value) (base : Heap) (k : Nat) (f : Str) (n : Nat) (C : Ct) : Prop :=
  ∃ a fd ps, FnOk P w K.K mg base (L2.CX P w) k a fd ps (spOf K mg n C) ∧ mg f = some (.ref a) ∧ PySem.W.keepIn K.K (.ref a) = true ∧ L2.Binds K.K fd ps []
theorem FnAt.mono {P : Program} {w : World} {K : Fg} {mg : Str → Option Value} {base : Heap} {j k n : Nat} {f : Str} {C : Ct} (h : FnAt P w K mg base j f n C) (hk : j ≤ k) : FnAt P w K mg base k f n C :=
  let ⟨a, fd, ps, F, r⟩ := h
  ⟨a, fd, ps, F.mono hk, r⟩
theorem FnAt.imp {P : Program} {w : World} {K : Fg} {mg : Str → Option Value} {base : Heap} {k n : Nat} {f : Str} {C C' : Ct} (h : FnAt P w K mg base k f n C) (q : ∀ ds S Q X, C' ds S Q X → C ds S Q X) : FnAt P w K mg base k f n C' :=
  let ⟨a, fd, ps, F, r⟩ := h
  ⟨a, fd, ps, F.imp fun vs H Q E ⟨ds, S, F, ads, Qd, Xd, hl, sm, rs, hc, kv, kx⟩ => ⟨ds, S, F, ads, Qd, Xd, hl, sm, rs, q _ _ _ _ hc, kv, kx⟩, r⟩
def CallOk (Z : Cy) (f : Str) (n : Nat) (C : Ct) : Prop := ∃ k, FnAt Z.prog Z.w ⟨Z.K, Z.T⟩ Z.mg Z.base k f n C ∧ Room k Z.A
def wCall (C : Ct) (a : WL) : WE := fun env S Q X => a env S (fun ds S1 => C ds S1 Q X) X
def DE.call (f : Str) (C : Ct) (a : DA) : DE where
  mt c e := match e with
    | .Call (.Name y _) (e :: es) [] _ => y == f && glB c f && !(f == ("__debug__" : Str)) && a.mt c (e :: es)
    | _ => false
  wp := wCall C a.wp
  rq Z := CallOk Z f a.n C ∧ a.rq Z
  ok X W T e h g q := by
    split at h
    · simp only [Bool.and_eq_true, beq_iff_eq, Bool.not_eq_true'] at h
      obtain ⟨⟨⟨rfl, h1⟩, h2⟩, h3⟩ := h
      obtain ⟨⟨k, ⟨ad, fd, ps, F, hm, hk, hb⟩, hr⟩, q2⟩ := q
      obtain ⟨pa, hs⟩ := a.ok X W T _ h3 g q2
      simp only [List.all_cons, Bool.and_eq_true] at hs
      refine PE.imp (pe_callS (E := L2.WE W) F hr (gl_of h1) hm hk hb (fun σ => passAt g.tk σ) pa h2 (starEach_cons hs.1) (star_any hs.2)) fun σ H Q ⟨env, S, F, ads, Qd, Xd, er, sm, hw, kv, kx⟩ => ?_
      refine ⟨env, S, F, ads, _, Xd, er, sm, hw, fun F1 ads1 S1 H1 ds vs x1 s1 r1 l1 h1 => ?_, kx⟩
      exact ⟨ds, S1, F1, ads1, Qd, Xd, l1, s1, r1, h1, kv.ext x1, fun F2 ads2 S2 H2 x x2 s2 h2 => kx _ _ _ _ _ (x1.trans x2) s2 h2⟩
    · cases h
theorem pe_callS0 {X : Cx} {CX : CXT} {k : Nat} {f : Addr} {fd : FuncData} {ps : List Str} {sp : Sp} {E : L2.St → XK} {x : Str} {p pos : Pos} (F : FnOk X.prog X.w X.K X.mg X.base CX k f fd ps sp) (hr : Room k X.A) (hg : Gl X x) (hm : X.mg x = some (.ref f)) (hk : PySem.W.keepIn X.K (.ref f) = true) (hb : L2.Binds X.K fd ps []) (hx : ∀ σ, PassesAt CX X σ (E σ))
    (hdb : (x == ("__debug__" : Str)) = false) : PE X (.Call (.Name x p) [] [] pos) (tCallS sp E tNil) := by
  refine ⟨fun pins s σ H Q I h => ?_⟩
  refine wpAny_Call_Name_kw (ld_glob I hg hm ?_ hdb)
  exact PySem.W.callWith_K0 I.kIn hk (run_fnS (us := []) F hr hb (hx σ) I .nil h)
def wCall0 (C : Ct) : WE := fun env S Q X => C [] S Q X
def DE.call0 (f : Str) (C : Ct) : DE where
  mt c e := match e with
    | .Call (.Name y _) [] [] _ => y == f && glB c f && !(f == ("__debug__" : Str))
    | _ => false
  wp := wCall0 C
  rq Z := CallOk Z f 0 C
  ok X W T e h g q := by
    split at h
    · simp only [Bool.and_eq_true, beq_iff_eq, Bool.not_eq_true'] at h
      obtain ⟨⟨rfl, h1⟩, h2⟩ := h
      obtain ⟨k, ⟨ad, fd, ps, F, hm, hk, hb⟩, hr⟩ := q
      refine PE.imp (pe_callS0 (E := L2.WE W) F hr (gl_of h1) hm hk hb (fun σ => passAt g.tk σ) h2) fun σ H Q ⟨env, S, F, ads, Qd, Xd, er, sm, hw, kv, kx⟩ => ?_
      exact ⟨[], S, F, ads, Qd, Xd, rfl, sm, .nil, hw, kv, kx⟩
    · cases h
/-! ### a def -/
def startD (n : Nat) (ds : List D) : Env := ds.map some ++ List.replicate (n - ds.length) none
theorem start_r {K : Fg} {F : Hp} {ads : List Addr} {N : List Str} {ds : List D} {vs : List V} (r : Rps K F ads ds vs) : EnvR K F ads (startD N.length ds) (L2.start N vs) := by
  unfold startD L2.start
  refine ⟨by simp [r.length], fun i d h => ?_⟩
  by_cases hi : i < ds.length
  · rw [List.getElem?_append_left (by simpa using hi), List.getElem?_map] at h
    cases e : ds[i]? with
    | none => rw [e] at h; cases h
    | some d' =>
      rw [e] at h
      have : d' = d := by simpa using h
      subst this
      obtain ⟨v, hv, rv⟩ := r.get e
      refine ⟨v, ?_, rv⟩
      rw [List.getElem?_append_left (by simp; rw [← r.length]; exact hi), List.getElem?_map, hv]
      rfl
  · rw [List.getElem?_append_right (by simpa using hi)] at h
    exfalso
    rw [List.getElem?_replicate] at h
    split at h <;> cases h
/-- what a body means as a promise -/
def ctOf (n : Nat) (b : DB) : Ct := fun ds S Q X => b.wp { nx := fun _ S' => Q .non S', rt := Q, xq := fun x _ S' => X x S' } (startD n ds) S
/-- the law's own promise -/
def cLaw : Ct := fun ds S Q _ => ∃ ns : List Int, ds = [.scr (ns.map .int)] ∧ ns.length ≤ 63 ∧ S = [] ∧ ∀ S', Q (.bl true) S'
def scrF (H : Hp) (a : Addr) : Hp := fun b => if b = a then (match H a with | some (.lst xs) => some (.lst xs) | some (.frz o u) => some (.frz o u) | _ => none) else none
theorem scrF_some {H : Hp} {a b : Addr} {o : HO} (h : scrF H a b = some o) : b = a ∧ H b = some o ∧ isTb o = false := by
  unfold scrF at h
  split at h
  · rename_i e
    subst e
    split at h
    · rename_i q; cases h; exact ⟨rfl, q, rfl⟩
    · rename_i q; cases h; exact ⟨rfl, q, rfl⟩
    · cases h
  · cases h
theorem scrF_sq {K : PySem.W.Frag} {H : Hp} {a : Addr} {xs : List V} (h : SqL K H a xs) : SqL K (scrF H a) a xs := by
  rcases h with (h | ⟨o, h⟩) | h
  · refine .inl (.inl ?_)
    unfold scrF
    rw [if_pos rfl, h]
  · refine .inl (.inr ⟨o, ?_⟩)
    unfold scrF
    rw [if_pos rfl, h]
  · exact .inr h
theorem law_fin {K : Fg} {mg : Str → Option Value} {H F : Hp} {a : Addr} {ns : List Int} (hl : ns.length ≤ 63) (sF : Sub F H) (t1 : ∀ p ∈ K.T, F p.1 = some (.tbl #[.str p.2 0])) (t2 : ∀ b m, F b = some (.tbl m) → ∃ q, (b, q) ∈ K.T ∧ m = #[.str q 0]) (hF : SqL K.K F a (ns.map V.int)) :
    spOf K mg 1 cLaw [.ref a] H (fun v _ => v = .bl true) fun _ _ _ => False := by
  refine ⟨[.scr (ns.map .int)], [], F, [], fun d _ => d = .bl true, fun _ _ => False, rfl, ⟨sF, t1, t2, rfl, .nil, fun _ _ _ h => by simp at h⟩, .cons (.scr hF (Rps.ofInts ns)) .nil, ⟨ns, rfl, hl, rfl, fun _ => rfl⟩, fun F' ads' S' H' d v _ _ r h => ?_, fun _ _ _ _ _ _ _ h => h⟩
  subst h
  cases r
  rfl
theorem scrF_sub {H : Hp} {a : Addr} : Sub (scrF H a) H := fun b o h => by
  obtain ⟨rfl, e, t⟩ := scrF_some h
  cases o with
  | tbl m => cases t
  | _ => exact e
/-- .. with one table of code objects -/
theorem law_spT {K : PySem.W.Frag} {mg : Str → Option Value} {H : Hp} {a P : Addr} {q : Str} {ns : List Int} (hl : ns.length ≤ 63) (hS : SqL K H a (ns.map V.int)) (hP : H P = some (.tbl #[])) (hK : K.lookup P = none) : spOf ⟨K, [(P, q)]⟩ mg 1 cLaw [.ref a] H (fun v _ => v = .bl true) fun _ _ _ => False := by
  have ne : P ≠ a := fun e => by
    subst e
    rcases hS with (h | ⟨o, h⟩) | ⟨o, _, _, h, _⟩
    · rw [hP] at h; cases h
    · rw [hP] at h; cases h
    · rw [hK] at h; cases h
  refine law_fin (K := ⟨K, [(P, q)]⟩) (F := upd (scrF H a) P (.tbl #[.str q 0])) hl (fun b o h => ?_) (fun p hp => ?_) (fun b m h => ?_) ?_
  · by_cases e : b = P
    · subst e
      rw [upd_same] at h
      cases h
      exact ⟨q, 0, rfl, LamX.TabS.nil hP⟩
    · rw [upd_ne e] at h
      exact scrF_sub b o h
  · have e : p = (P, q) := by simpa using hp
    subst e
    exact upd_same
  · by_cases e : b = P
    · subst e
      rw [upd_same] at h
      cases h
      exact ⟨q, by simp, rfl⟩
    · rw [upd_ne e] at h
      obtain ⟨_, _, t⟩ := scrF_some h; cases t
  · rcases scrF_sq hS with (h | ⟨o, h⟩) | h
    · exact .inl (.inl (by rw [upd_ne (fun e => ne e.symm)]; exact h))
    · exact .inl (.inr ⟨o, by rw [upd_ne (fun e => ne e.symm)]; exact h⟩)
    · exact .inr h
/-! #### DL9 -/
/-! The D layer, part 9: enumerate of a tuple or a list. -/
open AutoSeq1 (wpAny_loadPart')
theorem meets_enumerate_newT (l : Addr) (items : Array Value) (n : Nat) (dct : Option Addr) (sl : Array (Option Value)) :
    Meets (Builtin.«enumerate.__new__» ⟨[.type "enumerate", .ref l], []⟩) (fun _ R s => s.heap.get? l = some { cls := .type "tuple", dict := dct, data := .seq items n, slots := sl } ∧
      R (.ok (.ret (.ref (s.heap.push { cls := .type "tuple_iterator", data := .fields #[.ref l, .int 0 0] }).objs.size)))
        { s with heap := (s.heap.push { cls := .type "tuple_iterator", data := .fields #[.ref l, .int 0 0] }).push { cls := .type "enumerate", data := .fields #[.none, .bool false, .ref s.heap.objs.size, rawInt 0, .none, .none] } }) :=
  .of_wp fun prog w A R s h => by
    obtain ⟨hp, g, d, tk, os⟩ := s; obtain ⟨hl, h⟩ := h
    have hsub := sub_enumerate
    have hL : Heap.IsTuple (Shared.heap ⟨hp, g, d, tk, os⟩) l items := ⟨_, hl, rfl, n, rfl⟩
    wp_walk using wpAny_loadPart' hl
    refine wpAny_stack_any fun st => wpAny_pure ?_
    split
    · rename_i c _ _ _ _ _
      cases (c == Value.type "enumerate")
      · wp_walk using wpAny_loadPart' hl, wpAny_pyIter_tuple hL
        exact ⟨_, rfl, h⟩
      · wp_walk using wpAny_loadPart' hl, wpAny_pyIter_tuple hL
        exact ⟨_, rfl, h⟩
    · wp_walk using wpAny_loadPart' hl, wpAny_pyIter_tuple hL
      exact ⟨_, rfl, h⟩
theorem call_enumerate_tuple {prog : Program} {w : World} {A : Around} {E : Value → Shared → Prop} {s : Shared} {l : Addr} {items : Array Value} {Q : Value → Shared → Prop} (hL : s.heap.IsTuple l items)
    (h : ∀ h', IsEnum h' (s.heap.objs.size + 1) s.heap.objs.size 0 .none → h'.IsTupleIter s.heap.objs.size l 0 → h'.objs.size = s.heap.objs.size + 2 →
      (∀ b o, s.heap.get? b = some o → h'.get? b = some o) → Q (.ref (s.heap.objs.size + 1)) { s with heap := h' }) :
    wpAny (model prog w) A (call (.type "enumerate") [.ref l]) Q E s := by
  obtain ⟨⟨c, dct, dt, sl⟩, hl, hc, n, hd⟩ := hL
  replace hc : c = .type "tuple" := hc
  replace hd : dt = .seq items n := hd
  subst hc hd
  refine callType_new F.called_enumerate (by decide) (F.typeCall_enumerate_1 _) (F.newCall_enumerate_1 _) (fun obj => F.args_object_init_2 obj _) F.entry_enumerate_new
    (meets_enumerate_newT l items n dct sl) ⟨hl, ?_⟩
  have hz : (s.heap.push { cls := .type "tuple_iterator", data := .fields #[.ref l, .int 0 0] }).objs.size = s.heap.objs.size + 1 := Heap.size_push ..
  show _ ∧ _
  rw [hz]
  have he : IsEnum ((s.heap.push { cls := .type "tuple_iterator", data := .fields #[.ref l, .int 0 0] }).push
      { cls := .type "enumerate", data := .fields #[.none, .bool false, .ref s.heap.objs.size, rawInt 0, .none, .none] }) (s.heap.objs.size + 1) s.heap.objs.size 0 .none := by
    have := Heap.get?_push_size (s.heap.push { cls := .type "tuple_iterator", data := .fields #[.ref l, .int 0 0] })
      (o := { cls := .type "enumerate", data := .fields #[.none, .bool false, .ref s.heap.objs.size, rawInt 0, .none, .none] }) rfl
    rw [hz] at this; exact this
  refine ⟨⟨_, he, rfl⟩, h _ he ⟨_, Heap.get?_push_of_some _ (Heap.get?_push_size _ rfl), rfl, rfl⟩ (by rw [Heap.size_push, hz]) fun b o x => Heap.get?_push_of_some _ (Heap.get?_push_of_some _ x)⟩
theorem pyNext_enumT_end {prog : Program} {w : World} {A : Around} {E : Value → Shared → Prop} {s : Shared} {e it l : Addr} {i : Nat} {items : Array Value} {old : Value} {Q : Option Value → Shared → Prop} (hh : A.handled = none)
    (he : IsEnum s.heap e it i old) (hit : s.heap.IsTupleIter it l i) (hl : s.heap.IsTuple l items) (hx : items[i]? = none)
    (hQ : ∀ h', Heap.ExtBut it s.heap h' → Q none { s with heap := h' }) : wpAny (model prog w) A (pyNext (.ref e)) Q E s := by
  have hT : s.TypeIs (.ref e) "enumerate" := ⟨_, he, rfl⟩
  unfold pyNext
  refine wpAny_bind (wpAny_attempt (wpAny_callSpecial?_slot (name := Str.ofString "__next__") hT F.slot_enumerate_next
    (wpAny_call_entry F.slot_enumerate_next hT F.entry_enumerate_next ?_ (F.args_enumerate_next_1 _))))
  show wpAny _ _ (field (.ref e) 2 >>= _) _ _ _
  refine wpAny_bind (wpAny_field he rfl (x := .ref it) rfl ?_)
  refine wpAny_bind (wpAny_nextOf_tuple_end hh hit hl hx fun h' x he' hx' => ?_)
  obtain ⟨o, ho, hc⟩ := hx'
  refine wpAny_bind (wpAny_isInstance (T := "StopIteration") (b := true) ⟨o, ho, hc⟩ isSubtype_stop ?_)
  exact wpAny_pure (hQ _ he')
/-- the tuple at a, the items in new pairs with their places -/
def IteT (K : PySem.W.Frag) (a : Addr) : It :=
  ⟨fun i H => ∃ (xs : List V) (x : V), SqT K H a xs ∧ xs[i]? = some x, fun i H v H' => ∃ T x, v = .ref T ∧ H T = none ∧ H' = upd H T (.tup [.int (i : Nat), x]) ∧ ∀ xs, SqT K H a xs → xs[i]? = some x, fun i H => ∃ xs, SqT K H a xs ∧ xs.length ≤ i⟩
theorem turn_enumT {P : Program} {w : World} {K : PySem.W.Frag} {elts : List Expr} {kk : Nat} {tpos : Pos} (a e it : Addr) (hei : e ≠ it) (hia : it ≠ a) (hea : e ≠ a) :
    Turn P w K (.Tuple elts kk tpos) (IteT K a) [e, it] e (fun i h => (∃ old, IsEnum h e it ((i : Nat) : Int) old) ∧ h.IsTupleIter it a i ∧ e ≠ it) where
  mem := by simp
  obj := fun i h st b hb => by
    obtain ⟨⟨old, he⟩, ⟨o, ho, hc, hd⟩, _⟩ := st
    have e' : b = e ∨ b = it := by simpa using hb
    rcases e' with z | z
    · rw [z]; exact ⟨_, he, fun v q => nomatch q⟩
    · rw [z]; exact ⟨o, ho, fun v q => by rw [hd] at q; cases q⟩
  keep := fun i h h' st k => let ⟨⟨old, he⟩, hi, hne⟩ := st; ⟨⟨old, k e (by simp) _ he⟩, hi.at fun o q => k it (by simp) o q, hne⟩
  item := by
    intro X hP hw hK hc i pins s σ H E I hf st hg
    subst hP hw hK
    obtain ⟨⟨old, he⟩, hit, hne⟩ := st
    obtain ⟨xs, x, hq, hx⟩ := hg
    obtain ⟨its, rv, p, hz⟩ := I.tuple hq
    obtain ⟨u, hu, ru⟩ := rv.get hx
    have hel : e < s.heap.objs.size := Heap.lt_size he
    have hil : it < s.heap.objs.size := by obtain ⟨_, q, _⟩ := hit; exact Heap.lt_size q
    have DD := Draws.tuple (prog := X.prog) (w := X.w) (A := X.A.in1) (I.ok.hd hc) it a (fun q => hia q.symm) its.toArray
    have hli : i < its.toArray.size := by
      have := (List.getElem?_eq_some_iff.mp hu).1
      simpa using this
    refine wpAny_pyNext_enum_itemC DD he ⟨hit, p⟩ hli hei (by simp [hei, hea]) fun y h' tk hPy ho hit' hT hsz hk => ?_
    have ey : y = u := by
      have : its.toArray[i]? = some u := by simpa using hu
      rw [this] at hPy
      exact (Option.some.inj hPy).symm
    subst ey
    refine ⟨_, rfl, wpAny_letOwnedTupleGo_enum (s := { s with heap := h', toks := tk + 1 }) ho fun h'' he' sb => ?_⟩
    have hT2 : h''.get? s.heap.objs.size = some { cls := .type "tuple", data := .seq #[.int i tk, y] } := (sb.2 _ (Nat.ne_of_gt hel)).trans hT
    have new : ObjOk X.prog X.w (upd H s.heap.objs.size (.tup [.int (i : Nat), x])) h'' s.heap.objs.size (.tup [.int (i : Nat), x]) :=
      ⟨by show 2 ≤ sizeLine; decide, [.int i tk, y], .cons ⟨_, rfl⟩ (.cons ru .nil), ⟨_, hT2, rfl, _, rfl⟩⟩
    have I1 : Inv X pins σ (upd H s.heap.objs.size (.tup [.int (i : Nat), x])) { s with heap := h'', toks := tk + 1 } :=
      I.turnedNew (ch := [e, it]) (fun b ob hb q => (sb.2 b (fun z => hb (by simp [z]))).trans (hk b ob (fun z => hb (by simp [z])) (fun z => hb (by simp [z])) q)) hf (Nat.le_refl _) new
    refine ⟨.ref s.heap.objs.size, _, I1, rfl, ⟨_, x, rfl, I.hok.fresh (Nat.le_refl _), rfl, fun ys hy => by rw [I.tuple_inj hy hq]; exact hx⟩, ⟨⟨y, ?_⟩, hit'.1.at fun o q => (sb.2 it (Ne.symm hne)).trans q, hne⟩, fun b hb => ?_⟩
    · have e1 : ((i + 1 : Nat) : Int) = (i : Int) + 1 := by omega
      rw [e1]; exact he'
    · have hb' : b < s.heap.objs.size := by
        have e' : b = e ∨ b = it := by simpa using hb
        rcases e' with z | z
        · rw [z]; exact hel
        · rw [z]; exact hil
      rw [upd_ne (Nat.ne_of_lt hb')]
      exact (hf b hb).1
  done := by
    intro X hP hw hK hc i pins s σ H E I hf st hg
    subst hP hw hK
    obtain ⟨⟨old, he⟩, hit, hne⟩ := st
    obtain ⟨xs, hq, hx⟩ := hg
    obtain ⟨its, rv, p, hz⟩ := I.tuple hq
    obtain ⟨f0, f1, f2, f3, f4, f5⟩ := hf it (by simp)
    have hl := rv.length
    exact pyNext_enumT_end (I.ok.hd hc) he hit p (by simp; omega) fun h' eb => ⟨rfl, I.turned (t' := s.toks) (fun b o hb q => eb b o hb q) f0 f1 f3 f4 f5⟩
  self := fun A i s Q E st h => let ⟨⟨_, he⟩, _⟩ := st; wpAny_pyIter_enum he h
def iEnumA (K : PySem.W.Frag) (ta : TA) : TI := fun σ H R => ta σ H fun vs H1 => ∃ a xs, vs = [.ref a] ∧ ((SqL K H1 a xs ∧ R (Ite K a) H1) ∨ (SqT K H1 a xs ∧ R (IteT K a) H1))
theorem pi_enumA {X : Cx} {e : Expr} {ta : TA} {p pos tpos : Pos} {elts : List Expr} {kk : Nat} (hg : Gl X "enumerate") (hm : X.mg "enumerate" = none) (ha : PA X [e] ta) (hs : starEach [e] X.env = [(false, eval e X.env)]) :
    PI X (.Tuple elts kk tpos) (.Call (.Name "enumerate" p) [e] [] pos) (iEnumA X.K ta) := by
  refine ⟨fun pins s σ H R I h => ?_⟩
  refine Call_ (ld_blt I hg hm boot_enumerate (PyProof.Rows.callWith_type1 (thn (ha.run pos pins s σ H _ I h) fun us s1 ⟨vs, H1, I1, r1, q1⟩ => ?_) hs rfl))
  obtain ⟨a, xs, ex, q⟩ := q1
  subst ex
  cases r1 with
  | cons r rr =>
    cases rr
    cases r
    have fp : ∀ b, b ∈ [s1.heap.objs.size + 1, s1.heap.objs.size] → FpOk X pins H1 b := fun b hb => by
      have e' : b = s1.heap.objs.size + 1 ∨ b = s1.heap.objs.size := by simpa using hb
      have hle : s1.heap.objs.size ≤ b := by
        rcases e' with z | z
        · rw [z]; exact Nat.le_add_right _ _
        · rw [z]; exact Nat.le_refl _
      exact I1.fpOk hle (I1.hok.fresh hle)
    rcases q with ⟨hq, q⟩ | ⟨hq, q⟩
    · obtain ⟨its, rv, p', hz⟩ := I1.list hq
      refine call_enumerate_list p'.isList fun h' he hit hsz hk => wpAny_pyIter_enum he ?_
      have I2 : Inv X pins σ H1 { s1 with heap := h' } := I1.kept (t' := s1.toks) hk
      exact ⟨s1.heap.objs.size + 1, [s1.heap.objs.size + 1, s1.heap.objs.size], _, _, H1, rfl, I2, turn_enum a (s1.heap.objs.size + 1) s1.heap.objs.size, ⟨⟨.none, he⟩, hit, Nat.succ_ne_self _⟩, fp, q⟩
    · obtain ⟨its, rv, p', hz⟩ := I1.tuple hq
      have hal : a < s1.heap.objs.size := by obtain ⟨o, ho, _⟩ := p'; exact Heap.lt_size ho
      refine call_enumerate_tuple p' fun h' he hit hsz hk => wpAny_pyIter_enum he ?_
      have I2 : Inv X pins σ H1 { s1 with heap := h' } := I1.kept (t' := s1.toks) hk
      exact ⟨s1.heap.objs.size + 1, [s1.heap.objs.size + 1, s1.heap.objs.size], _, _, H1, rfl, I2, turn_enumT a (s1.heap.objs.size + 1) s1.heap.objs.size (Nat.succ_ne_self _) (Nat.ne_of_gt hal) (Nat.ne_of_gt (Nat.lt_succ_of_lt hal)), ⟨⟨.none, he⟩, hit, Nat.succ_ne_self _⟩, fp, q⟩
def enumD (xs : List D) : List D := xs.zipIdx.map fun p => .tup [.int (p.2 : Nat), p.1]
theorem enum_get {xs : List D} {i : Nat} {d : D} (h : (enumD xs)[i]? = some d) : ∃ x, xs[i]? = some x ∧ d = .tup [.int (i : Nat), x] := by
  unfold enumD at h
  rw [List.getElem?_map, List.getElem?_zipIdx] at h
  cases e : xs[i]? with
  | none => rw [e] at h; cases h
  | some x =>
    rw [e] at h
    refine ⟨x, rfl, ?_⟩
    have := (Option.some.inj h).symm
    simpa using this
theorem enum_len {xs : List D} : (enumD xs).length = xs.length := by unfold enumD; simp
def wEnum (a : WE) : WI := fun env S Q X => a env S (fun d S1 => ∃ xs, seqOf S1 d = some xs ∧ Q (enumD xs) (srcOf d xs) S1) X
def DI.enum (a : DE) : DI where
  mt c tg e := isTup tg && match e with
    | .Call (.Name x _) [y] [] _ => x == "enumerate" && glB c "enumerate" && noStar y && a.mt c y
    | _ => false
  wp := wEnum a.wp
  rq Z := Z.mg "enumerate" = none ∧ a.rq Z
  ok X W T tg e h g q := by
    simp only [Bool.and_eq_true] at h
    obtain ⟨ht, h⟩ := h
    cases tg with
    | Tuple elts kk tpos =>
      split at h
      · simp only [Bool.and_eq_true, beq_iff_eq] at h
        obtain ⟨⟨⟨rfl, h1⟩, h2⟩, h3⟩ := h
        refine PI.imp (pi_enumA (gl_of h1) q.1 (pa_cons (a.ok X W T _ h3 g q.2) pa_nil (starEach_cons h2)) (starEach_cons h2)) fun σ H R ⟨env, S, F, ads, Qd, Xd, er, sm, hw, kv, kx⟩ => ?_
        refine ⟨env, S, F, ads, _, Xd, er, sm, hw, fun F1 ads1 S1 H1 d v x1 s1 r1 h1 => ?_, kx⟩
        obtain ⟨xs, hs, hq⟩ := h1
        unfold seqOf at hs
        split at hs
        · rename_i ht
          cases hs
          rw [tupOf_eq ht] at r1 hq
          cases r1 with
          | tup f1 g1 =>
            refine ⟨_, _, rfl, .inr ⟨Sub.tup s1.sub f1, kv _ _ _ _ _ _ _ x1 s1 ?_ hq⟩⟩
            intro F3 ads3 S3 H3 f3 p3 s3 so
            have q1 := Sub.tup s3.sub (Same.tup f3 f1)
            have g1 := g1.mono f3 p3
            refine ⟨fun i d hd => ?_, fun i hi => ⟨_, q1, by rw [← g1.length, ← enum_len (xs := xs)]; exact hi⟩⟩
            obtain ⟨x, ex, rfl⟩ := enum_get hd
            obtain ⟨u, hu, ru⟩ := g1.get ex
            refine ⟨⟨_, u, q1, hu⟩, fun z H4 hy => ?_⟩
            obtain ⟨T, u', rfl, hT, rfl, k1⟩ := hy
            have := k1 _ q1; rw [hu] at this; cases this
            exact new_pair s3 hT (.int _) ru
        · obtain ⟨a1, rfl, l1⟩ := lst_later r1 hs
          obtain ⟨us, hu, gu⟩ := l1 _ _ _ _ (Same.refl _) (fun _ _ h => h) s1 (src_now hs)
          refine ⟨a1, us, rfl, .inl ⟨hu, kv _ _ _ _ _ _ _ x1 s1 ?_ hq⟩⟩
          intro F3 ads3 S3 H3 f3 p3 s3 so
          obtain ⟨us, q1, g1⟩ := l1 _ _ _ _ f3 p3 s3 so
          refine ⟨fun i d hd => ?_, fun i hi => ⟨_, q1, by rw [← g1.length, ← enum_len (xs := xs)]; exact hi⟩⟩
          obtain ⟨x, ex, rfl⟩ := enum_get hd
          obtain ⟨u, hu, ru⟩ := g1.get ex
          refine ⟨⟨_, u, q1, hu⟩, fun z H4 hy => ?_⟩
          obtain ⟨T, u', rfl, hT, rfl, k1⟩ := hy
          have := k1 _ q1; rw [hu] at this; cases this
          exact new_pair s3 hT (.int _) ru
      · cases h
    | _ => cases ht
/-! #### DL10 -/
/-! The D layer, part 10: sorted(rows, key=lambda row: abs(row[place])). -/
def isLamParams : Arguments → Bool
  | ⟨[], [⟨x, none, _⟩], none, [], [], none, []⟩ => x == "row"
  | _ => false
def isLamBody : Expr → Bool
  | .Call (.Name f _) [.Subscript (.Name x _) (.Name y _) _] [] _ => f == "abs" && x == "row" && y == "place"
  | _ => false
def isLamScope (sc : Scope) : Bool := decide (sc.kind = .function) && !sc.isCoroutine && !sc.isGenerator && (sc.names.all fun y => !decide (y.2 = .cell)) &&
  decide (sc.names.lookup ("row" : Str) = some .local) && decide (sc.names.lookup ("place" : Str) = some .free) && decide (sc.names.lookup ("abs" : Str) = some .globalImplicit) && (sc.names.all fun y => !decide (y.2 = .free) || decide (y.1 = ("place" : Str)))
theorem clo_at {cells : List (Str × Addr)} {names : List (Str × NameKind)} {x : Str} {c : Addr} (h : names.lookup x = some .free) (hc : cells.lookup x = some c) : (cloFrom cells names []).lookup x = some c := by
  obtain ⟨c', e⟩ := mem_lookup (cloFrom_has (cells := cells) (acc := []) (PySem.mem_of_lookup h))
  rcases cloFrom_mem (PySem.mem_of_lookup e) with hm | ⟨_, h2⟩
  · cases hm
  · rw [e, h2, hc]; rfl
/-- the lambda's own run -/
theorem lam_run {prog : Program} {w : World} {A : Around} {s : Shared} {mg mb : Str → Option Value} {q : Str} {params : Arguments} {body : Expr} {scope : Scope} {cells : List (Str × Addr)} {pm ctv : Value} {f c' cp t : Addr} {its : Array Value} {pl key : Int} {tp tk : Tok} {j : Nat}
    (hp : isLamParams params = true) (hb : isLamBody body = true) (hs : isLamScope scope = true) (hf : s.heap.get? f = some (PySem.W.kla_obj "<lambda>" q params body scope (cloFrom cells scope.names []) pm c' ctv)) (hcd : s.heap.CodeRec (.ref c') q) (hroom : A.depth < recursionLimit)
    (hg : s.heap.Ns mainGlobals mg) (hgm : mg "abs" = none) (hbn : s.heap.Ns builtinsNs mb) (hbm : mb "abs" = some (.builtin "abs")) (hlim : s.heap.NoLimit)
    (hcp : cells.lookup ("place" : Str) = some cp) (hcell : s.heap.IsCell cp (some (.int pl tp))) (ht : IsTup s.heap t its) (hj : seqIndex? pl its.size = some j) (h1 : -(2 ^ 63) ≤ pl) (h2 : pl < 2 ^ 63) (hx : its[j]? = some (.int key tk)) :
    wpAny (model prog w) A (call (.ref f) [.ref t]) (PySem.W.KeyPure (.int (key.natAbs : Int)) s) (fun _ _ => False) s := by
  unfold isLamScope at hs
  simp only [Bool.and_eq_true, Bool.not_eq_true', decide_eq_true_eq, List.all_eq_true, decide_eq_false_iff_not] at hs
  obtain ⟨⟨⟨⟨⟨⟨⟨k1, k2⟩, k3⟩, k4⟩, k5⟩, k6⟩, k7⟩, _⟩ := hs
  unfold isLamBody at hb
  split at hb
  rotate_left
  · cases hb
  rename_i fn p1 x p2 y p3 p4 p5
  simp only [Bool.and_eq_true, beq_iff_eq] at hb
  obtain ⟨⟨rfl, rfl⟩, rfl⟩ := hb
  unfold isLamParams at hp
  split at hp
  rotate_left
  · cases hp
  rename_i xn pp
  simp only [beq_iff_eq] at hp
  subst hp
  refine wpAny_call (PySem.W.kla_callFunE hroom hf rfl k2 k3 rfl hcd ?_)
  have hbind : bindArgs (PySem.W.kla_fn "<lambda>" q ⟨[], [⟨"row", none, pp⟩], none, [], [], none, []⟩ (.Call (.Name "abs" p1) [.Subscript (.Name "row" p2) (.Name "place" p3) p4] [] p5) scope (cloFrom cells scope.names []) pm (.ref c') ctv) ⟨[Value.ref t], []⟩ = pure [(("row" : Str), Value.ref t)] := rfl
  show wpAny _ _ (bindArgs _ ⟨[Value.ref t], []⟩) _ _ _
  rw [hbind]
  refine wpAny_pure (wpAny_newFunctionEnv (fun x hx => k4 x hx) (fun x hx => by simp at hx; subst hx; exact k5) (fun h₁ hns hsb => ⟨hlim.fresh _ hsb, ?_⟩) k1)
  have kp : ∀ b o, s.heap.get? b = some o → h₁.get? b = some o := fun b o e => hsb.extBut b o (Nat.ne_of_lt (Heap.lt_size e)) (Heap.get?_push_of_some _ e)
  generalize henv : newEnv scope s.heap.objs.size mainGlobals (cloFrom cells scope.names []) (q ++ ".<locals>.") (some f) (.ref c') none builtinsNs = env
  have es : env.scope = scope := by rw [← henv]; rfl
  have eg : env.globals = mainGlobals := by rw [← henv]; rfl
  have eb : env.builtins = builtinsNs := by rw [← henv]; rfl
  have ec : env.cells = cloFrom cells scope.names [] := by rw [← henv]; rfl
  have el : env.locals = s.heap.objs.size := by rw [← henv]; rfl
  have ek : env.scope.kind = .function := by rw [es]; exact k1
  refine PySem.W.kla_codeExpr ?_
  refine wpAny_mono (Q := fun v s' => PySem.W.KeyPure (.int (key.natAbs : Int)) s v s') (E := fun _ _ => False) ?_ (fun v s' hk => hk) fun _ _ z => z.elim
  have r1 : env.kindOf "row" = some .local := by unfold Env.kindOf; rw [es]; exact k5
  have r2 : env.kindOf "place" = some .free := by unfold Env.kindOf; rw [es]; exact k6
  have r3 : env.kindOf "abs" = some .globalImplicit := by unfold Env.kindOf; rw [es]; exact k7
  refine wpAny_Call_Name_kw (Calls.Name_function_global ek r3 (Calls.loadGlobal_builtin (by rw [eg]; exact hg.keeps kp) hgm (by rw [eb]; exact hbn.keeps kp) hbm ?_) (by decide))
  refine PyProof.Rows.callWith_builtin1 ?_ rfl rfl
  refine Calls.spliced_cons (Subscript_ (wpAny_Name (wpAny_loadName_local ek r1 (by rw [el]; exact hns) (v := .ref t) (by simp) ?_) (by decide)))
  refine wpAny_Name (wpAny_loadName_free ek r2 (by rw [ec]; exact clo_at k6 hcp) (hcell.keeps kp) ?_ (by decide)) (by decide)
  have ht' : IsTup h₁ t its := by
    obtain ⟨o, ho, hc, n, hd⟩ := ht
    exact ⟨o, kp _ _ ho, hc, n, hd⟩
  refine subscriptTail_builtinR (x := .int key tk) ht'.typeIs slot_tuple_getitem.lookup (getItem_tuple (j := j) ht' h1 h2 hj hx ⟨rfl, ?_⟩) (by with_unfolding_all rfl)
  refine Calls.spliced_nil ?_
  refine call_abs_int fun u tk' => ⟨h₁, _, rfl, kp, ?_⟩
  have e : (if key < 0 then -key else key) = ((key.natAbs : Nat) : Int) := by split <;> omega
  rw [e]
  exact .int _ _
def keyD (pl : Int) : D → Int
  | .tup row => match atI row pl with
    | some (.int k) => (k.natAbs : Int)
    | _ => 0
  | _ => 0
/-- the rows by the size of one entry, equal ones as they stood -/
def sortD (pl : Int) (ds : List D) : List D := ds.mergeSort fun x y => decide (keyD pl x ≤ keyD pl y)
def wSrt (i : Nat) (a : WE) : WL := fun env S Q X => a env S (fun d S1 => ∃ ds pl, lstOf S1 d = some ds ∧ env[i]? = some (some (.int pl)) ∧ (∀ e ∈ ds, ∃ row k, e = .tup row ∧ atI row pl = some (.int k)) ∧ Q (sortD pl ds) S1) X
def srtB (i : Nat) (a : DE) (c : Sc) : Expr → Bool
  | .Call (.Name f _) [x] [⟨some k, .Lambda ps b sc _, _⟩] _ => f == "sorted" && glB c "sorted" && noStar x && a.mt c x && k == "key" && isLamParams ps && isLamBody b && isLamScope sc && c.N[i]? == some ("place" : Str) && (c.sc.names.lookup ("place" : Str) == some .cell)
  | _ => false
theorem each_of {K : Fg} {F : Hp} {ads : List Addr} : ∀ {ds : List D} {vs : List V} {us : List Value}, Rps K F ads ds vs → Vals vs us → PySem.W.EachIs (fun u (p : D × V) => RelV p.2 u ∧ Rp K F ads p.1 p.2) us (ds.zip vs)
  | _, _, _, .nil, .nil => .nil
  | _, _, _, .cons r t, .cons q u => .cons ⟨q, r⟩ (each_of t u)
theorem of_each {K : Fg} {F : Hp} {ads : List Addr} : ∀ {us : List Value} {bs : List (D × V)}, PySem.W.EachIs (fun u (p : D × V) => RelV p.2 u ∧ Rp K F ads p.1 p.2) us bs → Vals (bs.map (·.2)) us ∧ Rps K F ads (bs.map (·.1)) (bs.map (·.2))
  | _, _, .nil => ⟨.nil, .nil⟩
  | _, _, .cons h t => ⟨.cons h.1 (of_each t).1, .cons h.2 (of_each t).2⟩
def DL.srt (i : Nat) (a : DE) : DL where
  mt c e := srtB i a c e
  wp := wSrt i a.wp
  rq Z := Z.mg "sorted" = none ∧ Z.mg "abs" = none ∧ (∃ c P, Z.code = .ref c ∧ LamX.TabB Z.base Z.mg c P ∧ Z.T = [(P, Z.qual ++ "<lambda>")]) ∧ a.rq Z
  ok X W T e h g q := by
    unfold srtB at h
    split at h
    rotate_left
    · cases h
    rename_i f p1 x k ps b sc lp kp pos
    simp only [Bool.and_eq_true, beq_iff_eq] at h
    obtain ⟨⟨⟨⟨⟨⟨⟨⟨⟨rfl, h1⟩, h2⟩, h3⟩, rfl⟩, h4⟩, h5⟩, h6⟩, h7⟩, h8⟩ := h
    obtain ⟨q1, q2, ⟨cc, PP, qc, TB, qT⟩, q3⟩ := q
    have qT : T = [(PP, X.env.qual ++ "<lambda>")] := qT
    refine ⟨fun pins s σ H Q I h => ?_⟩
    obtain ⟨env, S, F, ads, Qd, Xd, er, sm, hw, kv, kx⟩ := h
    have pa : PA X [x] (tCons (tE (kt X T) X.mg W a.wp) tNil) := pa_cons (a.ok X W T x h3 g q3) pa_nil (starEach_cons h2)
    have hst : starEach [x] X.env = [(false, eval x X.env)] := starEach_cons h2
    refine wpAny_Call_Name_kw (ld_blt (u := .builtin "sorted") I (gl_of h1) q1 (by decide +kernel) ?_ (by decide) (by decide))
    refine PyProof.Rows.callWith_kw (thn (pa.run pos pins s σ H (fun vs H1 => ∃ F1 ads1 S1 d v, vs = [v] ∧ Ext F ads H F1 ads1 H1 ∧ Sim (kt X T) F1 ads1 S1 H1 ∧ Rp (kt X T) F1 ads1 d v ∧ ∃ ds pl, lstOf S1 d = some ds ∧ env[i]? = some (some (.int pl)) ∧ (∀ e ∈ ds, ∃ row k, e = .tup row ∧ atI row pl = some (.int k)) ∧ Qd (sortD pl ds) S1) I
      ⟨env, S, F, ads, _, Xd, er, sm, hw, fun F1 ads1 S1 H1 d v x1 s1 r1 h1 => ⟨F1, ads1, S1, d, v, rfl, x1, s1, r1, h1⟩, kx⟩) fun us s1 ⟨vs, H1, I1, r1, F1, ads1, S1, d, v, ev, x1, sm1, rd, ds, pl, hds, hpl, hall, hq⟩ => ?_) (by rw [hst]; rfl) (by rw [hst]; rfl) rfl rfl
    subst ev
    obtain ⟨u, rfl, ru⟩ : ∃ u, us = [u] ∧ RelV v u := vals1 r1
    obtain ⟨l, vs, rfl, hsq, rvs⟩ := lst_sq sm1 rd hds
    have ru : u = .ref l := ru
    subst ru
    have er1 := er.ext x1
    -- the place
    obtain ⟨vp, hvp, rp⟩ := er1.get i _ hpl
    cases rp
    have vis : Vis X.env.scope "place" := .inr (.inl (by simpa using h8))
    show wpAny _ _ (evalAll [(do let v ← eval (.Lambda ps b sc lp) X.env; standAt pos; pure v)]) _ _ s1
    have h6' := h6
    unfold isLamScope at h6'
    simp only [Bool.and_eq_true, Bool.or_eq_true, Bool.not_eq_true', decide_eq_true_eq, List.all_eq_true, decide_eq_false_iff_not] at h6'
    obtain ⟨⟨⟨⟨⟨⟨⟨j1, j2⟩, j3⟩, j4⟩, j5⟩, j6⟩, j7⟩, j8⟩ := h6'
    have tabs : LamX.Tabs T H1 := fun p hp => by
      obtain ⟨q', t', e1, e2⟩ := sm1.sub _ _ (sm1.tab p hp)
      have e1' : (#[Value.str p.2 0] : Array Value) = #[Value.str q' t'] := e1
      have : p.2 = q' := by
        have := congrArg (fun z : Array Value => z[0]?) e1'
        simpa using (by simpa using this : p.2 = q' ∧ _).1
      rw [this]; exact e2
    have hdef : defaultsOf ps X.env = ([], []) := by
      unfold isLamParams at h4
      split at h4
      · rfl
      · cases h4
    refine wpAny_evalAll_cons (wpAny_bind (LamX.lam_make2 (T := T) I1 TB qc (by rw [qT]; simp) (fun p hp e => by rw [qT] at hp; simp at hp; rw [hp]) tabs hdef (fun y hy e => ?_) fun f c' pm ctv H2 s2 I2 hE hT2 hf hfn hfr hc => wpAny_bind (wpAny_standAt (wpAny_pure (wpAny_evalAll_nil ?_)))))
    · rcases j8 y hy with z | z
      · exact absurd e z
      · rw [z]; exact I1.ok.has _ (.inl h8)
    show wpAny _ _ (call (.builtin "sorted") [.ref l] [(Str.ofString "key", .ref f)]) _ _ s2
    -- the state behind the making
    have keep : ∀ b o, H1 b = some o → isTb o = false → H2 b = some o := fun b o e t => hE b o e fun ps z => by rw [z] at t; cases t
    have sm2 : Sim (kt X T) F1 ads1 S1 H2 := by
      refine ⟨fun b o e => ?_, sm1.tab, sm1.tb2, sm1.len, sm1.nd, fun i a o ha ho => ?_⟩
      · have z := sm1.sub b o e
        cases o with
        | tbl m => obtain ⟨q', hm, rfl⟩ := sm1.tb2 b m e; exact ⟨q', 0, rfl, hT2 (b, q') hm⟩
        | _ => exact keep b _ z rfl
      · have z := sm1.ob i a o ha ho
        obtain ⟨u, hu⟩ := z.there
        refine z.keep (Same.refl _) (fun _ _ h => h) ?_ id
        rw [hu]
        refine keep a u hu ?_
        cases u with
        | tbl m => exact absurd hu (z.noCode.2 m)
        | _ => rfl
    have x2 : Ext F1 ads1 H1 F1 ads1 H2 := ⟨Same.refl _, fun _ _ h => h, fun _ h => .inl h, fun b o e _ t => keep b o e t, fun _ _ _ _ _ z => z⟩
    obtain ⟨l', vs', e', hsq2, rvs2⟩ := lst_sq sm2 rd hds
    cases e'
    obtain ⟨its, rv, pl2, hz⟩ := I2.list hsq2
    obtain ⟨m, hn, hloc⟩ := I2.loc
    obtain ⟨up, rup, lk⟩ := hloc i "place" _ h7 hvp vis
    obtain ⟨tp, rfl⟩ : ∃ t, up = Value.int pl t := rup
    obtain ⟨cp, hcp, hcell⟩ : ∃ c, X.env.cells.lookup ("place" : Str) = some c ∧ s2.heap.IsCell c (some (.int pl tp)) := by
      rcases lk with ⟨k', _⟩ | ⟨_, c, e1, e2⟩
      · have k' : X.env.scope.names.lookup ("place" : Str) = some .local := k'
        rw [show X.env.scope.names.lookup ("place" : Str) = some .cell by simpa using h8] at k'
        cases k'
      · exact ⟨c, e1, e2⟩
    have hcd : s2.heap.CodeRec (.ref c') (X.env.qual ++ "<lambda>") := by
      obtain ⟨⟨oc, ws, t, e1, e2, e3⟩, _⟩ := I2.hok c' _ hc
      exact ⟨c', oc, ws, t, rfl, e1, e2, e3⟩
    obtain ⟨mb, hb1, hb2⟩ := I2.mod.blt
    have each := each_of rvs2 rv
    have zl : (ds.zip vs').length = vs'.length := by rw [List.length_zip, rvs2.length, Nat.min_self]
    refine PySem.W.sorted_key_data (b := false) (fun p : D × V => .int (keyD pl p.1)) pl2.isList each (PySem.W.AllAlike.of fun _ _ => by simp [PySem.W.alike]) (.inr fun d hd => ?_) (by rw [zl]; exact hz) (fun p _ => ?_) (ksk_s1 _ _) (fun _ => ksk_l1 _ _) (fun _ => ksk_t1 _ _) (fun w p hp hm h tk kp => ?_) fun out c h' tk kp _ hD hlen eo => ?_
    · obtain ⟨p, _, rfl⟩ := List.mem_map.mp hd
      exact ⟨by simp, fun xs z => by cases z⟩
    · have := g.un
      simp only [PyData.depth]
      omega
    · -- the key of one row
      obtain ⟨hw1, hw2⟩ := hp
      obtain ⟨row, kk, e1, e2⟩ := hall p.1 (List.of_mem_zip hm).1
      rw [e1] at hw2
      cases hp2 : p.2 with
      | ref t =>
        rw [hp2] at hw1 hw2
        have hw1 : w = .ref t := hw1
        subst hw1
        cases hw2 with
        | tup ht rr =>
          obtain ⟨its2, rv2, pt, hz2⟩ := I2.tuple (Sub.tup sm2.sub ht)
          obtain ⟨z, hz3, rz⟩ := atI_rp rr e2
          cases rz
          obtain ⟨j, g1, g2, g3, g4, g5⟩ := atI_get hz3
          obtain ⟨wz, hwz, rwz⟩ := rv2.get g2
          obtain ⟨tk2, rfl⟩ : ∃ t, wz = Value.int kk t := rwz
          have l63 := line63
          have ek : keyD pl p.1 = (kk.natAbs : Int) := by rw [e1]; unfold keyD; simp only [e2]
          rw [ek]
          have hrm : (X.A.in1.in1).depth < recursionLimit := by have := g.dp; show X.A.depth < recursionLimit; omega
          exact lam_run (s := { s2 with heap := h, toks := tk }) (mg := X.mg) (mb := mb) h4 h5 h6 (kp _ _ hf) (by obtain ⟨a1, a2, a3, a4, b1, b2, b3, b4⟩ := hcd; exact ⟨a1, a2, a3, a4, b1, kp _ _ b2, b3, b4⟩) hrm
            ((I2.mod.glob.keeps I2.bk).keeps kp) q2 ((hb1.keeps I2.bk).keeps kp) ((hb2 _ (by decide)).trans (by decide +kernel)) (I2.nolimit.keeps kp) hcp (hcell.keeps kp) (by obtain ⟨o, o1, o2, n, o3⟩ := pt; exact ⟨o, kp _ _ o1, o2, n, o3⟩)
            (by rw [List.size_toArray, ← rv2.length]; exact g1) (by omega) (by omega) (by simpa using hwz)
      | _ => rw [hp2] at hw2; cases hw2
    · -- the new list
      rw [PySem.W.dataLe_int (β := D × V) (fun p => keyD pl p.1)] at eo
      obtain ⟨o1, o2⟩ := of_each eo
      have esrt : ((ds.zip vs').mergeSort fun a b => decide (keyD pl a.1 ≤ keyD pl b.1)).map (·.1) = sortD pl ds := by
        unfold sortD
        rw [List.map_mergeSort (s := fun x y => decide (keyD pl x ≤ keyD pl y)) (fun a _ b _ => rfl), List.map_fst_zip (by rw [rvs2.length]; exact Nat.le_refl _)]
      rw [esrt] at o2
      have nD : H2 (s2.heap.objs.size + 1) = none := I2.hok.fresh (Nat.le_succ _)
      refine ⟨.ref (s2.heap.objs.size + 1), _, I2.laid (t' := tk) (o := .lst _) (fun b u e => kp b u e) (Nat.le_succ _) ⟨?_, out, c, o1, hD⟩, rfl, kv _ _ _ _ _ _ _ (x1.trans x2) sm2 o2 nD hq⟩
      rw [o1.length, hlen, zl]; exact hz
/-! #### DL11 -/
/-! The D layer, part 11: what the words mean, for simp. -/
theorem z0 (i : Nat) : (DE.var i).wp = wVar i := rfl
theorem z1 (i : Nat) : (DE.frz i).wp = wFrz i := rfl
theorem z2 (d : D) : (DE.con d).wp = wC d := rfl
theorem z3 (x : Str) (i : Int) : (DE.glo x i).wp = wC (.int i) := rfl
theorem z4 : DA.nil.wp = wNil := rfl
theorem z5 (a : DE) (r : DA) : (DA.cons a r).wp = wCons a.wp r.wp := rfl
theorem z6 (o : Operator) (a b : DE) : (DE.op o a b).wp = w2 (opD o) a.wp b.wp := rfl
theorem z7 (a : DE) : (DE.neg a).wp = w1 oNeg a.wp := rfl
theorem z8 (o : CmpOp) (a b : DE) : (DE.cmp o a b).wp = w2 (cmD o) a.wp b.wp := rfl
theorem z9 (o : CmpOp) (a b : DE) : (DT.cmp o a b).wp = wB (w2 (cmD o) a.wp b.wp) := rfl
theorem z10 (o o' : CmpOp) (a b c : DE) : (DE.chn o o' a b c).wp = w3 (cmD o) (cmD o') a.wp b.wp c.wp := rfl
theorem z11 (o o' : CmpOp) (a b c : DE) : (DT.chn o o' a b c).wp = wB (w3 (cmD o) (cmD o') a.wp b.wp c.wp) := rfl
theorem z12 (a : DE) : (DT.val a).wp = wB a.wp := rfl
theorem z13 (a : DT) : (DT.not a).wp = wNotT a.wp := rfl
theorem z14 (o : BoolOp) (a : DT) : (DW.one o a).wp = a.wp := rfl
theorem z15 (o : BoolOp) (a : DT) : (DW.one o a).op = o := rfl
theorem z16 (a : DT) (r : DW) : (DW.cons a r).wp = boolW r.op a.wp r.wp := rfl
theorem z17 (a : DT) (r : DW) : (DW.cons a r).op = r.op := rfl
theorem z18 (r : DW) : (DT.bool r).wp = r.wp := rfl
theorem z19 (a : DE) : (DE.not a).wp = wNotV a.wp := rfl
theorem z20 (o : BoolOp) (a : DE) : (DV.one o a).wp = a.wp := rfl
theorem z21 (o : BoolOp) (a : DE) : (DV.one o a).op = o := rfl
theorem z22 (a : DE) (r : DV) : (DV.cons a r).wp = boolV r.op a.wp r.wp := rfl
theorem z23 (a : DE) (r : DV) : (DV.cons a r).op = r.op := rfl
theorem z24 (r : DV) : (DE.bool r).wp = r.wp := rfl
theorem z25 (t : DT) (a b : DE) : (DE.ite t a b).wp = wIte t.wp a.wp b.wp := rfl
theorem z26 (a b : DE) : (DE.ix a b).wp = w2 oIx a.wp b.wp := rfl
theorem z27 : DO.no.wp = wNo := rfl
theorem z28 (a : DE) : (DO.so a).wp = wSo a.wp := rfl
theorem z29 (a : DE) (lo hi : DO) : (DE.sl a lo hi).wp = wSl a.wp lo.wp hi.wp := rfl
theorem z30 (a : DA) : (DE.tup a).wp = wTup a.wp := rfl
theorem z31 (a : DA) : (DL.dis a).wp = a.wp := rfl
theorem z32 (l : DL) : (DE.lst l).wp = wLst l.wp := rfl
theorem z33 (l : DL) : (DE.thw l).wp = wThw l.wp := rfl
theorem z34 (a : DA) : (DE.len a).wp = wAp oLen a.wp := rfl
theorem z35 (a : DA) : (DE.abs a).wp = wAp oAbs a.wp := rfl
theorem z36 (a : DA) : (DE.sum a).wp = wAp oSum a.wp := rfl
theorem z37 (a : DA) : (DE.all a).wp = wAp oAll a.wp := rfl
theorem z38 (a : DA) : (DE.any a).wp = wAp oAny a.wp := rfl
theorem z39 (a : DA) : (DE.tuple a).wp = wAp oTuple a.wp := rfl
theorem z40 (a : DA) : (DE.int a).wp = wAp oInt a.wp := rfl
theorem z41 (a : DA) : (DE.str a).wp = wAp oStr a.wp := rfl
theorem z42 (a : DA) : (DL.lof a).wp = wLof a.wp := rfl
theorem z43 (a b : DE) : (DL.cat a b).wp = wCat a.wp b.wp := rfl
theorem z44 (a b : DE) : (DL.rep a b).wp = wRep a.wp b.wp := rfl
theorem z45 (a : DE) : (DE.isTuple a).wp = wIsi "tuple" a.wp := rfl
theorem z46 (a : DE) : (DE.isInt a).wp = wIsi "int" a.wp := rfl
theorem z47 (a : DE) : (DE.isBool a).wp = wIsi "bool" a.wp := rfl
theorem z48 (a : DE) : (DE.isStr a).wp = wIsi "str" a.wp := rfl
theorem z49 (o a : DE) : (DE.append o a).wp = wM1 "list" oAppend o.wp a.wp := rfl
theorem z50 (o : DE) : (DE.pop o).wp = wM0 "list" oPop o.wp := rfl
theorem z51 (o a : DE) : (DE.extend o a).wp = wM1 "list" oExtend o.wp a.wp := rfl
theorem z52 (a : DE) : (DI.seq a).wp = wIseq a.wp := rfl
theorem z53 (a : DE) : (DI.range1 a).wp = wR1 a.wp := rfl
theorem z54 (a b : DE) : (DI.range2 a b).wp = wR2 a.wp b.wp := rfl
theorem z55 (a : DE) : (DI.chr a).wp = wChr a.wp := rfl
theorem z56 (a b : DE) : (DI.zip a b).wp = wZip a.wp b.wp := rfl
theorem z57 (a : DE) : (DI.enum a).wp = wEnum a.wp := rfl
theorem z58 (i : Nat) : (DG.nm i).bd = (fun d env _ => some (env.set i (some d))) := rfl
theorem z59 (r : DGs) : (DG.tp r).bd = (fun d env S => match seqOf S d with | some ds => if ds.length = r.n then r.bd ds env else none | none => none) := rfl
theorem z60 : DGs.nil.n = 0 := rfl
theorem z61 (i : Nat) (r : DGs) : (DGs.cons i r).n = r.n + 1 := rfl
theorem z62 : DF.no.wp = wYes := rfl
theorem z63 (t : DT) : (DF.one t).wp = t.wp := rfl
theorem z64 (own : List (Str × Nat)) (g : DG) (i : DI) (t : DF) (e : DE) : (DL.comp own g i t e).wp = wComp (own.map (·.2)) g.bd i.wp t.wp e.wp := rfl
theorem z65 (i : Nat) (a : DE) : (DL.srt i a).wp = wSrt i a.wp := rfl
theorem z66 : DB.nil.wp = wSkip := rfl
theorem z67 (a : DS) (b : DB) : (DB.cons a b).wp = wSeq a.wp b.wp := rfl
theorem z68 (a : DE) : (DS.expr a).wp = wExpr a.wp := rfl
theorem z69 (a : DE) : (DS.ret a).wp = wRet a.wp := rfl
theorem z70 : DS.pass.wp = wSkip := rfl
theorem z71 : DS.cont.wp = wCont := rfl
theorem z72 (i : Nat) (a : DE) : (DS.set i a).wp = wSet i a.wp := rfl
theorem z73 (i : Nat) (own : List (Str × Nat)) (g : DG) (it : DI) (t : DF) (e : DE) : (DS.setC i own g it t e).wp = wSet i (wLst (wComp (own.map (·.2)) g.bd it.wp t.wp e.wp)) := rfl
theorem z74 (i : Nat) (own : List (Str × Nat)) (g : DG) (it : DI) (t : DF) (e : DE) : (DS.setCT i own g it t e).wp = wSet i (wThw (wComp (own.map (·.2)) g.bd it.wp t.wp e.wp)) := rfl
theorem z75 (t : DG) (a : DE) : (DS.asg t a).wp = wAsg t.bd a.wp := rfl
theorem z76 (i j : Nat) (a b : DE) : (DS.par i j a b).wp = wPar i j a.wp b.wp := rfl
theorem z77 (o b a : DE) : (DS.sub o b a).wp = wSub a.wp o.wp b.wp := rfl
theorem z78 (t : DT) (a b : DB) : (DS.iff t a b).wp = wIf t.wp a.wp b.wp := rfl
theorem z79 (t : DT) (b : DB) : (DS.while t b).wp = wWhile t.wp b.wp := rfl
theorem z80 (t : DG) (i : DI) (b : DB) : (DS.for t i b).wp = wFor t.bd i.wp b.wp := rfl
theorem z81 (x : Str) : (DS.raise x).wp = wRaise x := rfl
theorem z82 (f : Str) (C : Ct) (a : DA) : (DE.call f C a).wp = wCall C a.wp := rfl
theorem z83 (f : Str) (C : Ct) : (DE.call0 f C).wp = wCall0 C := rfl
theorem zg0 (env : Env) : DGs.nil.bd [] env = some env := rfl
theorem zg1 (i : Nat) (r : DGs) (d : D) (ds : List D) (env : Env) : (DGs.cons i r).bd (d :: ds) env = r.bd ds (env.set i (some d)) := rfl
theorem atI_0 {α : Type} (a : α) (l : List α) : atI (a :: l) 0 = some a := by simp [atI, ixN]
theorem atI_1 {α : Type} (a b : α) (l : List α) : atI (a :: b :: l) 1 = some b := by
  have : (1 : Int) < (l.length : Int) + 1 + 1 := by omega
  simp [atI, ixN, this]
theorem atI_2 {α : Type} (a b c : α) (l : List α) : atI (a :: b :: c :: l) 2 = some c := by
  have : (2 : Int) < (l.length : Int) + 1 + 1 + 1 := by omega
  simp [atI, ixN, this]
theorem ex_eq {α : Type} {a : α} {p : α → Prop} : (∃ x, some (some a) = some (some x) ∧ p x) ↔ p a := by simp
theorem seqOf_tup (S : Sto) (ds : List D) : seqOf S (.tup ds) = some ds := rfl
theorem seqOf_lst (S : Sto) (ds : List D) : seqOf S (.lst ds) = some ds := rfl
theorem seqOf_scr (S : Sto) (ds : List D) : seqOf S (.scr ds) = some ds := rfl
theorem lstOf_lst (S : Sto) (ds : List D) : lstOf S (.lst ds) = some ds := rfl
theorem lstOf_scr (S : Sto) (ds : List D) : lstOf S (.scr ds) = some ds := rfl
theorem lstX_lst (S : Sto) (ds : List D) : lstX S (.lst ds) = some ds := rfl
theorem tupOf_tup (ds : List D) : tupOf (.tup ds) = some ds := rfl
theorem srcOf_tup (ds es : List D) : srcOf (.tup ds) es = [] := rfl
theorem srcOf_lst (ds es : List D) : srcOf (.lst ds) es = [] := rfl
theorem srcOf_scr (ds es : List D) : srcOf (.scr ds) es = [] := rfl
theorem srcOf_han (i : Nat) (es : List D) : srcOf (.han i) es = [(i, es)] := rfl
theorem srcOk_nil (S : Sto) : srcOk [] S = True := rfl
theorem srcOk_cons (S : Sto) (h : Nat) (ds : List D) (r : Src) : srcOk ((h, ds) :: r) S = (S[h]? = some (.lst ds) ∧ srcOk r S) := rfl
theorem oAdd_ii (i j : Int) (S : Sto) (Q : QD) : oAdd (.int i) (.int j) S Q = Q (.int (i + j)) S := rfl
theorem oAdd_ss (i j : Str) (S : Sto) (Q : QD) : oAdd (.str i) (.str j) S Q = (i.length + j.length ≤ sizeLine ∧ Q (.str (i ++ j)) S) := rfl
theorem oAdd_tt (i j : List D) (S : Sto) (Q : QD) : oAdd (.tup i) (.tup j) S Q = (i.length + j.length ≤ sizeLine ∧ Q (.tup (i ++ j)) S) := rfl
theorem oAdd_ll (i j : List D) (S : Sto) (Q : QD) : oAdd (.lst i) (.lst j) S Q = (i.length + j.length ≤ sizeLine ∧ Q (.lst (i ++ j)) S) := by simp [oAdd, lstX]
theorem oSub_ii (i j : Int) (S : Sto) (Q : QD) : oSub (.int i) (.int j) S Q = Q (.int (i - j)) S := rfl
theorem oMul_ii (i j : Int) (S : Sto) (Q : QD) : oMul (.int i) (.int j) S Q = (IntMulOk i j ∧ Q (.int (i * j)) S) := rfl
theorem oMul_ti (a : List D) (k : Int) (S : Sto) (Q : QD) : oMul (.tup a) (.int k) S Q = (a ≠ [] ∧ -1000 ≤ k ∧ k ≤ 1000 ∧ a.length ≤ 1000 ∧ Q (.tup (List.replicate k.toNat a).flatten) S) := rfl
theorem oMul_si (a : Str) (k : Int) (S : Sto) (Q : QD) : oMul (.str a) (.int k) S Q = ((-1000 ≤ k ∧ k ≤ 1000 ∧ a.length ≤ 1000) ∧ Q (.str (repS a k)) S) := rfl
theorem oDiv_ii (i j : Int) (S : Sto) (Q : QD) : oDiv (.int i) (.int j) S Q = (IntDivOk j ∧ Q (.int (i.fdiv j)) S) := rfl
theorem oMod_ii (i j : Int) (S : Sto) (Q : QD) : oMod (.int i) (.int j) S Q = (j ≠ 0 ∧ Q (.int (i.fmod j)) S) := rfl
theorem oPow_ii (i j : Int) (S : Sto) (Q : QD) : oPow (.int i) (.int j) S Q = ((0 ≤ j ∧ j ≤ 1000000 ∧ i.natAbs < 2 ^ 64) ∧ Q (.int (i ^ j.toNat)) S) := rfl
theorem oNeg_i (i : Int) (S : Sto) (Q : QD) : oNeg (.int i) S Q = Q (.int (-i)) S := rfl
theorem oEq_ii (i j : Int) (S : Sto) (Q : QD) : oEq (.int i) (.int j) S Q = Q (.bl (decide (i = j))) S := rfl
theorem oNe_ii (i j : Int) (S : Sto) (Q : QD) : oNe (.int i) (.int j) S Q = Q (.bl (!decide (i = j))) S := rfl
theorem oEq_ss (i j : Str) (S : Sto) (Q : QD) : oEq (.str i) (.str j) S Q = Q (.bl (decide (i = j))) S := rfl
theorem oNe_ss (i j : Str) (S : Sto) (Q : QD) : oNe (.str i) (.str j) S Q = Q (.bl (!decide (i = j))) S := rfl
theorem oI_ii (f : Int → Int → Bool) (i j : Int) (S : Sto) (Q : QD) : oI f (.int i) (.int j) S Q = Q (.bl (f i j)) S := rfl
theorem oIs_n (x : D) (S : Sto) (Q : QD) : oIs x .non S Q = ∃ b, isNon x = some b ∧ Q (.bl b) S := by cases x <;> rfl
theorem oIsNot_n (x : D) (S : Sto) (Q : QD) : oIsNot x .non S Q = ∃ b, isNon x = some b ∧ Q (.bl (!b)) S := by cases x <;> rfl
theorem oIs_b (a b : Bool) (S : Sto) (Q : QD) : oIs (.bl a) (.bl b) S Q = Q (.bl (decide (a = b))) S := rfl
theorem oIsNot_b (a b : Bool) (S : Sto) (Q : QD) : oIsNot (.bl a) (.bl b) S Q = Q (.bl (!decide (a = b))) S := rfl
theorem isNon_n  : isNon .non = some true := rfl
theorem isNon_b (b : Bool) : isNon (.bl b) = some false := rfl
theorem isNon_i (i : Int) : isNon (.int i) = some false := rfl
theorem isNon_s (i : Str) : isNon (.str i) = some false := rfl
theorem isNon_t (i : List D) : isNon (.tup i) = some false := rfl
theorem isNon_l (i : List D) : isNon (.lst i) = some false := rfl
theorem isNon_h (i : Nat) : isNon (.han i) = some false := rfl
theorem oIx_t (ds : List D) (i : Int) (S : Sto) (Q : QD) : oIx (.tup ds) (.int i) S Q = ∃ d, atI ds i = some d ∧ Q d S := by simp [oIx, seqOf_tup]
theorem oIx_l (ds : List D) (i : Int) (S : Sto) (Q : QD) : oIx (.lst ds) (.int i) S Q = ∃ d, atI ds i = some d ∧ Q d S := by simp [oIx, seqOf_lst]
theorem oIx_s (ds : List D) (i : Int) (S : Sto) (Q : QD) : oIx (.scr ds) (.int i) S Q = ∃ d, atI ds i = some d ∧ Q d S := by simp [oIx, seqOf_scr]
theorem oLen_t (ds : List D) (S : Sto) (Q : QD) : oLen [.tup ds] S Q = Q (.int ds.length) S := by simp [oLen, seqOf_tup]
theorem oLen_l (ds : List D) (S : Sto) (Q : QD) : oLen [.lst ds] S Q = Q (.int ds.length) S := by simp [oLen, seqOf_lst]
theorem oLen_s (ds : List D) (S : Sto) (Q : QD) : oLen [.scr ds] S Q = Q (.int ds.length) S := by simp [oLen, seqOf_scr]
theorem oLen_str (z : Str) (S : Sto) (Q : QD) : oLen [.str z] S Q = (z.length ≤ sizeLine ∧ Q (.int z.length) S) := rfl
theorem oAbs_i (i : Int) (S : Sto) (Q : QD) : oAbs [.int i] S Q = Q (.int i.natAbs) S := rfl
theorem oTuple_l (ds : List D) (S : Sto) (Q : QD) : oTuple [.lst ds] S Q = Q (.tup ds) S := by simp [oTuple, seqOf_lst]
theorem oTuple_t (ds : List D) (S : Sto) (Q : QD) : oTuple [.tup ds] S Q = Q (.tup ds) S := by simp [oTuple, seqOf_tup]
theorem oSl_t (lo hi : Option Int) (ds : List D) (S : Sto) (Q : QD) : oSl lo hi (.tup ds) S Q = Q (.tup (cutD ds lo hi)) S := rfl
theorem oSl_l (lo hi : Option Int) (ds : List D) (S : Sto) (Q : QD) : oSl lo hi (.lst ds) S Q = Q (.lst (cutD ds lo hi)) S := by simp [oSl, lstOf_lst]
theorem oInt_i (i : Int) (S : Sto) (Q : QD) : oInt [.int i] S Q = Q (.int i) S := rfl
theorem oInt_b (b : Bool) (S : Sto) (Q : QD) : oInt [.bl b] S Q = Q (.int (if b then 1 else 0)) S := rfl
theorem compGo_nil (bd : D → Env → Sto → Option Env) (t : WT) (e : WE) (env : Env) (src : Src) (S : Sto) (acc : List D) (Q : QL) : compGo bd t e env src [] S acc Q = (srcOk src S ∧ Q acc S) := rfl
theorem compGo_cons (bd : D → Env → Sto → Option Env) (t : WT) (e : WE) (env : Env) (src : Src) (d : D) (ds : List D) (S : Sto) (acc : List D) (Q : QL) : compGo bd t e env src (d :: ds) S acc Q = (srcOk src S ∧ ∃ env', bd d env S = some env' ∧ t env' S (fun b S1 => if b = true then e env' S1 (fun x S2 => compGo bd t e env src ds S2 (acc ++ [x]) Q) noX else compGo bd t e env src ds S1 acc Q) noX) := rfl
theorem forGo_nil (bd : D → Env → Sto → Option Env) (b : WS) (E : DEnds) (src : Src) (env : Env) (S : Sto) : forGo bd b E src [] env S = (srcOk src S ∧ E.nx env S) := rfl
theorem forGo_cons (bd : D → Env → Sto → Option Env) (b : WS) (E : DEnds) (src : Src) (d : D) (ds : List D) (env : Env) (S : Sto) : forGo bd b E src (d :: ds) env S = (srcOk src S ∧ ∃ env', bd d env S = some env' ∧ b { E with nx := forGo bd b E src ds, ct := forGo bd b E src ds, bk := E.nx } env' S) := rfl
theorem wipeD_nil (env : Env) : wipeD env [] = env := rfl
theorem wipeD_cons (env : Env) (v : Nat) (vs : List Nat) : wipeD env (v :: vs) = (wipeD env vs).set v none := rfl
theorem range_3  : rangeD 0 (3 : Nat) = [.int 0, .int 1, .int 2] := rfl
theorem range_2  : rangeD 0 (2 : Nat) = [.int 0, .int 1] := rfl
theorem range_1  : rangeD 0 (1 : Nat) = [.int 0] := rfl
theorem enumD_nil  : enumD [] = [] := rfl
theorem enumD_1 (a : D) : enumD [a] = [.tup [.int 0, a]] := rfl
theorem enumD_2 (a b : D) : enumD [a, b] = [.tup [.int 0, a], .tup [.int 1, b]] := rfl
theorem enumD_3 (a b c : D) : enumD [a, b, c] = [.tup [.int 0, a], .tup [.int 1, b], .tup [.int 2, c]] := rfl
theorem zipD_nil  : zipD [] [] = [] := rfl
theorem zipD_cons (a b : D) (r s : List D) : zipD (a :: r) (b :: s) = .tup [a, b] :: zipD r s := rfl
theorem ex_and {α : Type} {a : Prop} {p : α → Prop} : (∃ x, a ∧ p x) ↔ a ∧ ∃ x, p x := exists_and_left
/-! #### DL12 -/
/-! The D layer, part 12: loops by invariants, whole numbers in rows. -/
theorem compGo_map {α : Type} {bd : D → Env → Sto → Option Env} {t : WT} {e : WE} {env : Env} {src : Src} {S : Sto} {Q : QL} (enc : α → D) (P : α → Bool) (g : α → D) (hs : srcOk src S) : ∀ (L : List α) (acc : List D),
    (∀ a ∈ L, ∃ env', bd (enc a) env S = some env' ∧ (∀ Qb : QB, Qb (P a) S → t env' S Qb noX) ∧ (P a = true → ∀ Qd : QD, Qd (g a) S → e env' S Qd noX)) →
    Q (acc ++ (L.filter P).map g) S → compGo bd t e env src (L.map enc) S acc Q
  | [], acc, _, hq => ⟨hs, by simpa using hq⟩
  | a :: L, acc, h, hq => by
    obtain ⟨env', hb, ht, he⟩ := h a List.mem_cons_self
    refine ⟨hs, env', hb, ht _ ?_⟩
    cases hp : P a with
    | false =>
      rw [if_neg (by simp)]
      refine compGo_map enc P g hs L acc (fun x hx => h x (List.mem_cons_of_mem _ hx)) ?_
      rw [List.filter_cons, hp] at hq
      simpa using hq
    | true =>
      rw [if_pos rfl]
      refine he hp _ ?_
      refine compGo_map enc P g hs L (acc ++ [g a]) (fun x hx => h x (List.mem_cons_of_mem _ hx)) ?_
      rw [List.filter_cons, hp] at hq
      simpa using hq
/-- .. no test -/
theorem compGo_all {α : Type} {bd : D → Env → Sto → Option Env} {e : WE} {env : Env} {src : Src} {S : Sto} {Q : QL} (enc : α → D) (g : α → D) (hs : srcOk src S) (L : List α)
    (h : ∀ a ∈ L, ∃ env', bd (enc a) env S = some env' ∧ (∀ Qd : QD, Qd (g a) S → e env' S Qd noX))
    (hq : Q (L.map g) S) : compGo bd (fun _ S Q _ => Q true S) e env src (L.map enc) S [] Q :=
  compGo_map enc (fun _ => true) g hs L [] (fun a ha => let ⟨env', hb, he⟩ := h a ha; ⟨env', hb, fun _ q => q, fun _ => he⟩) (by rw [List.filter_eq_self.mpr (fun _ _ => rfl)]; exact hq)
theorem compGo_all0 {α : Type} {bd : D → Env → Sto → Option Env} {e : WE} {env : Env} {S : Sto} {Q : QL} (enc : α → D) (g : α → D) (L : List α)
    (h : ∀ a ∈ L, ∃ env', bd (enc a) env S = some env' ∧ (∀ Qd : QD, Qd (g a) S → e env' S Qd noX))
    (hq : Q (L.map g) S) : compGo bd wYes e env [] (L.map enc) S [] Q := compGo_all (src := []) enc g True.intro L h hq
theorem compGo_map0 {α : Type} {bd : D → Env → Sto → Option Env} {t : WT} {e : WE} {env : Env} {S : Sto} {Q : QL} (enc : α → D) (P : α → Bool) (g : α → D) (L : List α)
    (h : ∀ a ∈ L, ∃ env', bd (enc a) env S = some env' ∧ (∀ Qb : QB, Qb (P a) S → t env' S Qb noX) ∧ (P a = true → ∀ Qd : QD, Qd (g a) S → e env' S Qd noX))
    (hq : Q ((L.filter P).map g) S) : compGo bd t e env [] (L.map enc) S [] Q := compGo_map (src := []) enc P g True.intro L [] h hq
theorem forGo_inv {bd : D → Env → Sto → Option Env} {b : WS} {E : DEnds} {src : Src} (I : List D → Env → Sto → Prop)
    (h : ∀ d ds env S, I (d :: ds) env S → srcOk src S ∧ ∃ env', bd d env S = some env' ∧ ∀ nx : Env → Sto → Prop, (∀ env S, I ds env S → nx env S) → b { E with nx := nx, ct := nx, bk := E.nx } env' S)
    (hq : ∀ env S, I [] env S → srcOk src S ∧ E.nx env S) : ∀ (L : List D) (env : Env) (S : Sto), I L env S → forGo bd b E src L env S
  | [], env, S, hi => hq env S hi
  | d :: ds, env, S, hi => by
    obtain ⟨hs, env', hb, ht⟩ := h d ds env S hi
    exact ⟨hs, env', hb, ht _ fun env S hx => forGo_inv I h hq ds env S hx⟩
theorem while_inv {t : WT} {b : WS} {E : DEnds} (I : Nat → Env → Sto → Prop)
    (h : ∀ m env S, I m env S → ∀ nx : Env → Sto → Prop, (∀ m', m' < m → ∀ env S, I m' env S → nx env S) → t env S (fun k S1 => if k = true then b { E with nx := nx, ct := nx, bk := E.nx } env S1 else E.nx env S1) (fun x S1 => E.xq x env S1)) {m : Nat} {env : Env} {S : Sto} (hi : I m env S) : wWhile t b E env S := by
  refine ⟨m + 1, ?_⟩
  have key : ∀ n m env S, m < n → I m env S → whileGo t b E n env S := by
    intro n
    induction n with
    | zero => intro m _ _ h0; omega
    | succ n ih =>
      intro m env S hm hi
      exact h m env S hi _ fun m' hm' env S hi' => ih m' env S (by omega) hi'
  exact key _ m env S (by omega) hi
/-! ### rows of whole numbers -/
def VE (v : List Int) : D := .tup (v.map .int)
theorem VE_eq (v : List Int) : VE v = .tup (v.map .int) := rfl
theorem bd1 (i : Nat) (a : D) (env : Env) (S : Sto) : (DG.nm i).bd a env S = some (env.set i (some a)) := rfl
theorem atI_nat {α : Type} (l : List α) (i : Nat) : atI l (i : Int) = l[i]? := by
  unfold atI ixN
  rw [if_pos (by omega)]
  by_cases h : (i : Int) < l.length
  · rw [if_pos h]; simp
  · rw [if_neg h, List.getElem?_eq_none (by omega)]; rfl
theorem atI_some {α : Type} {l : List α} {i : Nat} (h : i < l.length) : atI l (i : Int) = some l[i] := by rw [atI_nat, List.getElem?_eq_getElem h]
theorem atI_map {α β : Type} (f : α → β) (l : List α) (i : Int) : atI (l.map f) i = (atI l i).map f := by
  unfold atI
  rw [List.length_map]
  cases ixN l.length i with
  | none => rfl
  | some j => simp
theorem zipD_map {α β : Type} (f : α → D) (g : β → D) : ∀ (u : List α) (v : List β), zipD (u.map f) (v.map g) = (u.zip v).map fun p => .tup [f p.1, g p.2]
  | [], _ => rfl
  | _ :: _, [] => rfl
  | a :: u, b :: v => by
    show D.tup [f a, g b] :: zipD (u.map f) (v.map g) = _
    rw [zipD_map f g u v]; rfl
def zipP (d d2 : D) (S : Sto) (Q : QI) : Prop := ∃ xs ys, ((tupOf d = some xs ∧ tupOf d2 = some ys) ∨ (lstOf S d = some xs ∧ lstOf S d2 = some ys)) ∧ Q (zipD xs ys) (srcOf d xs ++ srcOf d2 ys) S
theorem wZip_eq (a b : WE) (env : Env) (S : Sto) (Q : QI) (X : XD) : wZip a b env S Q X = a env S (fun d S1 => b env S1 (fun d2 S2 => zipP d d2 S2 Q) X) X := rfl
theorem zip_tt (xs ys : List D) (S : Sto) (Q : QI) : zipP (.tup xs) (.tup ys) S Q = Q (zipD xs ys) [] S := by
  apply propext
  constructor
  · rintro ⟨a, b, (⟨ha, hb⟩ | ⟨ha, hb⟩), h⟩
    · cases ha; cases hb; exact h
    · cases ha
  · exact fun h => ⟨xs, ys, .inl ⟨rfl, rfl⟩, h⟩
theorem zip_ll (xs ys : List D) (S : Sto) (Q : QI) : zipP (.lst xs) (.lst ys) S Q = Q (zipD xs ys) [] S := by
  apply propext
  constructor
  · rintro ⟨a, b, (⟨ha, hb⟩ | ⟨ha, hb⟩), h⟩
    · cases ha
    · cases ha; cases hb; exact h
  · exact fun h => ⟨xs, ys, .inr ⟨rfl, rfl⟩, h⟩
theorem ty_n (S : Sto) : tyD S .non = some "NoneType" := rfl
theorem ty_b (S : Sto) (b : Bool) : tyD S (.bl b) = some "bool" := rfl
theorem ty_i (S : Sto) (b : Int) : tyD S (.int b) = some "int" := rfl
theorem ty_s (S : Sto) (b : Str) : tyD S (.str b) = some "str" := rfl
theorem ty_t (S : Sto) (b : List D) : tyD S (.tup b) = some "tuple" := rfl
theorem ty_l (S : Sto) (b : List D) : tyD S (.lst b) = some "list" := rfl
theorem ty_f (S : Sto) (b : _) : tyD S (.flt b) = some "float" := rfl
theorem kit_ii : kitB "int" "int" = some true := rfl
theorem kit_ib : kitB "int" "bool" = some false := rfl
theorem kit_bb : kitB "bool" "bool" = some true := rfl
theorem kit_bi : kitB "bool" "int" = some true := rfl
theorem kit_it : kitB "int" "tuple" = some false := rfl
theorem kit_tt : kitB "tuple" "tuple" = some true := rfl
theorem kit_ti : kitB "tuple" "int" = some false := rfl
theorem kit_tb : kitB "tuple" "bool" = some false := rfl
theorem kit_lt : kitB "list" "tuple" = some false := rfl
theorem kit_li : kitB "list" "int" = some false := rfl
theorem kit_st : kitB "str" "tuple" = some false := rfl
theorem kit_si : kitB "str" "int" = some false := rfl
theorem kit_ss : kitB "str" "str" = some true := rfl
theorem kit_nt : kitB "NoneType" "tuple" = some false := rfl
theorem kit_ni : kitB "NoneType" "int" = some false := rfl
theorem kit_fi : kitB "float" "int" = some false := rfl
theorem kit_ft : kitB "float" "tuple" = some false := rfl
theorem kit_is : kitB "int" "str" = some false := rfl
theorem kit_ns : kitB "NoneType" "str" = some false := rfl
theorem kit_bt : kitB "bool" "tuple" = some false := rfl
theorem oLen_V (v : List Int) (S : Sto) (Q : QD) : oLen [VE v] S Q = Q (.int v.length) S := by rw [VE_eq, oLen_t, List.length_map]
theorem oAll_l (bs : List Bool) (S : Sto) (Q : QD) (h : Q (.bl (bs.all id)) S) : oAll [.lst (bs.map .bl)] S Q := ⟨bs, rfl, h⟩
/-! ### what is compared -/
structure Enc (α : Type) [DecidableEq α] where
  e : α → D
  p : α → PyData
  n : Nat
  hp : ∀ a, pyD (e a) = some (p a)
  lay : ∀ a, (p a).canLay0 = true
  dp : ∀ a, (p a).depth ≤ n
  eq : ∀ a b, PyData.eqv (p a) (p b) = decide (a = b)
theorem Enc.hps {α : Type} [DecidableEq α] (E : Enc α) : ∀ l : List α, pyDs (l.map E.e) = some (l.map E.p)
  | [] => rfl
  | a :: l => by
    show (match pyD (E.e a), pyDs (l.map E.e) with | some p, some ps => some (p :: ps) | _, _ => none) = _
    rw [E.hp, E.hps l]; rfl
theorem Enc.lays {α : Type} [DecidableEq α] (E : Enc α) : ∀ l : List α, PyData.canLayAll0 (l.map E.p) = true
  | [] => rfl
  | a :: l => by
    show (PyData.canLay0 (E.p a) && PyData.canLayAll0 (l.map E.p)) = true
    rw [E.lay, E.lays l]; rfl
theorem Enc.dps {α : Type} [DecidableEq α] (E : Enc α) : ∀ l : List α, PyData.depthAll (l.map E.p) ≤ E.n
  | [] => Nat.zero_le _
  | a :: l => by
    show max (PyData.depth (E.p a)) (PyData.depthAll (l.map E.p)) ≤ _
    have := E.dp a; have := E.dps l; omega
theorem Enc.eqs {α : Type} [DecidableEq α] (E : Enc α) : ∀ l m : List α, PyData.eqvAll (l.map E.p) (m.map E.p) = decide (l = m)
  | [], [] => by simp [PyData.eqvAll]
  | [], b :: m => by simp [PyData.eqvAll]
  | a :: l, [] => by simp [PyData.eqvAll]
  | a :: l, b :: m => by
    have := E.eqs l m
    simp only [List.map_cons, PyData.eqvAll, E.eq, this, List.cons.injEq, Bool.decide_and]
def eI : Enc Int := ⟨.int, .int, 0, fun _ => rfl, fun _ => rfl, fun _ => Nat.le_refl _, fun a b => by simp [PyData.eqv]; rfl⟩
def eT {α : Type} [DecidableEq α] (E : Enc α) : Enc (List α) := ⟨fun l => .tup (l.map E.e), fun l => .tuple (l.map E.p), E.n + 1, fun l => by simp [pyD, E.hps], fun l => by simpa [PyData.canLay0] using E.lays l, fun l => by have := E.dps l; simp only [PyData.depth]; omega, fun a b => by simp only [PyData.eqv, E.eqs]⟩
def eL {α : Type} [DecidableEq α] (E : Enc α) : Enc (List α) := ⟨fun l => .lst (l.map E.e), fun l => .list (l.map E.p), E.n + 1, fun l => by simp [pyD, E.hps], fun l => by simpa [PyData.canLay0] using E.lays l, fun l => by have := E.dps l; simp only [PyData.depth]; omega, fun a b => by simp only [PyData.eqv, E.eqs]⟩
theorem oNe_T {α : Type} [DecidableEq α] (E : Enc α) (hn : E.n ≤ 60) (a b : List α) (S : Sto) (Q : QD) (h : Q (.bl (!decide (a = b))) S) : oNe (.tup (a.map E.e)) (.tup (b.map E.e)) S Q := by
  refine ⟨(eT E).p a, (eT E).p b, (eT E).hp a, (eT E).hp b, ?_, ?_, ?_⟩
  · unfold SeqAt.shaped; rw [(eT E).lay]; have := (eT E).dp a; have e : (eT E).n = E.n + 1 := rfl; simp; omega
  · unfold SeqAt.shaped; rw [(eT E).lay]; have := (eT E).dp b; have e : (eT E).n = E.n + 1 := rfl; simp; omega
  · rw [(eT E).eq]; exact h
theorem oEq_L {α : Type} [DecidableEq α] (E : Enc α) (hn : E.n ≤ 60) (a b : List α) (S : Sto) (Q : QD) (h : Q (.bl (decide (a = b))) S) : oEq (.lst (a.map E.e)) (.lst (b.map E.e)) S Q := by
  refine ⟨(eL E).p a, (eL E).p b, (eL E).hp a, (eL E).hp b, ?_, ?_, ?_⟩
  · unfold SeqAt.shaped; rw [(eL E).lay]; have := (eL E).dp a; have e : (eL E).n = E.n + 1 := rfl; simp; omega
  · unfold SeqAt.shaped; rw [(eL E).lay]; have := (eL E).dp b; have e : (eL E).n = E.n + 1 := rfl; simp; omega
  · rw [(eL E).eq]; exact h
theorem oNe_L {α : Type} [DecidableEq α] (E : Enc α) (hn : E.n ≤ 60) (a b : List α) (S : Sto) (Q : QD) (h : Q (.bl (!decide (a = b))) S) : oNe (.lst (a.map E.e)) (.lst (b.map E.e)) S Q := by
  refine ⟨(eL E).p a, (eL E).p b, (eL E).hp a, (eL E).hp b, ?_, ?_, ?_⟩
  · unfold SeqAt.shaped; rw [(eL E).lay]; have := (eL E).dp a; have e : (eL E).n = E.n + 1 := rfl; simp; omega
  · unfold SeqAt.shaped; rw [(eL E).lay]; have := (eL E).dp b; have e : (eL E).n = E.n + 1 := rfl; simp; omega
  · rw [(eL E).eq]; exact h
def eV : Enc (List Int) := eT eI
theorem oNe_M (a b : List (List Int)) (S : Sto) (Q : QD) (h : Q (.bl (!decide (a = b))) S) : oNe (.tup (a.map VE)) (.tup (b.map VE)) S Q := oNe_T eV (by decide) a b S Q h
theorem oNe_Ml (a b : List (List Int)) (S : Sto) (Q : QD) (h : Q (.bl (!decide (a = b))) S) : oNe (.lst (a.map VE)) (.lst (b.map VE)) S Q := oNe_L eV (by decide) a b S Q h
/-! ### sizes -/
def Sm (k : Nat) (a : Int) : Prop := a.natAbs < 2 ^ k
theorem Sm.mono {j k : Nat} {a : Int} (h : Sm j a) (hk : j ≤ k) : Sm k a := Nat.lt_of_lt_of_le h (Nat.pow_le_pow_right (by omega) hk)
theorem Sm.mul {j k : Nat} {a b : Int} (h : Sm j a) (g : Sm k b) : Sm (j + k) (a * b) := by
  unfold Sm at *
  rw [Int.natAbs_mul, Nat.pow_add]
  exact Nat.mul_lt_mul'' h g
theorem Sm.add {j k : Nat} {a b : Int} (h : Sm j a) (g : Sm k b) : Sm (max j k + 1) (a + b) := by
  have h1 := h.mono (Nat.le_max_left j k)
  have h2 := g.mono (Nat.le_max_right j k)
  unfold Sm at *
  rw [Nat.pow_succ]
  omega
theorem Sm.neg {j : Nat} {a : Int} (h : Sm j a) : Sm j (-a) := by unfold Sm at *; rw [Int.natAbs_neg]; exact h
theorem Sm.sub {j k : Nat} {a b : Int} (h : Sm j a) (g : Sm k b) : Sm (max j k + 1) (a - b) := by
  rw [Int.sub_eq_add_neg]; exact h.add g.neg
theorem Sm.ok {j k : Nat} {a b : Int} (h : Sm j a) (g : Sm k b) (hk : j + k ≤ 999990) : IntMulOk a b :=
  (wide_mul (h.mono (Nat.le_succ j)) (g.mono (Nat.le_succ k)) (by omega) (by omega) (by omega)).ok
theorem Sm.div {j : Nat} {a : Int} (h : Sm j a) (h0 : a ≠ 0) (hj : j ≤ 8990) : IntDivOk a := by
  refine ⟨h0, ?_⟩
  have : a.natAbs.log2 < 9000 := (Nat.log2_lt (by omega)).mpr (Nat.lt_of_lt_of_le h (Nat.pow_le_pow_right (by omega) (by omega)))
  exact this
theorem Sm.of {a : Int} {B : Nat} (k : Nat) (h : a.natAbs ≤ B) (hk : B < 2 ^ k) : Sm k a := Nat.lt_of_le_of_lt h hk
theorem szLe {n : Nat} (h : n ≤ 16777216) : n ≤ sizeLine := by rw [sizeLine_eq]; omega
theorem cut_to {xs : List D} (k : Nat) : cutD xs none (some (k : Int)) = xs.take k := by
  unfold cutD
  rw [HT.sIx_nat, HT.sIx_none]
  simp only [List.drop_zero, Nat.sub_zero]
  rw [List.take_eq_take_iff]; omega
theorem cut_from {xs : List D} (k : Nat) : cutD xs (some (k : Int)) none = xs.drop k := by
  unfold cutD
  rw [HT.sIx_nat, HT.sIx_none]
  by_cases h : k ≤ xs.length
  · rw [Nat.min_eq_left h, List.take_of_length_le]; simp
  · rw [Nat.min_eq_right (by omega), List.drop_eq_nil_of_le (by omega), List.drop_eq_nil_of_le (by omega)]; simp
theorem cut_t0 (xs : List D) : cutD xs none (some 0) = [] := cut_to (xs := xs) 0
theorem cut_t1 (xs : List D) : cutD xs none (some 1) = xs.take 1 := cut_to 1
theorem cut_t2 (xs : List D) : cutD xs none (some 2) = xs.take 2 := cut_to 2
theorem cut_f1 (xs : List D) : cutD xs (some 1) none = xs.drop 1 := cut_from 1
theorem cut_f2 (xs : List D) : cutD xs (some 2) none = xs.drop 2 := cut_from 2
theorem cut_f3 (xs : List D) : cutD xs (some 3) none = xs.drop 3 := cut_from 3
theorem m2_0 : Int.fmod 0 2 = 0 := rfl
theorem m2_1 : Int.fmod 1 2 = 1 := rfl
theorem m2_2 : Int.fmod 2 2 = 0 := rfl
theorem sm_lit (a : Int) (h : a.natAbs < 64) : Sm 6 a := h
/-! #### DL13 -/
/-! The D layer, part 13: what the words ask; defs with a known code object. -/
theorem q0 (i : Nat) (Z : Cy) : (DE.var i).rq Z = (True) := rfl
theorem q1 (i : Nat) (Z : Cy) : (DE.frz i).rq Z = (True) := rfl
theorem q2 (d : D) (Z : Cy) : (DE.con d).rq Z = (True) := rfl
theorem q3 (x : Str) (i : Int) (Z : Cy) : (DE.glo x i).rq Z = (∃ t, Z.mg x = some (.int i t)) := rfl
theorem q4  (Z : Cy) : DA.nil.rq Z = (True) := rfl
theorem q5 (a : DE) (r : DA) (Z : Cy) : (DA.cons a r).rq Z = (a.rq Z ∧ r.rq Z) := rfl
theorem q6 (o : Operator) (a b : DE) (Z : Cy) : (DE.op o a b).rq Z = (a.rq Z ∧ b.rq Z) := rfl
theorem q7 (a : DE) (Z : Cy) : (DE.neg a).rq Z = (a.rq Z) := rfl
theorem q8 (o : CmpOp) (a b : DE) (Z : Cy) : (DE.cmp o a b).rq Z = (a.rq Z ∧ b.rq Z) := rfl
theorem q9 (o : CmpOp) (a b : DE) (Z : Cy) : (DT.cmp o a b).rq Z = (a.rq Z ∧ b.rq Z) := rfl
theorem q10 (o o' : CmpOp) (a b c : DE) (Z : Cy) : (DE.chn o o' a b c).rq Z = (a.rq Z ∧ b.rq Z ∧ c.rq Z) := rfl
theorem q11 (o o' : CmpOp) (a b c : DE) (Z : Cy) : (DT.chn o o' a b c).rq Z = (a.rq Z ∧ b.rq Z ∧ c.rq Z) := rfl
theorem q12 (a : DE) (Z : Cy) : (DT.val a).rq Z = (a.rq Z) := rfl
theorem q13 (a : DT) (Z : Cy) : (DT.not a).rq Z = (a.rq Z) := rfl
theorem q14 (o : BoolOp) (a : DT) (Z : Cy) : (DW.one o a).rq Z = (a.rq Z) := rfl
theorem q15 (a : DT) (r : DW) (Z : Cy) : (DW.cons a r).rq Z = (a.rq Z ∧ r.rq Z) := rfl
theorem q16 (r : DW) (Z : Cy) : (DT.bool r).rq Z = (r.rq Z) := rfl
theorem q17 (a : DE) (Z : Cy) : (DE.not a).rq Z = (a.rq Z) := rfl
theorem q18 (o : BoolOp) (a : DE) (Z : Cy) : (DV.one o a).rq Z = (a.rq Z) := rfl
theorem q19 (a : DE) (r : DV) (Z : Cy) : (DV.cons a r).rq Z = (a.rq Z ∧ r.rq Z) := rfl
theorem q20 (r : DV) (Z : Cy) : (DE.bool r).rq Z = (r.rq Z) := rfl
theorem q21 (t : DT) (a b : DE) (Z : Cy) : (DE.ite t a b).rq Z = (t.rq Z ∧ a.rq Z ∧ b.rq Z) := rfl
theorem q22 (a b : DE) (Z : Cy) : (DE.ix a b).rq Z = (a.rq Z ∧ b.rq Z) := rfl
theorem q23  (Z : Cy) : DO.no.rq Z = (True) := rfl
theorem q24 (a : DE) (Z : Cy) : (DO.so a).rq Z = (a.rq Z) := rfl
theorem q25 (a : DE) (lo hi : DO) (Z : Cy) : (DE.sl a lo hi).rq Z = (a.rq Z ∧ lo.rq Z ∧ hi.rq Z) := rfl
theorem q26 (a : DA) (Z : Cy) : (DE.tup a).rq Z = (a.rq Z) := rfl
theorem q27 (a : DA) (Z : Cy) : (DL.dis a).rq Z = (a.rq Z) := rfl
theorem q28 (l : DL) (Z : Cy) : (DE.lst l).rq Z = (l.rq Z) := rfl
theorem q29 (l : DL) (Z : Cy) : (DE.thw l).rq Z = (l.rq Z) := rfl
theorem q30 (a : DA) (Z : Cy) : (DL.lof a).rq Z = (Z.mg "list" = none ∧ a.rq Z) := rfl
theorem q31 (a b : DE) (Z : Cy) : (DL.cat a b).rq Z = (a.rq Z ∧ b.rq Z) := rfl
theorem q32 (a b : DE) (Z : Cy) : (DL.rep a b).rq Z = (a.rq Z ∧ b.rq Z) := rfl
theorem q33 (a : DE) (Z : Cy) : (DI.seq a).rq Z = (a.rq Z) := rfl
theorem q34 (a : DE) (Z : Cy) : (DI.range1 a).rq Z = (Z.mg "range" = none ∧ a.rq Z) := rfl
theorem q35 (a b : DE) (Z : Cy) : (DI.range2 a b).rq Z = (Z.mg "range" = none ∧ a.rq Z ∧ b.rq Z) := rfl
theorem q36 (a : DE) (Z : Cy) : (DI.chr a).rq Z = (a.rq Z) := rfl
theorem q37 (a b : DE) (Z : Cy) : (DI.zip a b).rq Z = (Z.mg "zip" = none ∧ a.rq Z ∧ b.rq Z) := rfl
theorem q38  (Z : Cy) : DF.no.rq Z = (True) := rfl
theorem q39 (t : DT) (Z : Cy) : (DF.one t).rq Z = (t.rq Z) := rfl
theorem q40 (own : List (Str × Nat)) (g : DG) (i : DI) (t : DF) (e : DE) (Z : Cy) : (DL.comp own g i t e).rq Z = (i.rq Z ∧ t.rq Z ∧ e.rq Z) := rfl
theorem q41  (Z : Cy) : DB.nil.rq Z = (True) := rfl
theorem q42 (a : DS) (b : DB) (Z : Cy) : (DB.cons a b).rq Z = (a.rq Z ∧ b.rq Z) := rfl
theorem q43 (a : DE) (Z : Cy) : (DS.expr a).rq Z = (a.rq Z) := rfl
theorem q44 (a : DE) (Z : Cy) : (DS.ret a).rq Z = (a.rq Z) := rfl
theorem q45  (Z : Cy) : DS.pass.rq Z = (True) := rfl
theorem q46  (Z : Cy) : DS.cont.rq Z = (True) := rfl
theorem q47 (i : Nat) (a : DE) (Z : Cy) : (DS.set i a).rq Z = (a.rq Z) := rfl
theorem q48 (i : Nat) (own : List (Str × Nat)) (g : DG) (it : DI) (t : DF) (e : DE) (Z : Cy) : (DS.setC i own g it t e).rq Z = (it.rq Z ∧ t.rq Z ∧ e.rq Z) := rfl
theorem q49 (i : Nat) (own : List (Str × Nat)) (g : DG) (it : DI) (t : DF) (e : DE) (Z : Cy) : (DS.setCT i own g it t e).rq Z = (it.rq Z ∧ t.rq Z ∧ e.rq Z) := rfl
theorem q50 (t : DG) (a : DE) (Z : Cy) : (DS.asg t a).rq Z = (a.rq Z) := rfl
theorem q51 (i j : Nat) (a b : DE) (Z : Cy) : (DS.par i j a b).rq Z = (a.rq Z ∧ b.rq Z) := rfl
theorem q52 (o b a : DE) (Z : Cy) : (DS.sub o b a).rq Z = (a.rq Z ∧ o.rq Z ∧ b.rq Z) := rfl
theorem q53 (t : DT) (a b : DB) (Z : Cy) : (DS.iff t a b).rq Z = (t.rq Z ∧ a.rq Z ∧ b.rq Z) := rfl
theorem q54 (t : DT) (b : DB) (Z : Cy) : (DS.while t b).rq Z = (t.rq Z ∧ b.rq Z) := rfl
theorem q55 (t : DG) (i : DI) (b : DB) (Z : Cy) : (DS.for t i b).rq Z = (i.rq Z ∧ b.rq Z) := rfl
theorem q56 (x : Str) (Z : Cy) : (DS.raise x).rq Z = (ExcOk Z x) := rfl
theorem q57 (f : Str) (C : Ct) (a : DA) (Z : Cy) : (DE.call f C a).rq Z = (CallOk Z f a.n C ∧ a.rq Z) := rfl
theorem q58 (f : Str) (C : Ct) (Z : Cy) : (DE.call0 f C).rq Z = (CallOk Z f 0 C) := rfl
theorem q59 (a : DE) (Z : Cy) : (DI.enum a).rq Z = (Z.mg "enumerate" = none ∧ a.rq Z) := rfl
theorem q60 (i : Nat) (a : DE) (Z : Cy) : (DL.srt i a).rq Z = (Z.mg "sorted" = none ∧ Z.mg "abs" = none ∧ (∃ c P, Z.code = .ref c ∧ LamX.TabB Z.base Z.mg c P ∧ Z.T = [(P, Z.qual ++ "<lambda>")]) ∧ a.rq Z) := rfl
theorem q61 (a : DA) (Z : Cy) : (DE.len a).rq Z = (Z.mg "len" = none ∧ a.rq Z) := rfl
theorem q62 (a : DA) (Z : Cy) : (DE.abs a).rq Z = (Z.mg "abs" = none ∧ a.rq Z) := rfl
theorem q63 (a : DA) (Z : Cy) : (DE.sum a).rq Z = (Z.mg "sum" = none ∧ a.rq Z) := rfl
theorem q64 (a : DA) (Z : Cy) : (DE.all a).rq Z = (Z.mg "all" = none ∧ a.rq Z) := rfl
theorem q65 (a : DA) (Z : Cy) : (DE.any a).rq Z = (Z.mg "any" = none ∧ a.rq Z) := rfl
theorem q66 (a : DA) (Z : Cy) : (DE.tuple a).rq Z = (Z.mg "tuple" = none ∧ a.rq Z) := rfl
theorem q67 (a : DA) (Z : Cy) : (DE.int a).rq Z = (Z.mg "int" = none ∧ a.rq Z) := rfl
theorem q68 (a : DA) (Z : Cy) : (DE.str a).rq Z = (Z.mg "str" = none ∧ a.rq Z) := rfl
theorem q69 (a : DE) (Z : Cy) : (DE.isTuple a).rq Z = (Z.mg "isinstance" = none ∧ Z.mg "tuple" = none ∧ a.rq Z) := rfl
theorem q70 (a : DE) (Z : Cy) : (DE.isInt a).rq Z = (Z.mg "isinstance" = none ∧ Z.mg "int" = none ∧ a.rq Z) := rfl
theorem q71 (a : DE) (Z : Cy) : (DE.isBool a).rq Z = (Z.mg "isinstance" = none ∧ Z.mg "bool" = none ∧ a.rq Z) := rfl
theorem q72 (a : DE) (Z : Cy) : (DE.isStr a).rq Z = (Z.mg "isinstance" = none ∧ Z.mg "str" = none ∧ a.rq Z) := rfl
theorem q73 (o a : DE) (Z : Cy) : (DE.append o a).rq Z = (o.rq Z ∧ a.rq Z) := rfl
theorem q74 (o a : DE) (Z : Cy) : (DE.extend o a).rq Z = (o.rq Z ∧ a.rq Z) := rfl
theorem q75 (o : DE) (Z : Cy) : (DE.pop o).rq Z = (o.rq Z) := rfl
theorem qn0 : DA.nil.n = 0 := rfl
theorem qn1 (a : DE) (r : DA) : (DA.cons a r).n = r.n + 1 := rfl
/-- a def's promise, as the library says it -/
theorem fn_ok {P : Program} {w : World} {K : Fg} {mg : Str → Option Value} {base : Heap} {x : Str} {st : Stmt} {f : Addr} {oc : Value} {od an : Option Addr} {osl : Array (Option Value)} {kV doc pm cdv ct : Value} {N ps : List Str} {k n : Nat} {b : DB}
    (l : K.K.lookup f = some ⟨oc, od, .func (PySem.W.fnOf x x (defArgs st) (defBody st) (defScope st) .none kV doc pm an cdv ct), osl⟩) (hcd : PySem.W.codeIn K.K cdv x = true) (S : FnScope N ps (defScope st)) (hn : ps.length = n)
    (hm : b.mt ⟨N, defScope st, fun _ => true⟩ (defBody st) = true) (hq : ∀ A, Room k A → b.rq ⟨P, w, K.K, mg, base, A, cdv, x ++ ".<locals>.", K.T⟩) :
    FnOk P w K.K mg base (L2.CX P w) (k + 1) f (PySem.W.fnOf x x (defArgs st) (defBody st) (defScope st) .none kV doc pm an cdv ct) ps (spOf K mg n (ctOf N.length b)) := by
  refine fn_of l hcd S (fun vs H Q E ⟨ds, S, F, ads, Qd, Xd, hl, sm, rs, _⟩ => by rw [← rs.length, hl, hn]) fun A outer s H vs Q E hr hsp => ?_
  obtain ⟨ds, S0, F0, ads, Qd, Xd, hl, sm, rs, hc, kv, kx⟩ := hsp
  have gd : Good (cxOf (L2.CX P w) P w K.K mg base N x (defScope st) f cdv A outer s H E) (fun cls d _ H => E cls d H) :=
    ⟨rfl, S.nd, takes_of rfl rfl rfl rfl, passes_of rfl, by have := hr.un; show (A.deeper _).units + 200 < cLine; omega, by have := hr.dp; show (A.deeper _).depth + 5 < recursionLimit; omega⟩
  refine ⟨_, b.ok _ _ K.T _ hm gd ⟨S.kind, rfl, rfl, rfl⟩ (hq _ hr), ?_⟩
  refine ⟨startD N.length ds, S0, F0, ads, _, start_r rs, sm, hc, fun F1 ads1 S1 H1 env1 σ1 x1 s1 _ h1 => kv _ _ _ _ _ _ x1 s1 .non h1, kv, fun _ _ _ _ _ _ _ _ _ h => h.elim, fun _ _ _ _ _ _ _ _ _ h => h.elim, fun F1 ads1 S1 H1 env1 σ1 x x1 s1 _ h1 => kx _ _ _ _ _ x1 s1 h1⟩
theorem sp_imp {P : Program} {w : World} {K : Fg} {mg : Str → Option Value} {base : Heap} {k n : Nat} {f : Addr} {fd : FuncData} {ps : List Str} {C C' : Ct} (h : FnOk P w K.K mg base (L2.CX P w) k f fd ps (spOf K mg n C)) (q : ∀ ds S Q X, C' ds S Q X → C ds S Q X) : FnOk P w K.K mg base (L2.CX P w) k f fd ps (spOf K mg n C') :=
  h.imp fun vs H Q E ⟨ds, S, F, ads, Qd, Xd, hl, sm, rs, hc, kv, kx⟩ => ⟨ds, S, F, ads, Qd, Xd, hl, sm, rs, q _ _ _ _ hc, kv, kx⟩
/-- .. and by its name -/
theorem fn_atK {P : Program} {w : World} {K : Fg} {mg : Str → Option Value} {base h : Heap} {x : Str} {st : Stmt} {f : Addr} {oc : Value} {od an : Option Addr} {osl : Array (Option Value)} {kV doc pm cdv ct : Value} {N ps : List Str} {k n : Nat} {b : DB} {C : Ct}
    (X : K.K.In h) (G : h.Ns mainGlobals mg) (a : PySem.W.nsIn K.K mainGlobals x = some (some (.ref f)))
    (l : K.K.lookup f = some ⟨oc, od, .func (PySem.W.fnOf x x (defArgs st) (defBody st) (defScope st) .none kV doc pm an cdv ct), osl⟩) (hcd : PySem.W.codeIn K.K cdv x = true) (kp : PySem.W.keepIn K.K (.ref f) = true) (S : FnScope N ps (defScope st)) (hn : ps.length = n)
    (hb : ∀ (kV doc pm : Value) (an : Option Addr) (cdv ct : Value) (us : List Value), us.length = ps.length → bindArgs (PySem.W.fnOf x x (defArgs st) (defBody st) (defScope st) .none kV doc pm an cdv ct) ⟨us, []⟩ = pure (ps.zip us))
    (hm : b.mt ⟨N, defScope st, fun _ => true⟩ (defBody st) = true) (hw : ∀ {ds S Q X}, C ds S Q X → ctOf N.length b ds S Q X) (hq : ∀ A, Room k A → b.rq ⟨P, w, K.K, mg, base, A, cdv, x ++ ".<locals>.", K.T⟩) : FnAt P w K mg base (k + 1) x n C :=
  ⟨f, _, ps, sp_imp (fn_ok l hcd S hn hm hq) fun _ _ _ _ => hw, PySem.W.mg_of X G a, kp, (fun_mk l hcd kp).binds hb⟩
theorem cx_never {P : Program} {w : World} {H : Hp} {s : Shared} {e : Value} {s' : Shared} (h : L2.CX P w [] H s (fun _ _ _ => False) e s') : False := by
  obtain ⟨_, _, _, _, _, _, _, _, _, _, _, _, h⟩ := h
  exact h
/-! #### DL14 -/
/-! The D layer, part 14: more words. -/
def oMin : List D → Sto → QD → Prop
  | [.int i, .int j], S, Q => Q (.int (if j < i then j else i)) S
  | [x], S, Q => ∃ ns : List Int, lstOf S x = some (ns.map .int) ∧ 0 < ns.length ∧ ∀ m, m ∈ ns → (∀ y, y ∈ ns → m ≤ y) → Q (.int m) S
  | _, _, _ => False
theorem ok_min {K : Fg} : OkA K oMin (fun xs H Q => (∃ i j, xs = [.int i, .int j] ∧ Q (.int (if j < i then j else i)) H) ∨ rMin K.K xs H Q) := by
  intro F ads S H xs vs Qd Q sm rx h kv
  unfold oMin at h
  split at h
  · cases rx with
    | cons r t =>
      cases t with
      | cons r2 t2 =>
        cases t2; cases r; cases r2
        exact .inl ⟨_, _, rfl, kv _ _ _ _ _ _ Ext.refl sm (.int _) h⟩
  · cases rx with
    | cons r t =>
      cases t
      obtain ⟨ns, hs, hn, hq⟩ := h
      obtain ⟨a, ys, e, hy, rs⟩ := lst_sq sm r hs
      subst e
      have := rs.ints
      subst this
      exact .inr ⟨a, ns, rfl, hy, hn, fun m h1 h2 => kv _ _ _ _ _ _ Ext.refl sm (.int _) (hq m h1 h2)⟩
  · exact h.elim
def DE.min : DA → DE := mkB "min" "min" (by decide +kernel) (by decide) (by decide) oMin fun X W T g => ⟨_, (call_min2 g.calm).or (cr_min g.calm), ok_min⟩
theorem y0 (a : DA) : (DE.min a).wp = wAp oMin a.wp := rfl
theorem oMin_ii (i j : Int) (S : Sto) (Q : QD) : oMin [.int i, .int j] S Q = Q (.int (if j < i then j else i)) S := rfl
theorem r0 (a : DA) (Z : Cy) : (DE.min a).rq Z = (Z.mg "min" = none ∧ a.rq Z) := rfl
/-! #### DL15 -/
/-! The D layer, part 15: try .. except X as e: c = e, the exception kept; isinstance of it. -/
/-- a thing that stands in the heap is tracked from now on -/
theorem inv_track {X : Cx} {pins : List (Addr × Obj)} {σ : L2.St} {H : Hp} {s : Shared} {a : Addr} {o : HO} (I : Inv X pins σ H s) (n0 : X.s_0.heap.get? a = none) (nH : H a = none) (nL : a ≠ X.env.locals) (nC : ∀ x c, X.env.cells.lookup x = some c → c ≠ a)
    (nP : ∀ p ∈ X.pn ++ pins, p.1 ≠ a) (hT : ∀ xs, o ≠ .tup xs) (new : ObjOk X.prog X.w (upd H a o) s.heap a o) : Inv X pins σ (upd H a o) s := by
  have sm : ∀ b u, H b = some u → upd H a o b = some u := fun b u e => by rw [upd_ne (ne_of_none e nH)]; exact e
  have un : Un X.fs X.ex X.H_0 (upd H a o) X.s_0.heap s.heap := by
    refine ⟨I.base.keep, I.base.slot, fun b ob e n hx => ?_, I.base.there, fun b xs e => sm _ _ (I.base.tups b xs e), fun b ob u e => sm _ _ (I.base.frzs b ob u e), fun b ps e => ?_⟩
    · have ne : b ≠ a := fun z => by rw [z, n0] at e; cases e
      rw [upd_ne ne]; exact I.base.free b ob e n hx
    · obtain ⟨more, q⟩ := I.base.tbls b ps e
      exact ⟨more, sm _ _ q⟩
  refine ⟨I.ok, I.os, I.bare, un, I.loc, I.cell, by rw [upd_ne (Ne.symm nL)]; exact I.free, fun x c e => by rw [upd_ne (nC x c e)]; exact I.freeC x c e, fun p hp => ?_, fun b u e => ?_, I.len⟩
  · obtain ⟨h1, h2, h3⟩ := I.pin p hp
    exact ⟨h1, by rw [upd_ne (nP p hp)]; exact h2, h3⟩
  · by_cases hb : b = a
    · subst hb
      rw [upd_same] at e
      cases e
      exact new
    · rw [upd_ne hb] at e
      exact (I.hok b u e).stay (fun _ _ _ q => q) (fun c q => sm _ _ q) (fun c xs q => sm _ _ q)
/-- what 'except x as n: (one statement)' wishes, the exception kept behind it -/
def wKept (K : PySem.W.Frag) (c : Value) (i : Nat) (ts : Addr → TS) (D : Ends) : WX := fun cls d σ H =>
  ∃ C, cls = .ref C ∧ d = none ∧ PySem.W.exmOne K cls c = some true ∧ ∀ a, H a = none →
    ts a { nx := fun σ' H' => H' a = none ∧ D.nx (σ'.set i none) (upd H' a (ExcO a C)), rt := fun _ _ => False, bk := fun _ _ => False, ct := fun _ _ => False } (σ.set i (some (.ref a))) H
section
variable {X : Cx} {x n : Str} {c : Value} {i : Nat} {body : List Stmt} {b0 : Stmt} {np p1 p2 : Pos} {tb : WX → TS} {ts : Addr → TS}
theorem excO_ok {P : Program} {w : World} {H : Hp} {h : Heap} {a C : Addr} {oe : Obj} (e : h.get? a = some oe) (z : Zc (.ref C) none oe) (f : ∃ vs, oe.data = .fields vs) : ObjOk P w H h a (ExcO a C) := by
  obtain ⟨vs, hv⟩ := f
  refine ⟨⟨oe, vs, e, z, hv⟩, ⟨oe, e⟩, fun h1 h2 ⟨oe', vs', e', z', v'⟩ k => ⟨oe', vs', k _ e', z', v'⟩⟩
theorem ps_try_kept (fk : FnK X) (hN : X.N.Nodup) (hi : X.N[i]? = some n) (hln : X.env.kindOf n = some .local) (hc : Names X x c)
    (hb : ∀ (W : WX) (pn : List (Addr × Obj)) (xe : Value → Shared → Prop), Takes (X.tr pn xe) W → PassesOwn (model X.prog X.w) X.A X.env xe → PSs (X.tr pn xe) body (tb W))
    (hsu : ∀ (a : Addr) (oe : Obj) (pn : List (Addr × Obj)), PSs (X.suite a ((a, oe) :: pn)) [b0] (ts a)) :
    PS X (.Try body [.ExceptHandler (some (.Name x np)) (some n) [b0] p1] [] [] p2) (fun D σ H => tb (wKept X.K c i ts D) D σ H) := by
  refine ⟨fun pins s σ H D I h => ?_⟩
  have ok := I.ok
  have hfr : X.A.frames = some (X.env :: X.outer) := by rw [ok.frames, fk.stk]
  have run := (hb (wKept X.K c i ts D) (X.pn ++ pins) (fun e s1 => wpAny (model X.prog X.w) X.A (noteFrame e X.env) (fun _ s2 => wpAny (model X.prog X.w) X.A (setFlight e none)
    (fun _ s3 => wpAny (model X.prog X.w) X.A (handleBy e X.env [.ExceptHandler (some (.Name x np)) (some n) [b0] p1]) (SP X pins D) X.xe s3) X.xe s2) X.xe s1) (fun u s' air => ?_) PassesOwn.looking).run [] s σ H D (I.toTry _) h
  · refine wpAny_Try_except (wpAny_mono run (fun f s1 q => ?_) (fun _ _ q => q))
    cases f with
    | next => obtain ⟨σ1, H1, J1, q1⟩ := q; exact wpAny_execs_nil ⟨σ1, H1, J1.ofTry ok, q1⟩
    | brk => obtain ⟨σ1, H1, J1, q1⟩ := q; exact ⟨σ1, H1, J1.ofTry ok, q1⟩
    | cont => obtain ⟨σ1, H1, J1, q1⟩ := q; exact ⟨σ1, H1, J1.ofTry ok, q1⟩
    | ret u => obtain ⟨v1, σ1, H1, J1, r1, q1⟩ := q; exact ⟨v1, σ1, H1, J1.ofTry ok, r1, q1⟩
  obtain ⟨a, B, sI, ps, σ', H', cls, d, rfl, J0, nb, up, sky, na, os, ag, C, rfl, rfl, hb1, hyes⟩ := air
  have J : Inv X pins σ' H' sI := J0.ofTry ok
  have sk : Sky B (X.env :: X.outer) a (Zc (.ref C) none) X.env.locals s'.heap := by rw [← fk.stk]; exact sky
  show wpAny (model X.prog X.w) X.A (noteFrame (.ref a) X.env) _ _ _
  have bN : B.get? a = none := by
    rcases sk with q | q | q
    · exact q.2.1
    · exact q.2.1
    · exact q.2.1
  refine Sky.land Zc.steady hfr fk.frm sk fun h3 f3 up3 => ?_
  have L3 : Inv X pins σ' H' { s' with heap := h3 } := J.landed nb f3.1 (up.trans up3) os ag
  obtain ⟨o3, v3, g3, z3, d3⟩ := f3.there
  have out : a ∉ frs (X.env :: X.outer) := fun hm => by
    obtain ⟨_, o', e', no⟩ := f3.2.2.1.mem hm
    rw [g3] at e'; cases e'
    exact no _ d3
  have nL : a ≠ X.env.locals := fun z => out (List.mem_filterMap.mpr ⟨X.env, List.mem_cons_self, by rw [fk.frm, z]⟩)
  have nF : a ∉ X.fs := fun hm => by
    obtain ⟨e, he, q⟩ := List.mem_filterMap.mp hm
    exact out (List.mem_filterMap.mpr ⟨e, List.mem_cons_of_mem _ he, q⟩)
  have nI : sI.heap.get? a = none := by
    cases e : sI.heap.get? a with
    | none => rfl
    | some o =>
      have := nb a o e (by rw [fk.stk]; exact out)
      rw [bN] at this; cases this
  have n0 : X.s_0.heap.get? a = none := by
    cases e : X.s_0.heap.get? a with
    | none => rfl
    | some o =>
      obtain ⟨o', q⟩ := J.base.there a o e (by rw [fk.ex]; simp)
      rw [nI] at q; cases q
  have S3 := L3.suite g3 d3 na nL nF
  refine wpAny_handleBy_cons (codeAny_handlers_test ?_) (by intro q; cases q)
  have ty : PySem.W.Looks (model X.prog X.w) h3 (typeOf (.ref a)) (.ref C) := fun A Q E s k q => wpAny_typeOf_ref (k _ _ g3) (by rw [z3.1]; exact q)
  have mt := PySem.W.exm_one (M := model X.prog X.w) L3.kIn ty hb1
  have look : ∀ {Q : Value → Shared → Prop} {E : Value → Shared → Prop}, Q c { s' with heap := h3 } →
      wpAny (model X.prog X.w) (X.A.mark (some (.ref a))) (eval (.Name x np) X.env) Q E { s' with heap := h3 } := fun {Q E} q => by
    rcases hc with ⟨hg, hdbg, hm | ⟨hm, hv, hnn⟩⟩
    · exact ld_glob (X := X.suite a ((a, o3) :: (X.pn ++ pins))) S3 hg hm q hdbg
    · exact ld_blt (X := X.suite a ((a, o3) :: (X.pn ++ pins))) S3 hg hm hv q hnn hdbg
  refine look (mt.here (codeAny_handlers_suite_as (HandSPX.lands_againZ f3 fun h4 f4 up4 => ?_)))
  have L4 : Inv X pins σ' H' { s' with heap := h4 } := J.landed nb f4.1 ((up.trans up3).trans up4) os ag
  obtain ⟨o4, v4, g4, z4, d4⟩ := f4.there
  refine store_ok (X := X.suite a ((a, o4) :: (X.pn ++ pins))) (v := .ref a) (L4.suite g4 d4 na nL nF) hN hi (.inl hln) rfl (fun s5 S5 => ?_) (.inr hln)
  refine wpAny_mono ((hsu a o4 (X.pn ++ pins)).run [] s5 _ H' _ S5 (hyes a na)) (fun f s6 q => ?_) (fun _ _ z => False.elim z)
  cases f with
  | next =>
    obtain ⟨σ6, H6, S6, n6, q6⟩ := q
    obtain ⟨g6, _⟩ := S6.pin (a, o4) (List.mem_append.mpr (.inl List.mem_cons_self))
    have K6 : Inv X pins σ6 H6 s6 := S6.unsuite ok
    have K7 : Inv X pins σ6 (upd H6 a (ExcO a C)) s6 := inv_track K6 n0 n6 nL (fun y cc e z => by
      obtain ⟨v, hcell⟩ := K6.cell y cc e
      obtain ⟨oc, ec, dc⟩ := hcell
      rw [z, g6] at ec; cases ec
      rw [d4] at dc; cases dc) (fun p hp z => by
        obtain ⟨q1, q2, q3⟩ := I.pin p hp
        obtain ⟨r1, _⟩ := J.pin p hp
        rw [z, nI] at r1; cases r1) (fun xs z => by cases z) (excO_ok g6 z4 ⟨_, d4⟩)
    exact gone_ok K7 hN hi hln fun s7 J7 => ⟨_, _, J7, q6⟩
  | brk => obtain ⟨_, _, _, z⟩ := q; exact z.elim
  | cont => obtain ⟨_, _, _, z⟩ := q; exact z.elim
  | ret u => obtain ⟨_, _, _, _, _, z⟩ := q; exact z.elim
end
/-! ### the program's exceptions -/
def exNs : List Str := ["InvalidBasis", "InvalidVector", "InvalidLength", "InvalidPoint", "InvalidDimension", "InvalidNumber", "InvalidText", "Unlike", "NotPart", "TooMany", "TooLarge", "NothingToUndo"]
structure ExcTab (K : PySem.W.Frag) (mg : Str → Option Value) : Prop where
  ns : ∀ x ∈ exNs, ∃ C, PySem.W.nsIn K mainGlobals x = some (some (.ref C)) ∧ mg x = some (.ref C) ∧ ExcC K C
  isa : ∀ x ∈ exNs, ∀ y ∈ exNs, ∀ C D, PySem.W.nsIn K mainGlobals x = some (some (.ref C)) → PySem.W.nsIn K mainGlobals y = some (some (.ref D)) → PySem.W.kitOne K (.ref C) (.ref D) = some (decide (x = y))
  ve : ∀ x ∈ exNs, ∀ C, PySem.W.nsIn K mainGlobals x = some (some (.ref C)) → PySem.W.kitOne K (.ref C) (.type "ValueError") = some true
  gr : ∃ G, mg "GridError" = some (.ref G) ∧ ∀ x ∈ exNs, ∀ C, PySem.W.nsIn K mainGlobals x = some (some (.ref C)) → PySem.W.exmOne K (.ref C) (.ref G) = some true
def excCB (K : PySem.W.Frag) (D : Addr) : Bool :=
  PySem.W.findIn K (.ref D) "__getattribute__" == some (some (.builtin "BaseException.__getattribute__")) && PySem.W.findIn K (.ref D) "__getattr__" == some none &&
  PySem.W.subIn K (.ref D) (.type "BaseException") == some true && PySem.W.hasDictIn K D && PySem.W.findIn K (.ref D) "__class__" == some (some (.builtin "object.__class__")) &&
  PySem.W.specialIn K (.builtin "object.__class__") "__get__" == some (some (.builtin "getset_descriptor.__get__")) && PySem.W.takesIn K (.builtin "object.__class__") == some true && PySem.W.mroIn K D (.type "object") == some true
def nsRef (K : PySem.W.Frag) (x : Str) : Option Addr := match PySem.W.nsIn K mainGlobals x with
  | some (some (.ref C)) => some C
  | _ => none
def excAllB (K : PySem.W.Frag) : Bool := match nsRef K "GridError" with
  | some G => exNs.all fun x => match nsRef K x with
    | some C => excCB K C && PySem.W.kitOne K (.ref C) (.type "ValueError") == some true && PySem.W.exmOne K (.ref C) (.ref G) == some true &&
      exNs.all fun y => match nsRef K y with
        | some D => PySem.W.kitOne K (.ref C) (.ref D) == some (x == y)
        | none => false
    | none => false
  | none => false
theorem nsRef_of {K : PySem.W.Frag} {x : Str} {C : Addr} (h : nsRef K x = some C) : PySem.W.nsIn K mainGlobals x = some (some (.ref C)) := by
  unfold nsRef at h
  split at h
  · rename_i e; cases h; exact e
  · cases h
theorem nsRef_to {K : PySem.W.Frag} {x : Str} {C : Addr} (h : PySem.W.nsIn K mainGlobals x = some (some (.ref C))) : nsRef K x = some C := by
  unfold nsRef; rw [h]
theorem exc_tab {K : PySem.W.Frag} {h : Heap} {mg : Str → Option Value} (X : K.In h) (G : h.Ns mainGlobals mg) (b : excAllB K = true) : ExcTab K mg := by
  unfold excAllB at b
  split at b
  rotate_left
  · cases b
  rename_i g hg
  have key : ∀ x ∈ exNs, ∃ C, nsRef K x = some C ∧ excCB K C = true ∧ PySem.W.kitOne K (.ref C) (.type "ValueError") = some true ∧ PySem.W.exmOne K (.ref C) (.ref g) = some true ∧ ∀ y ∈ exNs, ∃ D, nsRef K y = some D ∧ PySem.W.kitOne K (.ref C) (.ref D) = some (x == y) := by
    intro x hx
    have := List.all_eq_true.mp b x hx
    split at this
    · rename_i C e
      simp only [Bool.and_eq_true, beq_iff_eq] at this
      obtain ⟨⟨⟨h1, h2⟩, h3⟩, h4⟩ := this
      refine ⟨C, e, h1, h2, h3, fun y hy => ?_⟩
      have q := List.all_eq_true.mp h4 y hy
      split at q
      · rename_i D e2
        exact ⟨D, e2, by simpa using q⟩
      · cases q
    · cases this
  refine ⟨fun x hx => ?_, fun x hx y hy C D h1 h2 => ?_, fun x hx C h1 => ?_, g, PySem.W.mg_of X G (nsRef_of hg), fun x hx C h1 => ?_⟩
  · obtain ⟨C, e, c, _⟩ := key x hx
    unfold excCB at c
    simp only [Bool.and_eq_true, beq_iff_eq] at c
    obtain ⟨⟨⟨⟨⟨⟨⟨c1, c2⟩, c3⟩, c4⟩, c5⟩, c6⟩, c7⟩, c8⟩ := c
    exact ⟨C, nsRef_of e, PySem.W.mg_of X G (nsRef_of e), c1, c2, c3, c4, c5, c6, c7, c8⟩
  · obtain ⟨C', e, _, _, _, k⟩ := key x hx
    rw [nsRef_to h1] at e; cases e
    obtain ⟨D', e2, q⟩ := k y hy
    rw [nsRef_to h2] at e2; cases e2
    rw [q]
    by_cases z : x = y
    · subst z; simp
    · simp [z]
  · obtain ⟨C', e, _, q, _⟩ := key x hx
    rw [nsRef_to h1] at e; cases e
    exact q
  · obtain ⟨C', e, _, _, q, _⟩ := key x hx
    rw [nsRef_to h1] at e; cases e
    exact q
/-! ### try -/
def wTry (i j : Nat) (b : WS) : WS := fun E env S => b { E with xq := fun x env' S' => x ∈ exNs ∧ i < env'.length ∧ E.nx ((env'.set j (some (.exc x))).set i none) S' } env S
def tryB (i j : Nat) (b : DB) (c : Sc) : Stmt → Bool
  | .Try body [.ExceptHandler (some (.Name x _)) (some n) [.Assign [.Name y _] (.Name z pz) _] _] [] [] _ =>
    x == "GridError" && glB c x && (c.N[i]? == some n) && (c.sc.names.lookup n == some .local) && locB c j y && nameB c i (.Name z pz) && b.mt c body
  | _ => false
def DS.tryK (i j : Nat) (b : DB) : DS where
  mt c s := tryB i j b c s
  wp := wTry i j b.wp
  rq Z := b.rq Z ∧ ExcTab Z.K Z.mg
  ok X W T s h g f q := by
    unfold tryB at h
    split at h
    rotate_left
    · cases h
    simp only [Bool.and_eq_true, beq_iff_eq] at h
    obtain ⟨⟨⟨⟨⟨⟨rfl, h1⟩, h2⟩, h3⟩, h4⟩, h5⟩, h6⟩ := h
    obtain ⟨G, hG, hgr⟩ := q.2.gr
    obtain ⟨k1, k2, k3⟩ := loc_of h4
    refine PS.imp (ps_try_kept (c := .ref G) (tb := fun W' => tS (kt X T) X.mg W' b.wp) (ts := fun _ => tAsg (tVar i) (gName j)) f g.nd h2 h3 ⟨gl_of h1, by decide, .inl hG⟩ (fun W' pn xe tk ow => ?_) (fun a oe pn => ?_)) fun D σ H ⟨env, S, F, ads, E, er, sm, hw, k⟩ => ?_
    · exact b.ok (X.tr pn xe) W' T _ h6 ⟨g.calm, g.nd, tk, ow, g.un, g.dp⟩ ⟨f.kind, f.stk, f.frm, f.ex⟩ q.1
    · refine pss_cons (u := tNext) (ps_set (X := X.suite a ((a, oe) :: pn)) g.nd k1 k2 (pe_slot (X := X.suite a ((a, oe) :: pn)) h5) (noComp_sw rfl) k3) pss_nil
    · refine ⟨env, S, F, ads, _, er, sm, hw, k.nx, k.rt, k.bk, k.ct, fun F1 ads1 S1 H1 env1 σ1 x x1 s1 r1 hx => ?_⟩
      obtain ⟨hin, hlen, hnx⟩ := hx
      obtain ⟨C, e1, e2, _⟩ := q.2.ns x hin
      have e2 : X.mg x = some (.ref C) := e2
      refine ⟨C, by rw [e2]; rfl, rfl, by rw [e2]; exact hgr x hin C e1, fun a ha => ?_⟩
      have hi : i < σ1.length := by rw [← r1.len]; exact hlen
      refine ⟨.ref a, by rw [List.getElem?_set_self hi], ha, ?_⟩
      obtain ⟨s2, x2⟩ := s1.frz ha (ExcO a C)
      refine k.nx _ _ _ _ _ _ (x1.trans x2) s2 ?_ hnx
      have r2 := r1.ext x2
      have rx : Rp (kt X T) (upd F1 a (ExcO a C)) ads1 (.exc x) (.ref a) := .exc upd_same e1
      have r3 : EnvR (kt X T) (upd F1 a (ExcO a C)) ads1 (env1.set i none) (σ1.set i (some (.ref a))) := by
        refine ⟨by simp [r2.len], fun m c hm => ?_⟩
        by_cases e : m = i
        · subst e
          by_cases hl : m < env1.length
          · rw [List.getElem?_set_self hl] at hm; cases hm
          · rw [List.getElem?_eq_none (by simpa using hl)] at hm; cases hm
        · rw [List.getElem?_set_ne (fun z => e z.symm)] at hm
          obtain ⟨v, h1, h2⟩ := r2.get m c hm
          exact ⟨v, by rw [List.getElem?_set_ne (fun z => e z.symm)]; exact h1, h2⟩
      have r4 := (r3.set (i := j) rx).setN (i := i)
      have ee : ((env1.set i none).set j (some (DLay.D.exc x))).set i none = (env1.set j (some (DLay.D.exc x))).set i none := by
        by_cases z : i = j
        · subst z; simp
        · rw [List.set_comm _ _ z, List.set_set]
      rw [ee] at r4
      exact r4
/-! ### isinstance of a kept exception -/
theorem exc_kit {X : Cx} {pins : List (Addr × Obj)} {σ : L2.St} {H : Hp} {s : Shared} {a C : Addr} (I : Inv X pins σ H s) (h : H a = some (ExcO a C)) (c : ExcC X.K C) :
    ∃ P : Heap → Prop, PySem.W.KitX X.K (.ref a) (.ref C) P ∧ P s.heap := by
  obtain ⟨⟨oe, vs, e, z, d⟩, _⟩ := (show ObjOk X.prog X.w H s.heap a (ExcO a C) from I.hok a _ h)
  have J : PySem.W.InstAt s.heap a oe C none := by
    obtain ⟨oc, od, oda, osl⟩ := oe
    obtain ⟨h1, h2⟩ := z
    dsimp only at h1 h2 d
    subst h1 h2 d
    exact ⟨e, rfl, rfl, trivial⟩
  exact ⟨_, PySem.W.handS_kitx_exc c.hg c.hk c.hs c.hd c.ha c.hn c.ht c.hm, J⟩
def rIsK (K : PySem.W.Frag) : List V → Hp → VK → Prop := fun xs H Q => ∃ (a C : Addr) (c : V) (cv : Value) (b : Bool), xs = [.ref a, c] ∧ H a = some (ExcO a C) ∧ ExcC K C ∧ ClsV c cv ∧ PySem.W.kitOne K (.ref C) cv = some b ∧ Q (.bl b) H
theorem call_isK {X : Cx} : CallR X (.builtin "isinstance") (rIsK X.K) := by
  intro pins s σ H xs us Q I r h
  obtain ⟨a, C, c, cv, b, rfl, ha, hc, hv, e, q⟩ := h
  obtain ⟨u1, u2, rfl, r1, r2⟩ := vals2 r
  have e2 := hv.eq r2
  subst e2
  cases (show u1 = Value.ref a from r1)
  obtain ⟨P, Z, p⟩ := exc_kit I ha hc
  exact PySem.W.kia_one Z I.kIn p e (fun z => nomatch z) fun tk => ⟨.bl b, H, I.tok tk, rfl, q⟩
def wIsX (C : Str) (a : WE) : WE := fun env S Q X => a env S (fun d S1 => ∃ x, d = .exc x ∧ x ∈ exNs ∧ Q (.bl (decide (x = C))) S1) X
def wIsVE (a : WE) : WE := fun env S Q X => a env S (fun d S1 => ∃ x, d = .exc x ∧ x ∈ exNs ∧ Q (.bl true) S1) X
theorem exc_at {K : Fg} {F : Hp} {ads : List Addr} {S : Sto} {H : Hp} {x : Str} {v : V} {mg : Str → Option Value} (t : ExcTab K.K mg) (hx : x ∈ exNs) (sm : Sim K F ads S H) (r : Rp K F ads (.exc x) v) : ∃ a C, v = .ref a ∧ H a = some (ExcO a C) ∧ ExcC K.K C ∧ PySem.W.nsIn K.K mainGlobals x = some (some (.ref C)) := by
  cases r with
  | exc h n =>
    rename_i a C
    obtain ⟨C', e1, _, c⟩ := t.ns x hx
    rw [n] at e1; cases e1
    exact ⟨a, C, rfl, sm.sub a _ h, c, n⟩
def DE.isX (C : Str) (a : DE) : DE where
  mt c e := match e with
    | .Call (.Name f _) [y, .Name z _] [] _ => f == "isinstance" && glB c "isinstance" && noStar y && a.mt c y && z == C && glB c C && exNs.contains C && !(C == ("__debug__" : Str))
    | _ => false
  wp := wIsX C a.wp
  rq Z := Z.mg "isinstance" = none ∧ ExcTab Z.K Z.mg ∧ a.rq Z
  ok X W T e h g q := by
    split at h
    · simp only [Bool.and_eq_true, beq_iff_eq, Bool.not_eq_true'] at h
      obtain ⟨⟨⟨⟨⟨⟨⟨rfl, h1⟩, h2⟩, h3⟩, rfl⟩, h5⟩, h6⟩, h7⟩ := h
      rename_i z _ _
      have hz : z ∈ exNs := by simpa using h6
      obtain ⟨Cz, n1, n2, _⟩ := q.2.1.ns z hz
      refine PE.imp (pe_callB call_isK (gl_of h1) q.1 (by decide +kernel) (pa_cons (a.ok X W T _ h3 g q.2.2) (pa_cons (pe_glob (v := .ref Cz) (gl_of h5) n2 rfl h7) pa_nil) (starEach_cons h2)) (by decide) (by decide) (starEach_cons h2) rfl) fun σ H Q ⟨env, S, F, ads, Qd, Xd, er, sm, hw, kv, kx⟩ => ?_
      refine ⟨env, S, F, ads, _, Xd, er, sm, hw, fun F1 ads1 S1 H1 d v x1 s1 r1 hh => ?_, kx⟩
      obtain ⟨x, rfl, hx, hq⟩ := hh
      obtain ⟨a', C, rfl, hH, hc, hn⟩ := exc_at q.2.1 hx s1 r1
      exact ⟨a', C, .ref Cz, .ref Cz, _, rfl, hH, hc, .own Cz, q.2.1.isa x hx z hz C Cz hn n1, kv _ _ _ _ _ _ x1 s1 (.bl _) hq⟩
    · cases h
def DE.isVE (a : DE) : DE where
  mt c e := match e with
    | .Call (.Name f _) [y, .Name z _] [] _ => f == "isinstance" && glB c "isinstance" && noStar y && a.mt c y && z == "ValueError" && glB c "ValueError"
    | _ => false
  wp := wIsVE a.wp
  rq Z := Z.mg "isinstance" = none ∧ Z.mg "ValueError" = none ∧ ExcTab Z.K Z.mg ∧ a.rq Z
  ok X W T e h g q := by
    split at h
    · simp only [Bool.and_eq_true, beq_iff_eq] at h
      obtain ⟨⟨⟨⟨⟨rfl, h1⟩, h2⟩, h3⟩, rfl⟩, h5⟩ := h
      refine PE.imp (pe_callB call_isK (gl_of h1) q.1 (by decide +kernel) (pa_cons (a.ok X W T _ h3 g q.2.2.2) (pa_cons (pe_bltn (v := .ty "ValueError") (gl_of h5) q.2.1 (by decide +kernel) rfl (by decide) (by decide)) pa_nil) (starEach_cons h2)) (by decide) (by decide) (starEach_cons h2) rfl) fun σ H Q ⟨env, S, F, ads, Qd, Xd, er, sm, hw, kv, kx⟩ => ?_
      refine ⟨env, S, F, ads, _, Xd, er, sm, hw, fun F1 ads1 S1 H1 d v x1 s1 r1 hh => ?_, kx⟩
      obtain ⟨x, rfl, hx, hq⟩ := hh
      obtain ⟨a', C, rfl, hH, hc, hn⟩ := exc_at q.2.2.1 hx s1 r1
      exact ⟨a', C, .ty "ValueError", .type "ValueError", _, rfl, hH, hc, .ty _, q.2.2.1.ve x hx C hn, kv _ _ _ _ _ _ x1 s1 (.bl _) hq⟩
    · cases h
/-! ### list.index, list.count -/
def oIndex : D → List D → Sto → QD → Prop
  | x, [.bl b], S, Q => ∃ (bs : List Bool) (j : Nat), lstOf S x = some (bs.map .bl) ∧ bs[j]? = some b ∧ (∀ m, m < j → bs[m]? ≠ some b) ∧ Q (.int (j : Nat)) S
  | x, [.str b], S, Q => ∃ (bs : List Str) (j : Nat), lstOf S x = some (bs.map .str) ∧ bs[j]? = some b ∧ (∀ m, m < j → bs[m]? ≠ some b) ∧ Q (.int (j : Nat)) S
  | _, _, _, _ => False
theorem ok_index {K : Fg} : OkM K oIndex (rIndex K.K) := by
  intro F ads S H x xs v vs Qd Q sm rx rxs h kv
  unfold oIndex at h
  split at h
  · obtain ⟨bs, j, hs, hj, hno, hq⟩ := h
    cases rxs with
    | cons r t =>
      cases t; cases r
      obtain ⟨a, ys, rfl, hy, rs⟩ := lst_sq sm rx hs
      have := rs.bls
      subst this
      refine ⟨a, _, _, j, _, rfl, rfl, hy, rfl, by simp [List.all_map, flatV], by rw [List.getElem?_map, hj]; rfl, by simp [eqV], fun m z' hm hz => ?_, kv _ _ _ _ _ _ Ext.refl sm (.int _) hq⟩
      rw [List.getElem?_map] at hz
      cases e : bs[m]? with
      | none => rw [e] at hz; cases hz
      | some b' =>
        rw [e] at hz; cases hz
        have := hno m hm
        rw [e] at this
        simp only [eqV, beq_eq_false_iff_ne]
        exact fun z => this (by rw [z])
  · obtain ⟨bs, j, hs, hj, hno, hq⟩ := h
    cases rxs with
    | cons r t =>
      cases t; cases r
      obtain ⟨a, ys, rfl, hy, rs⟩ := lst_sq sm rx hs
      have := rs.strs
      subst this
      refine ⟨a, _, _, j, _, rfl, rfl, hy, rfl, by simp [List.all_map, flatV], by rw [List.getElem?_map, hj]; rfl, by simp [eqV], fun m z' hm hz => ?_, kv _ _ _ _ _ _ Ext.refl sm (.int _) hq⟩
      rw [List.getElem?_map] at hz
      cases e : bs[m]? with
      | none => rw [e] at hz; cases hz
      | some b' =>
        rw [e] at hz; cases hz
        have := hno m hm
        rw [e] at this
        simp only [eqV, beq_eq_false_iff_ne]
        exact fun z => this (by rw [z])
  · exact h.elim
def DE.index : DE → DE → DE := mkM1 "list" "index" "list.index" PySem.F.plainAttrs_list PySem.F.slot_list_index PySem.F.type_list_index oIndex fun X W T g => ⟨_, mt_index, ok_index⟩
def rCntB (K : PySem.W.Frag) : V → List V → Hp → VK → Prop := fun x xs H Q => ∃ (p : Addr) (bs : List Bool) (b : Bool), x = .ref p ∧ xs = [.bl b] ∧ SqL K H p (bs.map V.bl) ∧ Q (.int (bs.count b : Nat)) H
theorem count_bl {b : Bool} : ∀ {bs : List Bool} {us : List Value}, Vals (bs.map V.bl) us → us.countP (eqU (.bl b)) = bs.count b
  | [], _, .nil => rfl
  | c :: bs, _, .cons r t => by
    cases r
    rw [List.countP_cons, count_bl t, List.count_cons]
    rfl
theorem mt_countB {X : Cx} : MtR X "list.count" (rCntB X.K) := by
  intro pins s σ H x xs v us Q I rx rxs h
  obtain ⟨p, bs, b, rfl, rfl, hs, q⟩ := h
  cases rx
  obtain ⟨u, rfl, ru⟩ := rxs.one
  obtain ⟨its, rv, ⟨⟨cls, dd, data, sl⟩, n, ho, hc, hdn, hd⟩, hlen⟩ := I.list hs
  simp only at hc hd
  subst hc hd
  have fl : (bs.map V.bl).all flatV = true := by simp [List.all_map, flatV]
  refine call_meets PySem.F.slot_list_count ⟨_, ho, rfl⟩ PySem.F.entry_list_count (PySem.F.args_list_count_2 (.ref p) u) (SeqAt.list_countAt p its.toArray n dd sl u (eqU (.bl b))) ⟨ho, fun y hy => mem_eqAt ru rfl rv fl y (by simpa using hy), .int (bs.count b : Nat), H, I.tok _, ⟨s.toks, ?_⟩, q⟩
  have e : its.toArray.toList.countP (eqU (.bl b)) = bs.count b := count_bl rv
  rw [e]
def oCount : D → List D → Sto → QD → Prop
  | x, [.bl b], S, Q => ∃ (bs : List Bool), lstOf S x = some (bs.map .bl) ∧ Q (.int (bs.count b : Nat)) S
  | _, _, _, _ => False
theorem ok_count {K : Fg} : OkM K oCount (rCntB K.K) := by
  intro F ads S H x xs v vs Qd Q sm rx rxs h kv
  unfold oCount at h
  split at h
  · obtain ⟨bs, hs, hq⟩ := h
    cases rxs with
    | cons r t =>
      cases t; cases r
      obtain ⟨a, ys, rfl, hy, rs⟩ := lst_sq sm rx hs
      have := rs.bls
      subst this
      exact ⟨a, _, _, rfl, rfl, hy, kv _ _ _ _ _ _ Ext.refl sm (.int _) hq⟩
  · exact h.elim
def DE.count : DE → DE → DE := mkM1 "list" "count" "list.count" PySem.F.plainAttrs_list PySem.F.slot_list_count PySem.F.type_list_count oCount fun X W T g => ⟨_, mt_countB, ok_count⟩
theorem y1 (i j : Nat) (b : DB) : (DS.tryK i j b).wp = wTry i j b.wp := rfl
theorem y2 (C : Str) (a : DE) : (DE.isX C a).wp = wIsX C a.wp := rfl
theorem y3 (a : DE) : (DE.isVE a).wp = wIsVE a.wp := rfl
theorem y4 (o a : DE) : (DE.index o a).wp = wM1 "list" oIndex o.wp a.wp := rfl
theorem y5 (o a : DE) : (DE.count o a).wp = wM1 "list" oCount o.wp a.wp := rfl
theorem r1 (i j : Nat) (b : DB) (Z : Cy) : (DS.tryK i j b).rq Z = (b.rq Z ∧ ExcTab Z.K Z.mg) := rfl
theorem r2 (C : Str) (a : DE) (Z : Cy) : (DE.isX C a).rq Z = (Z.mg "isinstance" = none ∧ ExcTab Z.K Z.mg ∧ a.rq Z) := rfl
theorem r3 (a : DE) (Z : Cy) : (DE.isVE a).rq Z = (Z.mg "isinstance" = none ∧ Z.mg "ValueError" = none ∧ ExcTab Z.K Z.mg ∧ a.rq Z) := rfl
theorem r4 (o a : DE) (Z : Cy) : (DE.index o a).rq Z = (o.rq Z ∧ a.rq Z) := rfl
theorem r5 (o a : DE) (Z : Cy) : (DE.count o a).rq Z = (o.rq Z ∧ a.rq Z) := rfl
/-! #### DL16 -/
/-! The D layer, part 16: texts. -/
def oJoin : D → List D → Sto → QD → Prop
  | .str a, [x], S, Q => ∃ ys : List Str, seqOf S x = some (ys.map .str) ∧ (ys.map (·.length)).sum + ys.length * a.length ≤ 16777216 ∧ Q (.str (Txt.join a ys)) S
  | _, _, _, _ => False
theorem ok_join {K : Fg} : OkM K oJoin (fun x xs H Q => ∃ a p, ∃ ys : List Str, x = .str a ∧ xs = [.ref p] ∧ (SqL K.K H p (ys.map V.str) ∨ SqT K.K H p (ys.map V.str)) ∧ (ys.map (·.length)).sum + ys.length * a.length ≤ 16777216 ∧ Q (.str (Txt.join a ys)) H) := by
  intro F ads S H x xs v vs Qd Q sm rx rxs h kv
  unfold oJoin at h
  split at h
  · obtain ⟨ys, hs, hz, hq⟩ := h
    cases rxs with
    | cons r t =>
      cases t; cases rx
      obtain ⟨p, us, rfl, hy, rs⟩ := seq_sq sm r hs
      have := rs.strs
      subst this
      exact ⟨_, p, ys, rfl, rfl, hy, hz, kv _ _ _ _ _ _ Ext.refl sm (.str _) hq⟩
  · exact h.elim
def DE.join : DE → DE → DE := mkM1 "str" "join" "str.join" PySem.F.plainAttrs_str PySem.F.slot_str_join PySem.F.type_str_join oJoin fun X W T g => ⟨_, mt_join, ok_join⟩
def oSplit : D → List D → Sto → QD → Prop
  | .str a, [.str b], S, Q => (b.length == 0) = false ∧ a.length + 2 ≤ sizeLine ∧ Q (.lst ((Txt.split a b).map .str)) S
  | _, _, _, _ => False
theorem ok_split {K : Fg} : OkM K oSplit (fun x xs H Q => ∃ a b, x = .str a ∧ xs = [.str b] ∧ (b.length == 0) = false ∧ a.length + 2 ≤ sizeLine ∧ rNewStrs (Txt.split a b) H Q) := by
  intro F ads S H x xs v vs Qd Q sm rx rxs h kv
  unfold oSplit at h
  split at h
  · obtain ⟨h1, h2, hq⟩ := h
    cases rxs with
    | cons r t =>
      cases t; cases rx; cases r
      refine ⟨_, _, rfl, rfl, h1, h2, fun p hp => ?_⟩
      obtain ⟨s2, x2⟩ := sm.frz hp (.lst ((Txt.split _ _).map V.str))
      exact kv _ _ _ _ _ _ x2 s2 (.lst upd_same (Rps.ofStrs _)) hq
  · exact h.elim
def DE.split : DE → DE → DE := mkM1 "str" "split" "str.split" PySem.F.plainAttrs_str PySem.F.slot_str_split PySem.F.type_str_split oSplit fun X W T g => ⟨_, mt_split, ok_split⟩
/-- list(text) -/
def chrs (z : Str) : List Str := z.cps.toList.map fun c => ⟨#[c]⟩
theorem call_listS {X : Cx} (hc : X.calm = true) : CallR X (.type "list") (fun xs H Q => ∃ z : Str, xs = [.str z] ∧ z.cps.size ≤ sizeLine ∧ ∀ l, H l = none → Q (.ref l) (upd H l (.lst ((chrs z).map V.str)))) := by
  intro pins s σ H xs us Q I r h
  obtain ⟨z, rfl, hz, q⟩ := h
  obtain ⟨u, rfl, t, rfl⟩ := vals1 r
  refine call_list_str (I.ok.hd hc) z t (fun h' tk acc c' kp e it => ?_) hz
  have hl : acc.toList.length = ((chrs z).map V.str).length := by
    have := it.1
    simp [chrs]
    omega
  have hv : Vals ((chrs z).map V.str) acc.toList := vals_of_idx _ _ hl fun j u hu => by
    obtain ⟨hj, eu⟩ := List.getElem?_eq_some_iff.mp hu
    have hj' : j < acc.size := by simpa using hj
    obtain ⟨c, tk', hc', hv'⟩ := it.2 j u (by simpa using hu)
    refine ⟨.str ⟨#[c]⟩, ?_, tk', hv'⟩
    simp only [chrs, List.map_map, List.getElem?_map]
    have : z.cps.toList[j]? = some c := by simpa using hc'
    rw [this]; rfl
  refine ⟨.ref s.heap.objs.size, _, I.laid (t' := tk) kp (Nat.le_refl _) (show ObjOk X.prog X.w _ h' _ (.lst ((chrs z).map V.str)) from ⟨by simp [chrs]; exact hz, acc.toList, c', hv, by simpa using e⟩), rfl, q _ (I.hok.fresh (Nat.le_refl _))⟩
def wLofS (a : WL) : WL := fun env S Q X => a env S (fun xs S1 => ∃ z, xs = [.str z] ∧ z.cps.size ≤ sizeLine ∧ Q ((chrs z).map .str) S1) X
def DL.lofS (a : DA) : DL where
  mt c e := bltB "list" a c e
  wp := wLofS a.wp
  rq Z := Z.mg "list" = none ∧ a.rq Z
  ok X W T e h g q := by
    unfold bltB at h
    split at h
    · simp only [Bool.and_eq_true, beq_iff_eq] at h
      obtain ⟨⟨rfl, h1⟩, h2⟩ := h
      obtain ⟨pa, ps⟩ := a.ok X W T _ h2 g q.2
      simp only [List.all_cons, Bool.and_eq_true] at ps
      refine PE.imp (pe_callTy (call_listS g.calm) (gl_of h1) q.1 (by decide +kernel) pa (by decide) (by decide) (starEach_cons ps.1) (star_any ps.2)) fun σ H Q ⟨env, S, F, ads, Qd, Xd, er, sm, hw, kv, kx⟩ => ?_
      refine ⟨env, S, F, ads, _, Xd, er, sm, hw, fun F1 ads1 S1 H1 ds vs x1 s1 r1 _ hh => ?_, kx⟩
      obtain ⟨z, rfl, hz, hq⟩ := hh
      cases r1 with
      | cons r t =>
        cases t; cases r
        exact ⟨z, rfl, hz, fun l hl => kv _ _ _ _ _ _ l x1 s1 (Rps.ofStrs _) hl hq⟩
    · cases h
theorem y6 (o a : DE) : (DE.join o a).wp = wM1 "str" oJoin o.wp a.wp := rfl
theorem y7 (o a : DE) : (DE.split o a).wp = wM1 "str" oSplit o.wp a.wp := rfl
theorem y8 (a : DA) : (DL.lofS a).wp = wLofS a.wp := rfl
theorem r6 (o a : DE) (Z : Cy) : (DE.join o a).rq Z = (o.rq Z ∧ a.rq Z) := rfl
theorem r7 (o a : DE) (Z : Cy) : (DE.split o a).rq Z = (o.rq Z ∧ a.rq Z) := rfl
theorem r8 (a : DA) (Z : Cy) : (DL.lofS a).rq Z = (Z.mg "list" = none ∧ a.rq Z) := rfl
/-! #### DL17 -/
/-! The D layer, part 17: instances of own classes: fields, methods, construction. -/
/-! ### fields -/
def putD (f : Str) (v : D) : List (Str × D) → List (Str × D)
  | [] => [(f, v)]
  | (g, x) :: r => if g = f then (g, v) :: r else (g, x) :: putD f v r
def getD' (f : Str) : List (Str × D) → Option D
  | [] => none
  | (g, x) :: r => if f = g then some x else getD' f r
section
variable {K : Fg} {F : Hp} {ads : List Addr}
theorem fs_get {f : Str} {d : D} : ∀ {fs : List (Str × D)} {gs : List (Str × V)}, gs.map (·.1) = fs.map (·.1) → Rps K F ads (fs.map (·.2)) (gs.map (·.2)) → getD' f fs = some d → ∃ v, gs.lookup f = some v ∧ Rp K F ads d v
  | [], _, _, _, h => by cases h
  | (g, x) :: r, [], e, _, _ => by cases e
  | (g, x) :: r, (g', y) :: r', e, q, h => by
    have e1 : g' = g := by have := congrArg List.head? e; simpa using this
    have e2 : r'.map (·.1) = r.map (·.1) := by have := congrArg List.tail e; simpa using this
    subst e1
    cases q with
    | cons qa qb =>
      unfold getD' at h
      by_cases k : f = g'
      · rw [if_pos k] at h
        cases h
        have hb : (f == g') = true := beq_iff_eq.mpr k
        exact ⟨y, by simp only [List.lookup, hb], qa⟩
      · rw [if_neg k] at h
        have hb : (f == g') = false := beq_eq_false_iff_ne.mpr k
        obtain ⟨v, h1, h2⟩ := fs_get e2 qb h
        exact ⟨v, by simp only [List.lookup, hb]; exact h1, h2⟩
theorem fs_none {f : Str} : ∀ {fs : List (Str × D)} {gs : List (Str × V)}, gs.map (·.1) = fs.map (·.1) → getD' f fs = none → gs.lookup f = none
  | [], [], _, _ => rfl
  | [], _ :: _, e, _ => by cases e
  | (g, x) :: r, [], e, _ => by cases e
  | (g, x) :: r, (g', y) :: r', e, h => by
    have e1 : g' = g := by have := congrArg List.head? e; simpa using this
    have e2 : r'.map (·.1) = r.map (·.1) := by have := congrArg List.tail e; simpa using this
    subst e1
    unfold getD' at h
    by_cases k : f = g'
    · rw [if_pos k] at h; cases h
    · rw [if_neg k] at h
      have hb : (f == g') = false := beq_eq_false_iff_ne.mpr k
      simp only [List.lookup, hb]
      exact fs_none e2 h
theorem fs_put {f : Str} {d : D} {v : V} (rd : Rp K F ads d v) : ∀ {fs : List (Str × D)} {gs : List (Str × V)}, gs.map (·.1) = fs.map (·.1) → Rps K F ads (fs.map (·.2)) (gs.map (·.2)) →
    (putF f v gs).map (·.1) = (putD f d fs).map (·.1) ∧ Rps K F ads ((putD f d fs).map (·.2)) ((putF f v gs).map (·.2))
  | [], [], _, _ => ⟨rfl, .cons rd .nil⟩
  | [], _ :: _, e, _ => by cases e
  | (g, x) :: r, [], e, _ => by cases e
  | (g, x) :: r, (g', y) :: r', e, q => by
    have e1 : g' = g := by have := congrArg List.head? e; simpa using this
    have e2 : r'.map (·.1) = r.map (·.1) := by have := congrArg List.tail e; simpa using this
    subst e1
    cases q with
    | cons qa qb =>
      unfold putD putF
      by_cases k : g' = f
      · rw [if_pos k, if_pos k]
        exact ⟨by rw [List.map_cons, List.map_cons, e2], .cons rd qb⟩
      · rw [if_neg k, if_neg k]
        obtain ⟨h1, h2⟩ := fs_put rd e2 qb
        exact ⟨by rw [List.map_cons, List.map_cons, h1], .cons qa h2⟩
end
/-- .. and no class has the name f -/
def FldOk (Z : Cy) (c f : Str) : Prop := ∃ C, PySem.W.nsIn Z.K mainGlobals c = some (some (.ref C)) ∧ Cls Z.K C ∧ NoAttr Z.K C f
def wFld (c f : Str) (a : WE) : WE := fun env S Q X => a env S (fun d S1 => ∃ i fs v, d = .han i ∧ S1[i]? = some (.ins c fs) ∧ getD' f fs = some v ∧ Q v S1) X
def DE.fld (c : Str) (a : DE) (f : Str) : DE where
  mt s e := match e with
    | .Attribute x g _ => g == f && noCall x && a.mt s x
    | _ => false
  wp := wFld c f a.wp
  rq Z := FldOk Z c f ∧ a.rq Z
  ok X W T e h g q := by
    split at h
    · simp only [Bool.and_eq_true, beq_iff_eq] at h
      obtain ⟨⟨rfl, h1⟩, h2⟩ := h
      obtain ⟨⟨C, hC, hc, hn⟩, q2⟩ := q
      refine PE.imp (pe_fld (a.ok X W T _ h2 g q2) (noCall_base h1)) fun σ H Q ⟨env, S, F, ads, Qd, Xd, er, sm, hw, kv, kx⟩ => ?_
      refine ⟨env, S, F, ads, _, Xd, er, sm, hw, fun F1 ads1 S1 H1 d v x1 s1 r1 hh => ?_, kx⟩
      obtain ⟨i, fs, u, rfl, hS, hg, hq⟩ := hh
      cases r1 with
      | han ha =>
        obtain ⟨a', ha', nF, C', dx, gs, hH, hn', ek, rs⟩ := s1.at hS
        rw [ha] at ha'; cases ha'
        have : C' = C := by
          have := hn'.symm.trans hC
          simpa using this
        subst this
        obtain ⟨w, hw, rw'⟩ := fs_get ek rs hg
        exact ⟨_, _, dx, gs, w, rfl, hH, hc, hn, hw, kv _ _ _ _ _ _ x1 s1 rw' hq⟩
    · cases h
def wSetF (c f : Str) (o a : WE) : WS := fun E env S => a env S (fun y S1 => o env S1 (fun d S2 => ∃ i fs, d = .han i ∧ S2[i]? = some (.ins c fs) ∧ fs.length < 1000 ∧ E.nx env (S2.set i (.ins c (putD f y fs)))) (fun x S2 => E.xq x env S2)) (fun x S1 => E.xq x env S1)
def DS.fld (c : Str) (o : DE) (f : Str) (a : DE) : DS where
  mt s st := match st with
    | .Assign [.Attribute x g _] e _ => g == f && o.mt s x && a.mt s e && noComp e
    | _ => false
  wp := wSetF c f o.wp a.wp
  rq Z := FldOk Z c f ∧ o.rq Z ∧ a.rq Z
  ok X W T st h g fk q := by
    split at h
    · simp only [Bool.and_eq_true, beq_iff_eq] at h
      obtain ⟨⟨⟨rfl, h1⟩, h2⟩, h3⟩ := h
      obtain ⟨⟨C, hC, hc, hn⟩, q2, q3⟩ := q
      refine PS.imp (ps_fld (o.ok X W T _ h1 g q2) (a.ok X W T _ h2 g q3) (noComp_sw h3)) fun D σ H ⟨env, S, F, ads, E, er, sm, hw, k⟩ => ?_
      refine ⟨env, S, F, ads, _, _, er, sm, hw, fun F1 ads1 S1 H1 y u x1 s1 r1 hh1 => ?_, k.xq.kx er⟩
      refine ⟨env, S1, F1, ads1, _, _, er.ext x1, s1, hh1, fun F2 ads2 S2 H2 d v x2 s2 r2 hh2 => ?_, (k.xq.kx er).ext x1⟩
      obtain ⟨i, fs, rfl, hS, hl, hq⟩ := hh2
      cases r2 with
      | han ha =>
        obtain ⟨a', ha', nF, C', dx, gs, hH, hn', ek, rs⟩ := s2.at hS
        rw [ha] at ha'; cases ha'
        have : C' = C := by
          have := hn'.symm.trans hC
          simpa using this
        subst this
        have hlen : gs.length = fs.length := by have := congrArg List.length ek; simpa using this
        obtain ⟨p1, p2⟩ := fs_put (f := _) (r1.ext x2) ek rs
        refine ⟨_, _, dx, gs, rfl, hH, hc, hn, by omega, ?_⟩
        obtain ⟨s3, x3⟩ := s2.put ha nF (.ins C' dx (putF _ u gs)) (o := .ins c (putD _ y fs)) ⟨nF, C', dx, _, upd_same, hn', p1, p2⟩
        have xx := (x1.trans x2).trans x3
        exact k.nx _ _ _ _ _ _ xx s3 (er.ext xx) hq
    · cases h
/-! ### methods -/
/-- a method of the text's class c keeps a promise -/
def MethAt (P : Program) (w : World) (K : Fg) (mg : Str → Option Value) (base : Heap) (k : Nat) (c m : Str) (n : Nat) (Ct0 : Ct) : Prop :=
  ∃ C a fd ps, PySem.W.nsIn K.K mainGlobals c = some (some (.ref C)) ∧ Cls K.K C ∧ Meth K.K C m a ∧ FnOk P w K.K mg base (L2.CX P w) k a fd ps (spOf K mg n Ct0) ∧ L2.Binds K.K fd ps []
theorem MethAt.mono {P : Program} {w : World} {K : Fg} {mg : Str → Option Value} {base : Heap} {j k n : Nat} {c m : Str} {Ct0 : Ct} (h : MethAt P w K mg base j c m n Ct0) (hk : j ≤ k) : MethAt P w K mg base k c m n Ct0 :=
  let ⟨C, a, fd, ps, h1, h2, h3, F, r⟩ := h
  ⟨C, a, fd, ps, h1, h2, h3, F.mono hk, r⟩
def MetOk (Z : Cy) (c m : Str) (n : Nat) (Ct0 : Ct) : Prop := ∃ k, MethAt Z.prog Z.w ⟨Z.K, Z.T⟩ Z.mg Z.base k c m n Ct0 ∧ Room k Z.A
def tMethS' (C : Addr) (m : Str) (sp : Sp) (E : L2.St → XK) (ta : TE) (t : TA) : TE := fun σ H Q => ta σ H fun x H1 => ∃ a dx fs, x = .ref a ∧ H1 a = some (.ins C dx fs) ∧ fs.lookup m = none ∧
  t σ H1 fun vs H2 => sp (x :: vs) H2 Q (E σ)
/-- o.m(..): the method is looked up, then called -/
theorem call_own {prog : Program} {w : World} {B : Around} {E : Value → Shared → Prop} {s : Shared} {en : PySem.Env} {ob : Expr} {nm : Str} {ap cp : Pos} {as : List Expr} {Q : Value → Shared → Prop}
    (h1 : attributeBase ob nm en (eval ob en) = eval ob en) (h2 : methodCallForm (as.length + ([] : List Keyword).length) (backTo cp (starEach as en)) (backToKw cp (keywordEach [] en)) = true) (h3 : (ap.endLine == cp.line) = true)
    (h : wpAny (model prog w) B (eval ob en) (fun ov s1 => ∀ pl, wpAny (model prog w) B (getMethod ov nm pl) (fun fx s2 => wpAny (model prog w) B (callWith cp fx.1 fx.2 (backTo cp (starEach as en)) (backToKw cp (keywordEach [] en))) Q E s2) E s1) E s) :
    wpAny (model prog w) B (eval (.Call (.Attribute ob nm ap) as [] cp) en) Q E s := by
  rw [arm_eval_Call, h1]
  have h4 : methodCallPos true ob en ap cp = pure cp := by
    unfold methodCallPos
    simp [h3]
  refine wpAny_bind (wpAny_mono h (fun ov s1 k1 => wpAny_bind (wpAny_standAt ?_)) fun _ _ z => z)
  unfold methodCall
  rw [h2]
  exact wpAny_bind (wpAny_holding (wpAny_mono (k1 _) (fun fx s2 k2 => wpAny_bind (wpAny_of_eq h4 k2)) fun _ _ z => z))
theorem few_ok {es : List Expr} {en : PySem.Env} {cp : Pos} (h : es.all noStar = true) (hl : es.length < 30) : methodCallForm (es.length + ([] : List Keyword).length) (backTo cp (starEach es en)) (backToKw cp (keywordEach [] en)) = true := by
  have h1 : (backTo cp (starEach es en)).all (fun x => !x.1) = true := by
    have := star_any (env := en) (pos := cp) h
    rw [List.all_eq_not_any_not]
    simpa using this
  unfold methodCallForm
  simp only [h1, Bool.true_and]
  simp [keywordEach, backToKw]
  exact hl
section
variable {X : Cx} {CX : CXT} {k : Nat} {f C : Addr} {fd : FuncData} {ps : List Str} {sp : Sp} {E : L2.St → XK} {x m : Str} {p cp ap : Pos} {e ob : Expr} {es : List Expr} {ta : TE} {t : TA}
theorem pe_methT (he : PE X ob ta) (cl : Cls X.K C) (mt : Meth X.K C m f) (F : FnOk X.prog X.w X.K X.mg X.base CX k f fd ps sp) (hr : Room k X.A) (hb : L2.Binds X.K fd ps []) (hx : ∀ σ, PassesAt CX X σ (E σ)) (ha : PA X (e :: es) t)
    (hs : (e :: es).all noStar = true) (hl : (e :: es).length < 30) (h1 : attributeBase ob m X.env (eval ob X.env) = eval ob X.env) (h3 : (ap.endLine == cp.line) = true) :
    PE X (.Call (.Attribute ob m ap) (e :: es) [] cp) (tMethS' C m sp E ta t) := by
  refine ⟨fun pn s0 σ H Q I0 h => ?_⟩
  have hs' := hs
  simp only [List.all_cons, Bool.and_eq_true] at hs'
  refine call_own h1 (few_ok hs hl) h3 (thn (he.run pn s0 σ H _ I0 h) fun u s1 ⟨x, H1, J1, rx, a, dx, fs, ex, ea, l, q⟩ => fun pl => ?_)
  subst ex
  cases (show u = Value.ref a from rx)
  refine getmeth_ok J1 ea cl mt l (PySem.W.callWith_K (first := [.ref a]) (h₀ := X.base) I0.ok.mod.kin mt.kp (thn (ha.run cp pn s1 σ H1 _ J1 q) fun us s2 ⟨vs, H2, J2, r, q2⟩ => ⟨J2.kIn, ?_⟩) (starEach_cons hs'.1) (star_any hs'.2))
  exact run_fnS (us := .ref a :: us) (vs := V.ref a :: vs) F hr hb (hx σ) J2 (.cons rfl r) q2
theorem pe_methT0 (he : PE X ob ta) (cl : Cls X.K C) (mt : Meth X.K C m f) (F : FnOk X.prog X.w X.K X.mg X.base CX k f fd ps sp) (hr : Room k X.A) (hb : L2.Binds X.K fd ps []) (hx : ∀ σ, PassesAt CX X σ (E σ))
    (h1 : attributeBase ob m X.env (eval ob X.env) = eval ob X.env) (h3 : (ap.endLine == cp.line) = true) :
    PE X (.Call (.Attribute ob m ap) [] [] cp) (tMethS' C m sp E ta tNil) := by
  refine ⟨fun pn s0 σ H Q I0 h => ?_⟩
  refine call_own h1 (few_ok (es := []) rfl (by decide)) h3 (thn (he.run pn s0 σ H _ I0 h) fun u s1 ⟨x, H1, J1, rx, a, dx, fs, ex, ea, l, q⟩ => fun pl => ?_)
  subst ex
  cases (show u = Value.ref a from rx)
  exact getmeth_ok J1 ea cl mt l (PySem.W.callWith_K0 (first := [.ref a]) J1.kIn mt.kp (run_fnS (us := [.ref a]) (vs := [V.ref a]) F hr hb (hx σ) J1 (.cons rfl .nil) q))
end
/-- o.m(e, ..) of an instance of c -/
def wMet (c m : Str) (C : Ct) (o : WE) (a : WL) : WE := fun env S Q X => o env S (fun d S1 => ∃ i fs, d = .han i ∧ S1[i]? = some (.ins c fs) ∧ getD' m fs = none ∧ a env S1 (fun ds S2 => C (d :: ds) S2 Q X) X) X
def metB (m : Str) (o : DE) (a : DA) (c : Sc) : Expr → Bool
  | .Call (.Attribute x n ap) (e :: es) [] cp => n == m && noCall x && o.mt c x && (ap.endLine == cp.line) && a.mt c (e :: es) && decide ((e :: es).length < 30)
  | _ => false
def DE.met (c m : Str) (C : Ct) (o : DE) (a : DA) : DE where
  mt s e := metB m o a s e
  wp := wMet c m C o.wp a.wp
  rq Z := MetOk Z c m (a.n + 1) C ∧ o.rq Z ∧ a.rq Z
  ok X W T e h g q := by
    obtain ⟨⟨k, ⟨Ca, ad, fd, ps, hC, hc, hm, F, hb⟩, hr⟩, q2, q3⟩ := q
    unfold metB at h
    split at h
    · simp only [Bool.and_eq_true, beq_iff_eq, decide_eq_true_eq] at h
      obtain ⟨⟨⟨⟨⟨rfl, h1⟩, h2⟩, h3⟩, h4⟩, h5⟩ := h
      obtain ⟨pa, hs⟩ := a.ok X W T _ h4 g q3
      refine PE.imp (pe_methT (E := L2.WE W) (o.ok X W T _ h2 g q2) hc hm F hr hb (fun σ => passAt g.tk σ) pa hs h5 (noCall_base h1) (by simpa using h3)) fun σ H Q ⟨env, S, F, ads, Qd, Xd, er, sm, hw, kv, kx⟩ => ?_
      refine ⟨env, S, F, ads, _, Xd, er, sm, hw, fun F1 ads1 S1 H1 d v x1 s1 r1 hh => ?_, kx⟩
      obtain ⟨i, fs, rfl, hS, hg, hw1⟩ := hh
      have r1' := r1
      cases r1 with
      | han ha =>
        obtain ⟨a', ha', nF, C', dx, gs, hH, hn', ek, rs⟩ := s1.at hS
        rw [ha] at ha'; cases ha'
        have : C' = Ca := by
          have := hn'.symm.trans hC
          simpa using this
        subst this
        refine ⟨_, dx, gs, rfl, hH, fs_none ek hg, env, S1, F1, ads1, _, Xd, er.ext x1, s1, hw1, fun F2 ads2 S2 H2 ds vs x2 s2 r2 l2 h2 => ?_, kx.ext x1⟩
        exact ⟨_ :: ds, S2, F2, ads2, Qd, Xd, by rw [List.length_cons, l2], s2, .cons (r1'.ext x2) r2, h2, kv.ext (x1.trans x2), fun F3 ads3 S3 H3 x x3 s3 h3 => kx _ _ _ _ _ ((x1.trans x2).trans x3) s3 h3⟩
    · cases h
def wMet0 (c m : Str) (C : Ct) (o : WE) : WE := fun env S Q X => o env S (fun d S1 => ∃ i fs, d = .han i ∧ S1[i]? = some (.ins c fs) ∧ getD' m fs = none ∧ C [d] S1 Q X) X
def DE.met0 (c m : Str) (C : Ct) (o : DE) : DE where
  mt s e := match e with
    | .Call (.Attribute x n ap) [] [] cp => n == m && noCall x && o.mt s x && (ap.endLine == cp.line)
    | _ => false
  wp := wMet0 c m C o.wp
  rq Z := MetOk Z c m 1 C ∧ o.rq Z
  ok X W T e h g q := by
    obtain ⟨⟨k, ⟨Ca, ad, fd, ps, hC, hc, hm, F, hb⟩, hr⟩, q2⟩ := q
    split at h
    · simp only [Bool.and_eq_true, beq_iff_eq, decide_eq_true_eq] at h
      obtain ⟨⟨⟨rfl, h1⟩, h2⟩, h3⟩ := h
      refine PE.imp (pe_methT0 (E := L2.WE W) (o.ok X W T _ h2 g q2) hc hm F hr hb (fun σ => passAt g.tk σ) (noCall_base h1) (by simpa using h3)) fun σ H Q ⟨env, S, F, ads, Qd, Xd, er, sm, hw, kv, kx⟩ => ?_
      refine ⟨env, S, F, ads, _, Xd, er, sm, hw, fun F1 ads1 S1 H1 d v x1 s1 r1 hh => ?_, kx⟩
      obtain ⟨i, fs, rfl, hS, hg, hw1⟩ := hh
      have r1' := r1
      cases r1 with
      | han ha =>
        obtain ⟨a', ha', nF, C', dx, gs, hH, hn', ek, rs⟩ := s1.at hS
        rw [ha] at ha'; cases ha'
        have : C' = Ca := by
          have := hn'.symm.trans hC
          simpa using this
        subst this
        refine ⟨_, dx, gs, rfl, hH, fs_none ek hg, ?_⟩
        exact ⟨[_], S1, F1, ads1, Qd, Xd, rfl, s1, .cons r1' .nil, hw1, kv.ext x1, fun F3 ads3 S3 H3 x x3 s3 h3 => kx _ _ _ _ _ (x1.trans x3) s3 h3⟩
    · cases h
/-! ### construction -/
def MakeAt (P : Program) (w : World) (K : Fg) (mg : Str → Option Value) (base : Heap) (k : Nat) (c : Str) (n : Nat) (Ct0 : Ct) : Prop :=
  ∃ C a fd ps, PySem.W.nsIn K.K mainGlobals c = some (some (.ref C)) ∧ mg c = some (.ref C) ∧ Mk K.K C a ∧ FnOk P w K.K mg base (L2.CX P w) k a fd ps (spOf K mg n Ct0) ∧ L2.Binds K.K fd ps []
def MakeOk (Z : Cy) (c : Str) (n : Nat) (Ct0 : Ct) : Prop := ∃ k, MakeAt Z.prog Z.w ⟨Z.K, Z.T⟩ Z.mg Z.base k c n Ct0 ∧ Room (k + 1) Z.A
section
variable {X : Cx} {CX : CXT} {k : Nat} {f C : Addr} {fd : FuncData} {ps : List Str} {sp : Sp} {E : L2.St → XK} {x m : Str} {p cp ap : Pos} {e ob : Expr} {es : List Expr} {ta : TE} {t : TA}
def tMakeS (C : Addr) (sp : Sp) (E : L2.St → XK) (t : TA) : TE := fun σ H Q => t σ H fun vs H1 => ∀ x dx, H1 x = none → H1 dx = none → dx ≠ x →
  sp (.ref x :: vs) (upd (upd H1 dx (.own x)) x (.ins C dx [])) (fun v H2 => v = .non ∧ Q (.ref x) H2) (E σ)
theorem run_makeS {pn : List (Addr × Obj)} {σ : L2.St} {H : Hp} {s0 : Shared} {Q : VK} {us : List Value} {vs : List V} (M : Mk X.K C f) (F : FnOk X.prog X.w X.K X.mg X.base CX k f fd ps sp) (hr : Room (k + 1) X.A) (hb : L2.Binds X.K fd ps [])
    (hx : PassesAt CX X σ (E σ)) (I0 : Inv X pn σ H s0) (r : Vals vs us)
    (h : ∀ x dx, H x = none → H dx = none → dx ≠ x → sp (.ref x :: vs) (upd (upd H dx (.own x)) x (.ins C dx [])) (fun v H2 => v = .non ∧ Q (.ref x) H2) (E σ)) :
    wpAny (model X.prog X.w) X.A (call (.ref C) us) (EP X pn σ Q) X.xe s0 := by
  have go := h (s0.heap.objs.size + 1) s0.heap.objs.size (I0.hok.fresh (Nat.le_succ _)) (I0.hok.fresh (Nat.le_refl _)) (Nat.ne_of_lt (Nat.lt_succ_self _))
  have J := Inv.made (C := C) I0
  have rr : Vals (V.ref (s0.heap.objs.size + 1) :: vs) (Value.ref (s0.heap.objs.size + 1) :: us) := .cons rfl r
  have hl : (Value.ref (s0.heap.objs.size + 1) :: us).length = ps.length := rr.length.symm.trans (F.len _ _ _ _ go)
  have bd := hb _ (Value.ref (s0.heap.objs.size + 1) :: us) J.kIn (by rw [List.append_nil]; exact hl)
  rw [List.append_nil] at bd
  refine wpAny_call (make_map (f := f) I0.kIn M.makes M.init (beq_iff_eq.mp M.fn) (codeAny_mono (F.run _ X.stack _ _ _ _ _ _ (E σ) (hr.make C us []) (J.env0.make C us []) bd rr go) fun fl s' z => ?_))
  match fl, z with
  | .error ev, z => exact hx pn _ _ ev s' J z
  | .ok (.ret u), z =>
    obtain ⟨v, H', J3, rv, ev, q3⟩ := J.after z
    subst ev
    exact ⟨rv, ⟨V.ref (s0.heap.objs.size + 1), H', J3, rfl, q3⟩⟩
  | .ok .next, z => exact False.elim z
  | .ok .brk, z => exact False.elim z
  | .ok .cont, z => exact False.elim z
theorem pe_makeS (M : Mk X.K C f) (F : FnOk X.prog X.w X.K X.mg X.base CX k f fd ps sp) (hr : Room (k + 1) X.A) (hg : Gl X x) (hm : X.mg x = some (.ref C)) (hb : L2.Binds X.K fd ps []) (hx : ∀ σ, PassesAt CX X σ (E σ))
    (ha : PA X (e :: es) t) (hdb : (x == ("__debug__" : Str)) = false) (hs : (e :: es).all noStar = true) : PE X (.Call (.Name x p) (e :: es) [] cp) (tMakeS C sp E t) := by
  have hs' := hs
  simp only [List.all_cons, Bool.and_eq_true] at hs'
  refine ⟨fun pn s0 σ H Q I0 h => wpAny_Call_Name_kw (ld_glob I0 hg hm (PySem.W.callWith_K (h₀ := X.base) I0.ok.mod.kin M.kp (thn (ha.run cp pn s0 σ H _ I0 h) fun us s1 ⟨vs, H1, J1, r, q⟩ => ⟨J1.kIn, ?_⟩) (starEach_cons hs'.1) (star_any hs'.2)) hdb)⟩
  exact run_makeS M F hr hb (hx σ) J1 r q
end
def wMake (c : Str) (C : Ct) (a : WL) : WE := fun env S Q X => a env S (fun ds S1 => C (.han S1.length :: ds) (S1 ++ [.ins c []]) (fun v S2 => v = .non ∧ Q (.han S1.length) S2) X) X
def DE.make (c : Str) (C : Ct) (a : DA) : DE where
  mt s e := match e with
    | .Call (.Name y _) (e :: es) [] _ => y == c && glB s c && !(c == ("__debug__" : Str)) && a.mt s (e :: es)
    | _ => false
  wp := wMake c C a.wp
  rq Z := MakeOk Z c (a.n + 1) C ∧ a.rq Z
  ok X W T e h g q := by
    obtain ⟨⟨k, ⟨Ca, ad, fd, ps, hC, hm, M, F, hb⟩, hr⟩, q2⟩ := q
    split at h
    · simp only [Bool.and_eq_true, beq_iff_eq, Bool.not_eq_true'] at h
      obtain ⟨⟨⟨rfl, h1⟩, h2⟩, h3⟩ := h
      obtain ⟨pa, hs⟩ := a.ok X W T _ h3 g q2
      refine PE.imp (pe_makeS (E := L2.WE W) M F hr (gl_of h1) hm hb (fun σ => passAt g.tk σ) pa h2 hs) fun σ H Q ⟨env, S, F, ads, Qd, Xd, er, sm, hw, kv, kx⟩ => ?_
      refine ⟨env, S, F, ads, _, Xd, er, sm, hw, fun F1 ads1 S1 H1 ds vs x1 s1 r1 l1 hh x dx nx nd ne => ?_, kx⟩
      obtain ⟨s2, x2⟩ := s1.frz nd (.own x)
      have nx2 : upd H1 dx (.own x) x = none := by rw [upd_ne (Ne.symm ne)]; exact nx
      obtain ⟨s3, x3⟩ := s2.thw nx2 (.ins Ca dx []) (.ins _ []) ⟨(s2.fresh nx2).2, Ca, dx, [], upd_same, hC, rfl, .nil⟩
      have xx := x2.trans x3
      have hx : (ads1 ++ [x])[S1.length]? = some x := by
        rw [← s1.len]
        simp
      have rx : Rp (kt X T) (upd F1 dx (.own x)) (ads1 ++ [x]) (.han S1.length) (.ref x) := .han hx
      refine ⟨.han S1.length :: ds, S1 ++ [.ins _ []], _, _, _, Xd, by rw [List.length_cons, l1], s3, .cons rx (r1.ext xx), hh, fun F4 ads4 S4 H4 d v x4 s4 r4 h4 => ?_, fun F4 ads4 S4 H4 z x4 s4 h4 => kx _ _ _ _ _ ((x1.trans xx).trans x4) s4 h4⟩
      obtain ⟨rfl, h4⟩ := h4
      cases r4
      exact ⟨rfl, kv _ _ _ _ _ _ ((x1.trans xx).trans x4) s4 (rx.ext x4) h4⟩
    · cases h
/-! ### len by an own __len__ -/
theorem cx_no {P : Program} {w : World} {st : List PySem.Env} {H : Hp} {s : Shared} {e : Value} {s' : Shared} (h : L2.CX P w st H s (fun _ _ _ => False) e s') : False := by
  obtain ⟨_, _, _, _, _, _, _, _, _, _, _, _, h⟩ := h
  exact h
theorem call_lenO {X : Cx} {k : Nat} {f C : Addr} {fd : FuncData} {ps : List Str} {sp : Sp} (F : FnOk X.prog X.w X.K X.mg X.base (L2.CX X.prog X.w) k f fd ps sp) (hr : Room (k + 1) X.A) (hb : L2.Binds X.K fd ps []) (mt : Meth X.K C "__len__" f) :
    CallR X (.builtin "len") (fun vs H Q => ∃ a dx fs, vs = [.ref a] ∧ H a = some (.ins C dx fs) ∧ sp [.ref a] H (fun v H' => ∃ n, v = .int n ∧ 0 ≤ n ∧ n < 2 ^ 63 ∧ Q (.int n) H') (fun _ _ _ => False)) := by
  intro pn s0 σ H vs us Q I0 r h
  obtain ⟨a, dx, fs, rfl, ea, hsp⟩ := h
  cases r with
  | cons r1 r2 =>
    cases r2
    cases r1
    obtain ⟨mA, J, _⟩ := ins_get I0.hok ea
    obtain ⟨od, J, _⟩ := J.look
    obtain ⟨m, hF⟩ := I0.fr
    refine PySem.W.len_K hF I0.ok.mod.kin J mt.at_ mt.fn ?_
    have hl := F.len _ _ _ _ hsp
    have bd := hb s0 [.ref a] I0.kIn (by rw [List.append_nil]; exact hl)
    rw [List.append_nil] at bd
    refine wpAny_call (codeAny_mono (F.run X.A.in1 X.stack s0 H _ _ _ _ (fun _ _ _ => False) hr.in1 I0.env0.in1 bd (.cons (show L2.RelV (.ref a) (.ref a) from rfl) .nil) hsp) fun fl s' z => ?_)
    match fl, z with
    | .error ev, z => exact (cx_no z).elim
    | .ok (.ret u), z =>
      obtain ⟨v, H', J3, rv, n, rfl, n0, n1, q3⟩ := I0.after z
      obtain ⟨t, rfl⟩ := rv
      exact ⟨⟨n0, n1⟩, .int n, H', J3.tok _, ⟨_, rfl⟩, q3⟩
    | .ok .next, z => exact False.elim z
    | .ok .brk, z => exact False.elim z
    | .ok .cont, z => exact False.elim z
def MetOk1 (Z : Cy) (c m : Str) (n : Nat) (Ct0 : Ct) : Prop := ∃ k, MethAt Z.prog Z.w ⟨Z.K, Z.T⟩ Z.mg Z.base k c m n Ct0 ∧ Room (k + 1) Z.A
def wLenO (c : Str) (C : Ct) (a : WE) : WE := fun env S Q X => a env S (fun d S1 => ∃ i fs, d = .han i ∧ S1[i]? = some (.ins c fs) ∧ C [d] S1 (fun v S2 => ∃ n, v = .int n ∧ 0 ≤ n ∧ n < 2 ^ 63 ∧ Q (.int n) S2) noX) X
def DE.lenO (c : Str) (C : Ct) (a : DE) : DE where
  mt s e := match e with
    | .Call (.Name x _) [y] [] _ => x == "len" && glB s "len" && noStar y && a.mt s y
    | _ => false
  wp := wLenO c C a.wp
  rq Z := Z.mg "len" = none ∧ MetOk1 Z c "__len__" 1 C ∧ a.rq Z
  ok X W T e h g q := by
    obtain ⟨q0, ⟨k, ⟨Ca, ad, fd, ps, hC, hc, hm, F, hb⟩, hr⟩, q2⟩ := q
    split at h
    · simp only [Bool.and_eq_true, beq_iff_eq] at h
      obtain ⟨⟨⟨rfl, h1⟩, h2⟩, h3⟩ := h
      refine PE.imp (pe_callB (call_lenO F hr hb hm) (gl_of h1) q0 PySem.boot_len (pa_cons (a.ok X W T _ h3 g q2) pa_nil (starEach_cons h2)) (by decide) (by decide) (starEach_cons h2) rfl) fun σ H Q ⟨env, S, F, ads, Qd, Xd, er, sm, hw, kv, kx⟩ => ?_
      refine ⟨env, S, F, ads, _, Xd, er, sm, hw, fun F1 ads1 S1 H1 d v x1 s1 r1 hh => ?_, kx⟩
      obtain ⟨i, fs, rfl, hS, hw1⟩ := hh
      have r1' := r1
      cases r1 with
      | han ha =>
        obtain ⟨a', ha', nF, C', dx, gs, hH, hn', ek, rs⟩ := s1.at hS
        rw [ha] at ha'; cases ha'
        have : C' = Ca := by
          have := hn'.symm.trans hC
          simpa using this
        subst this
        refine ⟨_, dx, gs, rfl, hH, [_], S1, F1, ads1, _, noX, rfl, s1, .cons r1' .nil, hw1, fun F2 ads2 S2 H2 d v x2 s2 r2 h2 => ?_, fun _ _ _ _ _ _ _ h => h⟩
        obtain ⟨n, rfl, n0, n1, h2⟩ := h2
        cases r2
        exact ⟨n, rfl, n0, n1, kv _ _ _ _ _ _ (x1.trans x2) s2 (.int n) h2⟩
    · cases h
/-! ### a method's promise -/
theorem met_ok {P : Program} {w : World} {K : Fg} {mg : Str → Option Value} {base : Heap} {x y : Str} {st : Stmt} {f : Addr} {oc : Value} {od an : Option Addr} {osl : Array (Option Value)} {kV doc pm cdv ct : Value} {N ps : List Str} {k n : Nat} {b : DB} {C : Ct}
    (l : K.K.lookup f = some ⟨oc, od, .func (PySem.W.fnOf x y (defArgs st) (defBody st) (defScope st) .none kV doc pm an cdv ct), osl⟩) (hcd : PySem.W.codeIn K.K cdv y = true) (S : FnScope N ps (defScope st)) (hn : ps.length = n)
    (hm : b.mt ⟨N, defScope st, fun _ => true⟩ (defBody st) = true) (hw : ∀ {ds S Q X}, C ds S Q X → ctOf N.length b ds S Q X) (hq : ∀ A, Room k A → b.rq ⟨P, w, K.K, mg, base, A, cdv, y ++ ".<locals>.", K.T⟩) :
    FnOk P w K.K mg base (L2.CX P w) (k + 1) f (PySem.W.fnOf x y (defArgs st) (defBody st) (defScope st) .none kV doc pm an cdv ct) ps (spOf K mg n C) := by
  refine sp_imp (fn_of l hcd S (fun vs H Q E ⟨ds, S, F, ads, Qd, Xd, hl, sm, rs, _⟩ => by rw [← rs.length, hl, hn]) fun A outer s H vs Q E hr hsp => ?_) fun _ _ _ _ => hw
  obtain ⟨ds, S0, F0, ads, Qd, Xd, hl, sm, rs, hc, kv, kx⟩ := hsp
  have gd : Good (cxOf (L2.CX P w) P w K.K mg base N y (defScope st) f cdv A outer s H E) (fun cls d _ H => E cls d H) :=
    ⟨rfl, S.nd, takes_of rfl rfl rfl rfl, passes_of rfl, by have := hr.un; show (A.deeper _).units + 200 < cLine; omega, by have := hr.dp; show (A.deeper _).depth + 5 < recursionLimit; omega⟩
  refine ⟨_, b.ok _ _ K.T _ hm gd ⟨S.kind, rfl, rfl, rfl⟩ (hq _ hr), ?_⟩
  refine ⟨startD N.length ds, S0, F0, ads, _, start_r rs, sm, hc, fun F1 ads1 S1 H1 env1 σ1 x1 s1 _ h1 => kv _ _ _ _ _ _ x1 s1 .non h1, kv, fun _ _ _ _ _ _ _ _ _ h => h.elim, fun _ _ _ _ _ _ _ _ _ h => h.elim, fun F1 ads1 S1 H1 env1 σ1 x x1 s1 _ h1 => kx _ _ _ _ _ x1 s1 h1⟩
theorem y9 (c : Str) (a : DE) (f : Str) : (DE.fld c a f).wp = wFld c f a.wp := rfl
theorem y10 (c : Str) (o : DE) (f : Str) (a : DE) : (DS.fld c o f a).wp = wSetF c f o.wp a.wp := rfl
theorem y11 (c m : Str) (C : Ct) (o : DE) (a : DA) : (DE.met c m C o a).wp = wMet c m C o.wp a.wp := rfl
theorem y12 (c m : Str) (C : Ct) (o : DE) : (DE.met0 c m C o).wp = wMet0 c m C o.wp := rfl
theorem y13 (c : Str) (C : Ct) (a : DA) : (DE.make c C a).wp = wMake c C a.wp := rfl
theorem y14 (c : Str) (C : Ct) (a : DE) : (DE.lenO c C a).wp = wLenO c C a.wp := rfl
theorem r9 (c : Str) (a : DE) (f : Str) (Z : Cy) : (DE.fld c a f).rq Z = (FldOk Z c f ∧ a.rq Z) := rfl
theorem r10 (c : Str) (o : DE) (f : Str) (a : DE) (Z : Cy) : (DS.fld c o f a).rq Z = (FldOk Z c f ∧ o.rq Z ∧ a.rq Z) := rfl
theorem r11 (c m : Str) (C : Ct) (o : DE) (a : DA) (Z : Cy) : (DE.met c m C o a).rq Z = (MetOk Z c m (a.n + 1) C ∧ o.rq Z ∧ a.rq Z) := rfl
theorem r12 (c m : Str) (C : Ct) (o : DE) (Z : Cy) : (DE.met0 c m C o).rq Z = (MetOk Z c m 1 C ∧ o.rq Z) := rfl
theorem r13 (c : Str) (C : Ct) (a : DA) (Z : Cy) : (DE.make c C a).rq Z = (MakeOk Z c (a.n + 1) C ∧ a.rq Z) := rfl
theorem r14 (c : Str) (C : Ct) (a : DE) (Z : Cy) : (DE.lenO c C a).rq Z = (Z.mg "len" = none ∧ MetOk1 Z c "__len__" 1 C ∧ a.rq Z) := rfl
/-! ### the fields of a session -/
def sesF (n c e d u : D) : List (Str × D) := [("size", n), ("current", c), ("earlier", e), ("done", d), ("undone", u)]
section
variable (n c e d u x : D)
theorem sg0 : getD' "size" (sesF n c e d u) = some n := by simp [getD', sesF]
theorem sg1 : getD' "current" (sesF n c e d u) = some c := rfl
theorem sg2 : getD' "earlier" (sesF n c e d u) = some e := rfl
theorem sg3 : getD' "done" (sesF n c e d u) = some d := rfl
theorem sg4 : getD' "undone" (sesF n c e d u) = some u := rfl
theorem sn0 : getD' "add" (sesF n c e d u) = none := rfl
theorem sn1 : getD' "remove" (sesF n c e d u) = none := rfl
theorem sn2 : getD' "generators" (sesF n c e d u) = none := rfl
theorem sn3 : getD' "rows" (sesF n c e d u) = none := rfl
theorem sn4 : getD' "contains" (sesF n c e d u) = none := rfl
theorem sn5 : getD' "relation" (sesF n c e d u) = none := rfl
theorem sn6 : getD' "is_relation" (sesF n c e d u) = none := rfl
theorem sn7 : getD' "undo" (sesF n c e d u) = none := rfl
theorem sn8 : getD' "redo" (sesF n c e d u) = none := rfl
theorem sn9 : getD' "perform" (sesF n c e d u) = none := rfl
theorem sp1 : putD "current" x (sesF n c e d u) = sesF n x e d u := rfl
theorem sp4 : putD "undone" x (sesF n c e d u) = sesF n c e d x := rfl
def s1F (n : D) : List (Str × D) := [("size", n)]
def s2F (n c : D) : List (Str × D) := [("size", n), ("current", c)]
def s3F (n c e : D) : List (Str × D) := [("size", n), ("current", c), ("earlier", e)]
def s4F (n c e d : D) : List (Str × D) := [("size", n), ("current", c), ("earlier", e), ("done", d)]
theorem sl1 : (s1F n).length = 1 := rfl
theorem sl2 : (s2F n c).length = 2 := rfl
theorem sl3 : (s3F n c e).length = 3 := rfl
theorem sl4 : (s4F n c e d).length = 4 := rfl
theorem si0 : putD "size" n [] = s1F n := rfl
theorem si1 : putD "current" c (s1F n) = s2F n c := rfl
theorem si2 : putD "earlier" e (s2F n c) = s3F n c e := rfl
theorem si3 : putD "done" d (s3F n c e) = s4F n c e d := rfl
theorem si4 : putD "undone" u (s4F n c e d) = sesF n c e d u := rfl
theorem sl0 : (sesF n c e d u).length = 5 := rfl
end
/-! #### DL18 -/
/-! The D layer, part 18: sorted of data, comprehensions with two fors, a, b, c = x, y, z. -/
/-! ### sorted of data -/
def leP (p q : PyData) : Bool := PySem.W.dataLe false (fun d : PyData => d) p q
def rSortD (K : PySem.W.Frag) : List V → Hp → VK → Prop := fun vs H Q => ∃ (a : Addr) (L : List (V × PyData)), vs = [.ref a] ∧ SqL K H a (L.map (·.1)) ∧ (∀ p ∈ L, Dp K H p.1 p.2) ∧ PySem.W.AllAlike (L.map (·.2)) ∧ PySem.W.Sortable (L.map (·.2)) ∧ (∀ p ∈ L, p.2.depth ≤ 60) ∧
  ∀ l, H l = none → Q (.ref l) (upd H l (.lst ((L.mergeSort fun p q => leP p.2 q.2).map (·.1))))
theorem each_mem {R : Value → V × PyData → Prop} : ∀ {us : List Value} {bs : List (V × PyData)}, PySem.W.EachIs R us bs → ∀ {P : V × PyData → Prop}, (∀ p ∈ bs, P p) → PySem.W.EachIs (fun u p => R u p ∧ P p) us bs
  | _, _, .nil, _, _ => .nil
  | _, _, .cons h t, _, k => .cons ⟨h, k _ List.mem_cons_self⟩ (each_mem t fun p hp => k p (List.mem_cons_of_mem _ hp))
theorem each_vals : ∀ {L : List (V × PyData)} {us : List Value}, Vals (L.map (·.1)) us → PySem.W.EachIs (fun u (p : V × PyData) => RelV p.1 u) us L
  | [], _, .nil => .nil
  | _ :: _, _, .cons h t => .cons h (each_vals t)
theorem vals_each : ∀ {us : List Value} {L : List (V × PyData)}, PySem.W.EachIs (fun u (p : V × PyData) => RelV p.1 u) us L → Vals (L.map (·.1)) us
  | _, _, .nil => .nil
  | _, _, .cons h t => .cons h (vals_each t)
theorem cr_sortD {X : Cx} (hu : X.A.units + 100 < cLine) : CallR X (.builtin "sorted") (rSortD X.K) := by
  intro pins s σ H vs us Q I r h
  obtain ⟨a, L, rfl, hs, hd, ha, hk, hp, q⟩ := h
  obtain ⟨its, rv, hl, hz⟩ := I.list hs
  rw [Vals.ref1 r]
  rw [List.length_map] at hz
  have e1 := each_vals rv
  have e2 : PySem.W.EachIs (fun v (b : V × PyData) => ∃ as, Reads s.heap v b.2 as) its L := (each_mem e1 (P := fun p => Dp X.K H p.1 p.2) hd).mono fun u p ⟨h1, h2⟩ => Dp.reads I p.2 p.1 u h2 h1
  refine PySem.W.sorted_data (enc := fun p : V × PyData => p.2) hl.isList e1 e2 ha hk hz (fun p hp' => by have := hp p hp'; omega) fun out hlen eo => ?_
  obtain ⟨ep, he'⟩ := PyProof.Rows.sortedAll_at s.heap its out.toArray
  have vo := vals_each eo
  have eq : L.mergeSort (PySem.W.dataLe false fun p : V × PyData => p.2) = L.mergeSort fun p q => leP p.2 q.2 := rfl
  rw [eq] at vo
  refine ⟨.ref _, upd H (s.heap.objs.size + 1) (.lst ((L.mergeSort fun p q => leP p.2 q.2).map (·.1))), I.laid (t' := s.toks) (fun _ _ => PyProof.Rows.sortedAll_old) (Nat.le_succ _) ⟨?_, out, ep, vo, he'⟩, rfl, q _ (I.hok.fresh (Nat.le_succ _))⟩
  rw [List.length_map, List.length_mergeSort]; exact hz
/-- the order of data, on what is known of it -/
def leD (x y : D) : Bool := match pyD x, pyD y with
  | some p, some q => leP p q
  | _, _ => true
def sortP (ds : List D) : List D := ds.mergeSort leD
def wSrtD (a : WL) : WL := fun env S Q X => a env S (fun xs S1 => ∃ x ds ps, xs = [x] ∧ lstOf S1 x = some ds ∧ pyDs ds = some ps ∧ PySem.W.AllAlike ps ∧ PySem.W.Sortable ps ∧ (∀ p ∈ ps, p.depth ≤ 60) ∧ Q (sortP ds) S1) X
theorem pyDs_len : ∀ {ds : List D} {ps : List PyData}, pyDs ds = some ps → ps.length = ds.length
  | [], ps, h => by cases h; rfl
  | d :: ds, ps, h => by
    unfold pyDs at h
    split at h
    · cases h
      rename_i e
      rw [List.length_cons, List.length_cons, pyDs_len e]
    · cases h
theorem pyDs_mem : ∀ {ds : List D} {ps : List PyData}, pyDs ds = some ps → ∀ p ∈ ds.zip ps, pyD p.1 = some p.2
  | [], ps, h, p, hp => by cases h; simp at hp
  | d :: ds, ps, h, p, hp => by
    unfold pyDs at h
    split at h
    · cases h
      rename_i e1 e
      rw [List.zip_cons_cons] at hp
      rcases List.mem_cons.mp hp with rfl | hp
      · exact e1
      · exact pyDs_mem e p hp
    · cases h
theorem zip_fst {α β : Type} : ∀ {l : List α} {m : List β}, l.length = m.length → (l.zip m).map (·.1) = l
  | [], [], _ => rfl
  | a :: l, b :: m, h => by simp [zip_fst (l := l) (m := m) (by simpa using h)]
theorem zip_snd {α β : Type} : ∀ {l : List α} {m : List β}, l.length = m.length → (l.zip m).map (·.2) = m
  | [], [], _ => rfl
  | a :: l, b :: m, h => by simp [zip_snd (l := l) (m := m) (by simpa using h)]
theorem dp_zip {K : PySem.W.Frag} {H : Hp} : ∀ {vs : List V} {ps : List PyData}, DpAll K H vs ps → ∀ p ∈ vs.zip ps, Dp K H p.1 p.2
  | _, _, .nil, p, hp => by simp at hp
  | _, _, .cons h t, p, hp => by
    rw [List.zip_cons_cons] at hp
    rcases List.mem_cons.mp hp with rfl | hp
    · exact h
    · exact dp_zip t p hp
theorem dp_len {K : PySem.W.Frag} {H : Hp} : ∀ {vs : List V} {ps : List PyData}, DpAll K H vs ps → vs.length = ps.length
  | _, _, .nil => rfl
  | _, _, .cons _ t => by simp [dp_len t]
theorem rps_zip {K : Fg} {F : Hp} {ads : List Addr} : ∀ {ds : List D} {vs : List V}, Rps K F ads ds vs → ∀ p ∈ ds.zip vs, Rp K F ads p.1 p.2
  | _, _, .nil, p, hp => by simp at hp
  | _, _, .cons h t, p, hp => by
    rw [List.zip_cons_cons] at hp
    rcases List.mem_cons.mp hp with rfl | hp
    · exact h
    · exact rps_zip t p hp
theorem zip_rps {K : Fg} {F : Hp} {ads : List Addr} : ∀ (L : List (D × V)), (∀ p ∈ L, Rp K F ads p.1 p.2) → Rps K F ads (L.map (·.1)) (L.map (·.2))
  | [], _ => .nil
  | p :: L, h => .cons (h p List.mem_cons_self) (zip_rps L fun q hq => h q (List.mem_cons_of_mem _ hq))
def DL.srtD (a : DA) : DL where
  mt c e := bltB "sorted" a c e
  wp := wSrtD a.wp
  rq Z := Z.mg "sorted" = none ∧ a.rq Z
  ok X W T e h g q := by
    unfold bltB at h
    split at h
    · simp only [Bool.and_eq_true, beq_iff_eq] at h
      obtain ⟨⟨rfl, h1⟩, h2⟩ := h
      obtain ⟨pa, ps⟩ := a.ok X W T _ h2 g q.2
      simp only [List.all_cons, Bool.and_eq_true] at ps
      refine PE.imp (pe_callB (cr_sortD (by have := g.un; omega)) (gl_of h1) q.1 (by decide +kernel) pa (by decide) (by decide) (starEach_cons ps.1) (star_any ps.2)) fun σ H Q ⟨env, S, F, ads, Qd, Xd, er, sm, hw, kv, kx⟩ => ?_
      refine ⟨env, S, F, ads, _, Xd, er, sm, hw, fun F1 ads1 S1 H1 xs vs x1 s1 r1 _ hh => ?_, kx⟩
      obtain ⟨x, ds, pys, rfl, hs, hp, ha, hk, hdp, hq⟩ := hh
      cases r1 with
      | cons r t =>
        cases t
        obtain ⟨a, ys, e, hy, rs⟩ := lst_sq s1 r hs
        subst e
        have dp := dps_of s1 rs hp
        have l1 := pyDs_len hp
        have l2 := rs.length
        have l3 := dp_len dp
        refine ⟨a, ys.zip pys, rfl, by rw [zip_fst l3]; exact hy, dp_zip dp, by rw [zip_snd l3]; exact ha, by rw [zip_snd l3]; exact hk, fun p hp => hdp _ (List.of_mem_zip hp).2, fun l hl => ?_⟩
        -- both sorts are one
        have key : ∃ M : List ((D × V) × PyData), M.map (fun z => z.1.1) = ds.mergeSort leD ∧ M.map (fun z => z.1.2) = ((ys.zip pys).mergeSort fun p q => leP p.2 q.2).map (·.1) ∧ ∀ z ∈ M, z ∈ (ds.zip ys).zip pys := by
          have lz : (ds.zip ys).length = pys.length := by rw [List.length_zip]; omega
          refine ⟨((ds.zip ys).zip pys).mergeSort fun z w => leP z.2 w.2, ?_, ?_, fun z hz => (List.mergeSort_perm _ _).subset hz⟩
          · have e1 : ((ds.zip ys).zip pys).map (fun z => z.1.1) = ds := by
              have := congrArg (List.map (·.1)) (zip_fst (l := ds.zip ys) (m := pys) lz)
              rw [List.map_map, zip_fst l2] at this
              exact this
            rw [List.map_mergeSort (s := leD) (fun z hz w hw => ?_), e1]
            have memz : ∀ z ∈ (ds.zip ys).zip pys, pyD z.1.1 = some z.2 := by
              intro z hz
              obtain ⟨i, hi, e⟩ := List.getElem_of_mem hz
              rw [← e]
              simp only [List.getElem_zip]
              have hi' : i < (ds.zip pys).length := by simp only [List.length_zip] at hi ⊢; omega
              have := pyDs_mem hp _ (List.getElem_mem hi')
              simpa only [List.getElem_zip] using this
            show leP z.2 w.2 = leD z.1.1 w.1.1
            unfold leD
            rw [memz z hz, memz w hw]
          · have e1 : ((ds.zip ys).zip pys).map (fun z => (z.1.2, z.2)) = ys.zip pys := by
              apply List.ext_getElem
              · simp only [List.length_map, List.length_zip]; omega
              · intro i _ _
                simp
            have e2 : (((ds.zip ys).zip pys).mergeSort fun z w => leP z.2 w.2).map (fun z => (z.1.2, z.2)) = (ys.zip pys).mergeSort fun p q => leP p.2 q.2 := by
              rw [List.map_mergeSort (s := fun p q : V × PyData => leP p.2 q.2) (fun z hz w hw => rfl), e1]
            rw [← e2, List.map_map]
            rfl
        obtain ⟨M, m1, m2, m3⟩ := key
        have rps : Rps (kt X T) F1 ads1 (M.map fun z => z.1.1) (M.map fun z => z.1.2) := by
          have := zip_rps (K := kt X T) (F := F1) (ads := ads1) (M.map (·.1)) fun p hp => by
            obtain ⟨z, hz, rfl⟩ := List.mem_map.mp hp
            exact rps_zip rs _ (List.of_mem_zip (m3 z hz)).1
          rw [List.map_map, List.map_map] at this
          exact this
        rw [m1, m2] at rps
        exact kv _ _ _ _ _ _ _ x1 s1 rps hl hq
    · cases h
theorem y15 (a : DA) : (DL.srtD a).wp = wSrtD a.wp := rfl
theorem r15 (a : DA) (Z : Cy) : (DL.srtD a).rq Z = (Z.mg "sorted" = none ∧ a.rq Z) := rfl
/-! #### DL19 -/
/-! The D layer, part 19: comprehensions with two fors, a, b, c = x, y, z. -/
/-- the turns of the inner for -/
def inGo (bd : D → Env → Sto → Option Env) (e : WE) (env : Env) (src : Src) : List D → Sto → List D → QL → Prop
  | [], S, acc, Q => srcOk src S ∧ Q acc S
  | d :: ds, S, acc, Q => srcOk src S ∧ ∃ env', bd d env S = some env' ∧ e env' S (fun x S2 => acc.length < sizeLine ∧ inGo bd e env src ds S2 (acc ++ [x]) Q) noX
/-- the turns of the outer one -/
def outGo (bd : D → Env → Sto → Option Env) (i1 : WI) (own1 : List Nat) (bd1 : D → Env → Sto → Option Env) (e : WE) (env : Env) (src : Src) : List D → Sto → List D → QL → Prop
  | [], S, acc, Q => srcOk src S ∧ Q acc S
  | d :: ds, S, acc, Q => srcOk src S ∧ ∃ env', bd d env S = some env' ∧ i1 env' S (fun ds1 src1 S1 => inGo bd1 e (wipeD env' own1) src1 ds1 S1 acc (fun acc' S2 => outGo bd i1 own1 bd1 e env src ds S2 acc' Q)) noX
def wComp2 (own : List Nat) (bd : D → Env → Sto → Option Env) (i : WI) (own1 : List Nat) (bd1 : D → Env → Sto → Option Env) (i1 : WI) (e : WE) : WL := fun env S Q X => i env S (fun ds src S1 => outGo bd i1 own1 bd1 e (wipeD env own) src ds S1 [] Q) X
theorem seqComp2 {K : Fg} {mg : Str → Option Value} {W : WX} {own sl own1 sl1 : List Nat} {bd bd1 : D → Env → Sto → Option Env} {i i1 : WI} {e : WE} (hsl : ∀ j ∈ sl, j ∈ own) (hsl1 : ∀ j ∈ sl1, j ∈ own1) {σ : L2.St} {H : Hp} {Q : VK} (h : tL K mg W (wComp2 own bd i own1 bd1 i1 e) σ H Q) :
    tLc2 (tI K mg W i) (tG K sl bd) (tT K mg (fun _ _ _ _ => False) wYes) (tI K mg (fun _ _ _ _ => False) i1) (tG K sl1 bd1) (tT K mg (fun _ _ _ _ => False) wYes) (tE K mg (fun _ _ _ _ => False) e) own own1 σ H Q := by
  obtain ⟨env, S, F, ads, Qd, Xd, er, sm, hw, kv, kx⟩ := h
  refine ⟨env, S, F, ads, _, Xd, er, sm, hw, fun F1 ads1 S1 H1 ds src J x1 s1 it h1 => ?_, kx⟩
  intro D hD
  have er1 := (er.ext x1).wipe own
  refine ⟨fun i m H => m = ds.length - i ∧ i ≤ ds.length ∧ ∃ F2 ads2 S2 acc accv, Ext F1 ads1 H1 F2 ads2 (DLay.er H D) ∧ Sim K F2 ads2 S2 (DLay.er H D) ∧ F2 D = none ∧ H D = some (.lst accv) ∧ Rps K F2 ads2 acc accv ∧ outGo bd i1 own1 bd1 e (wipeD env own) src (ds.drop i) S2 acc Qd,
    ⟨ds.length, rfl, Nat.zero_le _, F1, ads1, S1, [], [], ?_, ?_, s1.sub.free hD, upd_same, .nil, by rw [List.drop_zero]; exact h1⟩, ?_⟩
  · rw [er_upd, er_none hD]; exact Ext.refl
  · rw [er_upd, er_none hD]; exact s1
  rintro i m H2 ⟨rfl, hi, F2, ads2, S2, acc, accv, x2, s2, nF, eD, ra, hc⟩
  have nD : D ∉ ads2 := fun q => by
    obtain ⟨u, z⟩ := s2.there q
    rw [er_same] at z; cases z
  have s2u : Sim K F2 ads2 S2 H2 := s2.uner
  by_cases hlt : i < ds.length
  · have hdrop : ds.drop i = ds[i] :: ds.drop (i + 1) := List.drop_eq_getElem_cons hlt
    rw [hdrop] at hc
    obtain ⟨so, env', hb, ht⟩ := hc
    obtain ⟨go, yl⟩ := (it F2 ads2 S2 H2 x2.sub x2.pre s2u so).1 i ds[i] (List.getElem?_eq_getElem hlt)
    refine .inr ⟨go, fun H' => ∃ F3 ads3 S3 acc accv, Ext F1 ads1 H1 F3 ads3 (DLay.er H' D) ∧ Sim K F3 ads3 S3 (DLay.er H' D) ∧ F3 D = none ∧ H' D = some (.lst accv) ∧ Rps K F3 ads3 acc accv ∧ outGo bd i1 own1 bd1 e (wipeD env own) src (ds.drop (i + 1)) S3 acc Qd,
      fun H' hN => ⟨_, by omega, rfl, hlt, hN⟩, fun x H' hy => ?_⟩
    obtain ⟨F3, x3, s3, rx⟩ := yl x H' hy
    have er3 := (er1.ext x2).ext x3
    have eD3 := x3.kep D _ eD nD rfl
    have nF3 := x3.fno D _ eD nD rfl nF
    refine ⟨_, S2, F3, ads2, _, env', er3, s3, rx, hb, fun σ' er' hw => ⟨(hw own hsl).trans (wipe_wipe own fun _ h => h), env', S2, F3, ads2, fun b S' => b = true ∧ S' = S2, noX, er', s3, ⟨rfl, rfl⟩, fun F4 ads4 S4 H4 b x4 s4 h4 => ?_, noX_kx⟩⟩
    obtain ⟨rfl, rfl⟩ := h4
    rw [if_pos rfl]
    have x34 := x3.trans x4
    have er4 := er'.ext x4
    refine ⟨env', S4, F4, ads4, _, noX, er4, s4, ht, fun F5 ads5 S5 H5 ds1 src1 J1 x5 s5 it1 h5 => ?_, noX_kx⟩
    have x35 := x34.trans x5
    have eD5 := x35.kep D _ eD nD rfl
    have nF5 := x35.fno D _ eD nD rfl nF
    have nD5 : D ∉ ads5 := fun q => (x35.new D q).elim nD fun z => by cases z _ eD
    have er5 := (er4.ext x5).wipe own1
    refine ⟨fun j k H => k = ds1.length - j ∧ j ≤ ds1.length ∧ ∃ F6 ads6 S6 acc6 accv6, Ext F1 ads1 H1 F6 ads6 (DLay.er H D) ∧ Ext F5 ads5 (DLay.er H5 D) F6 ads6 (DLay.er H D) ∧ Sim K F6 ads6 S6 (DLay.er H D) ∧ F6 D = none ∧ H D = some (.lst accv6) ∧ Rps K F6 ads6 acc6 accv6 ∧
        inGo bd1 e (wipeD env' own1) src1 (ds1.drop j) S6 acc6 (fun acc' S2 => outGo bd i1 own1 bd1 e (wipeD env own) src (ds.drop (i + 1)) S2 acc' Qd),
      ⟨ds1.length, rfl, Nat.zero_le _, F5, ads5, S5, acc, accv, x2.trans x35.er, Ext.refl, s5.er nD5 nF5 ⟨_, eD5⟩, nF5, eD5, ra.ext x35, by rw [List.drop_zero]; exact h5⟩, ?_⟩
    rintro j k H6 ⟨rfl, hj, F6, ads6, S6, acc6, accv6, x16, x56, s6, nF6, eD6, ra6, hc6⟩
    have nD6 : D ∉ ads6 := fun q => by
      obtain ⟨u, z⟩ := s6.there q
      rw [er_same] at z; cases z
    have s6u : Sim K F6 ads6 S6 H6 := s6.uner
    by_cases hlt1 : j < ds1.length
    · have hdrop1 : ds1.drop j = ds1[j] :: ds1.drop (j + 1) := List.drop_eq_getElem_cons hlt1
      rw [hdrop1] at hc6
      obtain ⟨so1, env1, hb1, he1⟩ := hc6
      obtain ⟨go1, yl1⟩ := (it1 F6 ads6 S6 H6 x56.sub x56.pre s6u so1).1 j ds1[j] (List.getElem?_eq_getElem hlt1)
      refine .inr ⟨go1, fun H' => ∃ F7 ads7 S7 acc7 accv7, Ext F1 ads1 H1 F7 ads7 (DLay.er H' D) ∧ Ext F5 ads5 (DLay.er H5 D) F7 ads7 (DLay.er H' D) ∧ Sim K F7 ads7 S7 (DLay.er H' D) ∧ F7 D = none ∧ H' D = some (.lst accv7) ∧ Rps K F7 ads7 acc7 accv7 ∧
          inGo bd1 e (wipeD env' own1) src1 (ds1.drop (j + 1)) S7 acc7 (fun acc' S2 => outGo bd i1 own1 bd1 e (wipeD env own) src (ds.drop (i + 1)) S2 acc' Qd),
        fun H' hN => ⟨_, by omega, rfl, hlt1, hN⟩, fun x H' hy => ?_⟩
      obtain ⟨F7, x7, s7, rx7⟩ := yl1 x H' hy
      have er7 := (er5.ext x56).ext x7
      refine ⟨_, S6, F7, ads6, _, env1, er7, s7, rx7, hb1, fun σ3 er3' hw3 => ⟨(hw3 own1 hsl1).trans (wipe_wipe own1 fun _ h => h), env1, S6, F7, ads6, fun b S' => b = true ∧ S' = S6, noX, er3', s7, ⟨rfl, rfl⟩, fun F8 ads8 S8 H8 b x8 s8 h8 => ?_, noX_kx⟩⟩
      obtain ⟨rfl, rfl⟩ := h8
      rw [if_pos rfl]
      refine ⟨env1, S8, F8, ads8, _, noX, er3'.ext x8, s8, he1, fun F9 ads9 S9 H9 d v x9 s9 r9 h9 => ?_, noX_kx⟩
      obtain ⟨hz, h9⟩ := h9
      have x69 := (x7.trans x8).trans x9
      have eD9 := x69.kep D _ eD6 nD6 rfl
      have nF9 := x69.fno D _ eD6 nD6 rfl nF6
      have nD9 : D ∉ ads9 := fun q => (x69.new D q).elim nD6 fun z => by cases z _ eD6
      refine ⟨accv6, eD9, by rw [← ra6.length]; exact hz, F9, ads9, S9, acc6 ++ [d], accv6 ++ [v], ?_, ?_, ?_, nF9, upd_same, (ra6.ext x69).append (.cons r9 .nil), h9⟩
      · rw [er_upd]; exact x16.trans x69.er
      · rw [er_upd]; exact x56.trans x69.er
      · rw [er_upd]; exact s9.er nD9 nF9 ⟨_, eD9⟩
    · have e0 : ds1.drop j = [] := List.drop_eq_nil_of_le (by omega)
      rw [e0] at hc6
      obtain ⟨so1, hq1⟩ := hc6
      exact .inl ⟨(it1 F6 ads6 S6 H6 x56.sub x56.pre s6u so1).2 j (by omega), F6, ads6, S6, acc6, accv6, x16, s6, nF6, eD6, ra6, hq1⟩
  · have e0 : ds.drop i = [] := List.drop_eq_nil_of_le (by omega)
    rw [e0] at hc
    obtain ⟨so, hq⟩ := hc
    refine .inl ⟨(it F2 ads2 S2 H2 x2.sub x2.pre s2u so).2 i (by omega), ?_⟩
    have := kv F2 ads2 S2 (DLay.er H2 D) acc accv D (x1.trans x2) s2 ra er_same hq
    rw [upd_er eD] at this
    exact this
def comp2B (own own1 : List (Str × Nat)) (g : DG) (i : DI) (g1 : DG) (i1 : DI) (e : DE) (c : Sc) : Expr → Bool
  | .ListComp elt [⟨tg, iter, [], a⟩, ⟨tg1, iter1, [], a1⟩] scope _ => a == 0 && a1 == 0 && i.mt c tg iter && noSet iter && noSet iter1 && blkC c.N c.sc scope own && g.sl.all (fun j => (own.map (·.2)).contains j) && g1.sl.all (fun j => (own1.map (·.2)).contains j) && own1.all (fun j => (own.map (·.2)).contains j.2) &&
      g.mt (blkSc c scope) tg && i1.mt (blkSc c scope) tg1 iter1 && g1.mt (blkSc c scope) tg1 && e.mt (blkSc c scope) elt
  | _ => false
structure Comp2Ok (X : Cx) (W : WX) (T : List (Addr × Str)) (own own1 : List (Str × Nat)) (g : DG) (i : DI) (g1 : DG) (i1 : DI) (e : DE) (elt tg iter tg1 iter1 : Expr) (scope : Scope) : Prop where
  hi : PI X tg iter (tI (kt X T) X.mg W i.wp)
  ok : BlkOk X.N X.env.scope scope own
  hv : ∀ j ∈ own1.map (·.2), j ∈ own.map (·.2)
  hg : ∀ (s : Shared) (H : Hp) (C : Addr) (cl : List (Str × Addr)) (fp : List Addr), PG (X.blk s H scope (compEnvC scope cl C X.env) fp) tg (tG (kt X T) g.sl g.bd)
  ht : ∀ (s : Shared) (H : Hp) (C : Addr) (cl : List (Str × Addr)) (fp : List Addr), PTs (X.blk s H scope (compEnvC scope cl C X.env) fp) [] (tT (kt X T) X.mg (fun _ _ _ _ => False) wYes)
  hi1 : ∀ (s : Shared) (H : Hp) (C : Addr) (cl : List (Str × Addr)) (fp : List Addr), PI (X.blk s H scope (compEnvC scope cl C X.env) fp) tg1 iter1 (tI (kt X T) X.mg (fun _ _ _ _ => False) i1.wp)
  hg1 : ∀ (s : Shared) (H : Hp) (C : Addr) (cl : List (Str × Addr)) (fp : List Addr), PG (X.blk s H scope (compEnvC scope cl C X.env) fp) tg1 (tG (kt X T) g1.sl g1.bd)
  he : ∀ (s : Shared) (H : Hp) (C : Addr) (cl : List (Str × Addr)) (fp : List Addr), PE (X.blk s H scope (compEnvC scope cl C X.env) fp) elt (tE (kt X T) X.mg (fun _ _ _ _ => False) e.wp)
  hs : ∀ x, foldedSetIterable iter X.env x = pure x
  hs1 : ∀ env x, foldedSetIterable iter1 env x = pure x
  sl : ∀ j ∈ g.sl, j ∈ own.map (·.2)
  sl1 : ∀ j ∈ g1.sl, j ∈ own1.map (·.2)
theorem comp2_ok {X : Cx} {W : WX} {T : List (Addr × Str)} {own own1 : List (Str × Nat)} {g : DG} {i : DI} {g1 : DG} {i1 : DI} {e : DE} {elt tg iter tg1 iter1 : Expr} {scope : Scope} {a a1 : Int} {pos : Pos} (h : comp2B own own1 g i g1 i1 e (scOf X) (.ListComp elt [⟨tg, iter, [], a⟩, ⟨tg1, iter1, [], a1⟩] scope pos) = true)
    (gd : Good X W) (q : i.rq (cyOf X T) ∧ i1.rq (cyOf X T) ∧ e.rq (cyOf X T)) : a = 0 ∧ a1 = 0 ∧ Comp2Ok X W T own own1 g i g1 i1 e elt tg iter tg1 iter1 scope := by
  unfold comp2B at h
  simp only [Bool.and_eq_true, beq_iff_eq] at h
  obtain ⟨⟨⟨⟨⟨⟨⟨⟨⟨⟨⟨⟨h0, h01⟩, h1⟩, h2⟩, h2'⟩, h3⟩, h4⟩, h4'⟩, h4''⟩, h5⟩, h6⟩, h7⟩, h8⟩ := h
  refine ⟨h0, h01, i.ok X W T tg iter h1 gd q.1, blkOk_by h3, fun j hj => ?_, fun s H C cl fp => ?_, fun s H C cl fp => ?_, fun s H C cl fp => ?_, fun s H C cl fp => ?_, fun s H C cl fp => ?_, folded_no h2 X.env, fun env => folded_no h2' env, fun j hj => ?_, fun j hj => ?_⟩
  · obtain ⟨p, hp, rfl⟩ := List.mem_map.mp hj
    have := List.all_eq_true.mp h4'' p hp
    simpa using this
  · exact g.ok (X.blk s H scope (compEnvC scope cl C X.env) fp) T tg h5 gd.calm gd.nd
  · exact DF.no.ok (X.blk s H scope (compEnvC scope cl C X.env) fp) _ T [] rfl (good_blk gd s H scope C cl fp) trivial
  · exact i1.ok (X.blk s H scope (compEnvC scope cl C X.env) fp) _ T tg1 iter1 h6 (good_blk gd s H scope C cl fp) q.2.1
  · exact g1.ok (X.blk s H scope (compEnvC scope cl C X.env) fp) T tg1 h7 gd.calm gd.nd
  · exact e.ok (X.blk s H scope (compEnvC scope cl C X.env) fp) _ T elt h8 (good_blk gd s H scope C cl fp) q.2.2
  · have := List.all_eq_true.mp h4 j hj
    simpa using this
  · have := List.all_eq_true.mp h4' j hj
    simpa using this
def DL.comp2 (own own1 : List (Str × Nat)) (g : DG) (i : DI) (g1 : DG) (i1 : DI) (e : DE) : DL where
  mt c x := comp2B own own1 g i g1 i1 e c x
  wp := wComp2 (own.map (·.2)) g.bd i.wp (own1.map (·.2)) g1.bd i1.wp e.wp
  rq Z := i.rq Z ∧ i1.rq Z ∧ e.rq Z
  ok X W T x h gd q := by
    have h' := h
    unfold comp2B at h'
    split at h'
    · obtain ⟨rfl, rfl, c⟩ := comp2_ok h gd q
      exact PE.imp (pe_lc2 gd.calm gd.nd c.hi c.ok c.hv c.hg c.ht c.hi1 c.hg1 c.ht c.he c.hs c.hs1) fun σ H Q z => seqComp2 c.sl c.sl1 z
    · cases h'
def setC2B (i : Nat) (own own1 : List (Str × Nat)) (g : DG) (it : DI) (g1 : DG) (it1 : DI) (e : DE) (c : Sc) : Stmt → Bool
  | .Assign [.Name y py] (.ListComp elt gs scope pos) _ => c.N[i]? == some y && (c.sc.names.lookup y == some .local) && (py.line == pos.line) && !(scope.names.any fun (n, k) => n == y && (k == .local || k == .cell)) && comp2B own own1 g it g1 it1 e c (.ListComp elt gs scope pos)
  | _ => false
def DS.setC2 (i : Nat) (own own1 : List (Str × Nat)) (g : DG) (it : DI) (g1 : DG) (it1 : DI) (e : DE) : DS where
  mt c s := setC2B i own own1 g it g1 it1 e c s
  wp := wSet i (wLst (wComp2 (own.map (·.2)) g.bd it.wp (own1.map (·.2)) g1.bd it1.wp e.wp))
  rq Z := it.rq Z ∧ it1.rq Z ∧ e.rq Z
  ok X W T s h gd f q := by
    unfold setC2B at h
    split at h
    · rename_i y py elt gs scope pos spos
      simp only [Bool.and_eq_true, beq_iff_eq, Bool.not_eq_true'] at h
      obtain ⟨⟨⟨⟨h1, h2⟩, h3⟩, h4⟩, h5⟩ := h
      have h5' := h5
      unfold comp2B at h5'
      split at h5'
      · rename_i heq
        cases heq
        obtain ⟨rfl, rfl, c⟩ := comp2_ok h5 gd q
        have z := ps_setLc2 (py := py) (pos := pos) (spos := spos) gd.calm gd.nd h1 h2 (sw_true f.kind h2 (by simpa using h3) h4) c.hi c.ok c.hv c.hg c.ht c.hi1 c.hg1 c.ht c.he c.hs c.hs1
        exact PS.imp z fun D σ H z => seqComp2 c.sl c.sl1 (seqLst (seqSet z))
      · cases h5'
    · cases h
/-! ### a, b, c = x, y, z -/
def par3B (i j l : Nat) (a b d : DE) (c : Sc) : Stmt → Bool
  | .Assign [.Tuple [.Name x px, .Name y py, .Name z pz] kt pt] (.Tuple [u, v, w] k2 pt2) _ => c.N[i]? == some x && c.N[j]? == some y && c.N[l]? == some z && i != j && i != l && j != l && (c.sc.names.lookup x == some .local) && (c.sc.names.lookup y == some .local) && (c.sc.names.lookup z == some .local) &&
      noStar u && noStar v && noStar w && a.mt c u && b.mt c v && d.mt c w && swCore c.sc [.Name x px, .Name y py, .Name z pz] [u, v, w] == some (some [x, y, z])
  | _ => false
def DS.par3 (i j l : Nat) (a b d : DE) : DS where
  mt c s := par3B i j l a b d c s
  wp := wPar3 i j l a.wp b.wp d.wp
  rq Z := a.rq Z ∧ b.rq Z ∧ d.rq Z
  ok X W T s h g f q := by
    unfold par3B at h
    split at h
    · rename_i x px y py z pz kt pt u v w k2 pt2 pos
      simp only [Bool.and_eq_true, beq_iff_eq, bne_iff_ne, ne_eq] at h
      obtain ⟨⟨⟨⟨⟨⟨⟨⟨⟨⟨⟨⟨⟨⟨⟨h1, h2⟩, h3⟩, h4⟩, h5⟩, h6⟩, h7⟩, h8⟩, h9⟩, n1⟩, n2⟩, n3⟩, m1⟩, m2⟩, m3⟩, h10⟩ := h
      refine PS.imp (ps_par3 g.calm g.nd h1 h2 h3 h4 h5 h6 h7 h8 h9 (pa_cons (a.ok X W T _ m1 g q.1) (pa_cons (b.ok X W T _ m2 g q.2.1) (pa_cons (d.ok X W T _ m3 g q.2.2) pa_nil (starEach_cons n3)) (starEach_cons n2)) (starEach_cons n1)) (swCore_of f.kind h10)) fun D σ H ⟨env, S, F, ads, E, er, sm, hw, k⟩ => ?_
      refine ⟨env, S, F, ads, _, _, er, sm, hw, fun F1 ads1 S1 H1 d v x1 s1 r1 h1 => ?_, k.xq.kx er⟩
      refine ⟨env, S1, F1, ads1, _, _, er.ext x1, s1, h1, fun F2 ads2 S2 H2 d2 v2 x2 s2 r2 h2 => ?_, (k.xq.kx er).ext x1⟩
      refine ⟨env, S2, F2, ads2, _, _, er.ext (x1.trans x2), s2, h2, fun F3 ads3 S3 H3 d3 v3 x3 s3 r3 h3 => ?_, (k.xq.kx er).ext (x1.trans x2)⟩
      exact ⟨v, v2, v3, rfl, k.nx _ _ _ _ _ _ ((x1.trans x2).trans x3) s3 ((((er.ext ((x1.trans x2).trans x3)).set (r1.ext (x2.trans x3))).set (r2.ext x3)).set r3) h3⟩
    · cases h
theorem y16 (own own1 : List (Str × Nat)) (g : DG) (i : DI) (g1 : DG) (i1 : DI) (e : DE) : (DL.comp2 own own1 g i g1 i1 e).wp = wComp2 (own.map (·.2)) g.bd i.wp (own1.map (·.2)) g1.bd i1.wp e.wp := rfl
theorem y17 (i : Nat) (own own1 : List (Str × Nat)) (g : DG) (it : DI) (g1 : DG) (it1 : DI) (e : DE) : (DS.setC2 i own own1 g it g1 it1 e).wp = wSet i (wLst (wComp2 (own.map (·.2)) g.bd it.wp (own1.map (·.2)) g1.bd it1.wp e.wp)) := rfl
theorem y18 (i j l : Nat) (a b d : DE) : (DS.par3 i j l a b d).wp = wPar3 i j l a.wp b.wp d.wp := rfl
theorem r16 (own own1 : List (Str × Nat)) (g : DG) (i : DI) (g1 : DG) (i1 : DI) (e : DE) (Z : Cy) : (DL.comp2 own own1 g i g1 i1 e).rq Z = (i.rq Z ∧ i1.rq Z ∧ e.rq Z) := rfl
theorem r17 (i : Nat) (own own1 : List (Str × Nat)) (g : DG) (it : DI) (g1 : DG) (it1 : DI) (e : DE) (Z : Cy) : (DS.setC2 i own own1 g it g1 it1 e).rq Z = (it.rq Z ∧ it1.rq Z ∧ e.rq Z) := rfl
theorem r18 (i j l : Nat) (a b d : DE) (Z : Cy) : (DS.par3 i j l a b d).rq Z = (a.rq Z ∧ b.rq Z ∧ d.rq Z) := rfl
/-! #### DL20 -/
/-! The D layer, part 20: a comprehension stored in a name that others see, max. -/
theorem sw_cell {e : Expr} {y : Str} {py : Pos} {l : Nat} {env : PySem.Env} (hy : env.scope.names.lookup y = some .cell) : swapsWith e (some (.Name y py)) l env = pure false := by
  have ky : env.kindOf y = some .cell := hy
  cases e <;> first | rfl | (unfold swapsWith; simp only [ky, show (some NameKind.cell == some NameKind.local) = false from rfl, Bool.and_false, Bool.false_and])
def DS.setK (i : Nat) (a : DE) : DS where
  mt c s := match s with
    | .Assign [.Name x _] e _ => locB c i x && a.mt c e && (c.sc.names.lookup x == some .cell)
    | _ => false
  wp := wSet i a.wp
  rq := a.rq
  ok X W T s h g f q := by
    split at h
    · simp only [Bool.and_eq_true, beq_iff_eq] at h
      obtain ⟨h1, h2, h3⟩ := loc_of h.1.1
      exact PS.imp (ps_set g.nd h1 h2 (a.ok X W T _ h.1.2 g q) (sw_cell h.2) h3) fun D σ H z => seqSet z
    · cases h
def oMax : List D → Sto → QD → Prop
  | [.int i, .int j], S, Q => Q (.int (if j > i then j else i)) S
  | [x], S, Q => ∃ ns : List Int, lstOf S x = some (ns.map .int) ∧ 0 < ns.length ∧ ∀ m, m ∈ ns → (∀ y, y ∈ ns → y ≤ m) → Q (.int m) S
  | _, _, _ => False
theorem ok_max {K : Fg} : OkA K oMax (fun xs H Q => (∃ i j, xs = [.int i, .int j] ∧ Q (.int (if j > i then j else i)) H) ∨ rMax K.K xs H Q) := by
  intro F ads S H xs vs Qd Q sm rx h kv
  unfold oMax at h
  split at h
  · cases rx with
    | cons r t =>
      cases t with
      | cons r2 t2 =>
        cases t2; cases r; cases r2
        exact .inl ⟨_, _, rfl, kv _ _ _ _ _ _ Ext.refl sm (.int _) h⟩
  · cases rx with
    | cons r t =>
      cases t
      obtain ⟨ns, hs, hn, hq⟩ := h
      obtain ⟨a, ys, e, hy, rs⟩ := lst_sq sm r hs
      subst e
      have := rs.ints
      subst this
      exact .inr ⟨a, ns, rfl, hy, hn, fun m h1 h2 => kv _ _ _ _ _ _ Ext.refl sm (.int _) (hq m h1 h2)⟩
  · exact h.elim
def DE.max : DA → DE := mkB "max" "max" (by decide +kernel) (by decide) (by decide) oMax fun X W T g => ⟨_, (call_max2 g.calm).or (cr_max g.calm), ok_max⟩
theorem y19 (i : Nat) (a : DE) : (DS.setK i a).wp = wSet i a.wp := rfl
theorem y20 (a : DA) : (DE.max a).wp = wAp oMax a.wp := rfl
theorem r19 (i : Nat) (a : DE) (Z : Cy) : (DS.setK i a).rq Z = a.rq Z := rfl
theorem r20 (a : DA) (Z : Cy) : (DE.max a).rq Z = (Z.mg "max" = none ∧ a.rq Z) := rfl
/-! #### DL21 -/
/-! The D layer, part 21: t[::-1]. -/
section
variable {prog : Program} {w : World} {A : Around} {E : Value → Shared → Prop} {s : Shared}
theorem rev_adj (n : Nat) : Builtin.Slice.sliceAdjust none none (-1) (n : Int) = ((n : Int) - 1, -1) := by
  unfold Builtin.Slice.sliceAdjust
  simp
theorem rev_plc (n : Nat) : Builtin.Slice.slicePlaces ((n : Int) - 1) (-1) (-1) = n := by
  unfold Builtin.Slice.slicePlaces
  have h1 : ¬ (-1 : Int) > 0 := by omega
  simp only [h1, if_false]
  by_cases h : (n : Int) - 1 > -1
  · rw [if_pos h]
    have : ((n : Int) - 1 - -1 - 1) / - -1 + 1 = n := by
      have e : (- -1 : Int) = 1 := by omega
      rw [e, Int.ediv_one]; omega
    rw [this]; omega
  · rw [if_neg h]; omega
theorem rev_app {sl : Addr} {vs : Value} {n : Nat} {Q : Int × Int × Nat → Shared → Prop} (hs : s.heap.IsSliceOf sl .none .none vs) (ps : IsPart vs (some (-1))) (h : Q ((n : Int) - 1, -1, n) s) : wpAny (model prog w) A (Builtin.Slice.sliceApplied (.ref sl) (pure (n : Int))) Q E s := by
  obtain ⟨so, ho, _, hf⟩ := id hs
  unfold Builtin.Slice.sliceApplied; unfold Builtin.Slice.sliceFields
  refine wpAny_bind (wpAny_bind (wpAny_field ho hf (x := .none) rfl (wpAny_bind (wpAny_field ho hf (x := .none) rfl (wpAny_bind (wpAny_field ho hf (x := vs) rfl (wpAny_pure ?_)))))))
  refine wpAny_bind (HT.slicePart_ ps ?_)
  show wpAny _ _ (if ((-1 : Int) == 0) = true then _ else _) _ _ s
  rw [if_neg (by decide)]
  refine wpAny_bind (HT.slicePart_ .none (wpAny_bind (HT.slicePart_ .none (wpAny_bind (wpAny_pure ?_)))))
  show wpAny _ _ (match Builtin.Slice.sliceAdjust none none (-1) (n : Int) with | (lo, hi) => pure (lo, (-1 : Int), Builtin.Slice.slicePlaces lo hi (-1))) _ _ s
  rw [rev_adj n]
  show wpAny _ _ (pure ((n : Int) - 1, (-1 : Int), Builtin.Slice.slicePlaces ((n : Int) - 1) (-1) (-1))) _ _ s
  rw [rev_plc]
  exact wpAny_pure h
theorem rev_pick (xs : Array Value) : ((List.range xs.size).filterMap fun (m : Nat) => xs[(((xs.size : Int) - 1) + (m : Int) * (-1)).toNat]?).toArray = xs.toList.reverse.toArray := by
  congr 1
  have e : ∀ m ∈ List.range xs.size, xs[(((xs.size : Int) - 1) + (m : Int) * (-1)).toNat]? = some (xs.toList.reverse.getD m .none) := by
    intro m hm
    have hm' : m < xs.size := List.mem_range.mp hm
    have e1 : (((xs.size : Int) - 1) + (m : Int) * (-1)).toNat = xs.size - 1 - m := by omega
    rw [e1, Array.getElem?_eq_getElem (by omega)]
    congr 1
    rw [List.getD_eq_getElem?_getD, List.getElem?_reverse (by simpa using hm')]
    simp
    rw [Array.getElem?_eq_getElem (by omega)]
    rfl
  apply List.ext_getElem?
  intro i
  have e2 : (List.range xs.size).filterMap (fun (m : Nat) => xs[(((xs.size : Int) - 1) + (m : Int) * (-1)).toNat]?) = (List.range xs.size).map (fun m => xs.toList.reverse.getD m .none) := by
    have : ∀ L : List Nat, (∀ m ∈ L, m ∈ List.range xs.size) → L.filterMap (fun (m : Nat) => xs[(((xs.size : Int) - 1) + (m : Int) * (-1)).toNat]?) = L.map (fun m => xs.toList.reverse.getD m .none) := by
      intro L
      induction L with
      | nil => intro _; rfl
      | cons a L ih =>
        intro h
        rw [List.filterMap_cons_some (f := fun (m : Nat) => xs[(((xs.size : Int) - 1) + (m : Int) * (-1)).toNat]?) (e a (h a List.mem_cons_self)), List.map_cons, ih fun m hm => h m (List.mem_cons_of_mem _ hm)]
    exact this _ fun m hm => hm
  rw [e2]
  by_cases hi : i < xs.size
  · rw [List.getElem?_map, List.getElem?_range hi]
    show some (xs.toList.reverse.getD i .none) = _
    rw [List.getD_eq_getElem?_getD, List.getElem?_eq_getElem (by simpa using hi)]
    rfl
  · rw [List.getElem?_eq_none (by simp; omega), List.getElem?_eq_none (by simp; omega)]
theorem get_rev {t sl : Addr} {items : Array Value} {vs : Value} {Q : Value → Shared → Prop} (ht : IsTup s.heap t items) (hs : s.heap.IsSliceOf sl .none .none vs) (ps : IsPart vs (some (-1)))
    (h : Q (.ref s.heap.objs.size) { s with heap := s.heap.push { cls := .type "tuple", data := .seq items.toList.reverse.toArray } }) (hsz : items.size ≤ sizeLine) : wpAny (model prog w) A (getItem (.ref t) (.ref sl)) Q E s := by
  have htake : sizeOk (.seq items.toList.reverse.toArray) := by
    show items.toList.reverse.toArray.size ≤ sizeLine
    rw [List.size_toArray, List.length_reverse, Array.length_toList]
    exact hsz
  have kd : s.TypeIs (.ref sl) "slice" := let ⟨o, h1, h2, _⟩ := id hs; ⟨o, h1, h2⟩
  unfold getItem
  (try (with_reducible (refine wpAny_holding ?_)))
  (first | (refine wpAny_bind (wpAny_pure ?_)) | skip)
  refine wpAny_bind (wpAny_sequenceKey ht.typeIs (by decide) (wpAny_bind (wpAny_callSpecial?_slot (name := "__getitem__") ht.typeIs PyProof.Rows.slot_tuple_getitem (wpAny_call_entry PyProof.Rows.slot_tuple_getitem ht.typeIs entry_tuple_getitem ?_ (args_tuple_getitem _ _)))))
  show wpAny (model prog w) _ (Builtin.Tuple.tupleItemsOf (.ref t) >>= _) _ _ s
  refine wpAny_bind (tupleItemsOf_ ht (wpAny_bind (wpAny_typeOf kd ?_)))
  rw [if_pos (by decide)]
  refine wpAny_bind (rev_app hs ps ?_)
  have hno : ¬ ((((items.size : Int) - 1) == 0 && (-1 : Int) == 1 && items.size == items.size) = true) := by
    simp
  show wpAny _ _ (if (((items.size : Int) - 1) == 0 && (-1 : Int) == 1 && items.size == items.size) = true then _ else _) _ _ s
  rw [if_neg hno, rev_pick]
  have fin : wpAny (model prog w) A (pure (Value.ref s.heap.objs.size)) Q E { s with heap := s.heap.push { cls := .type "tuple", data := .seq items.toList.reverse.toArray } } := wpAny_pure h
  first
    | exact wpAny_bind (m := Builtin.Tuple.tupleExact _) (wpAny_newObj_type (wpAny_pure ⟨_, rfl, fin⟩) htake)
    | exact wpAny_bind (m := Builtin.Tuple.tupleExact _) (wpAny_newObj_type (wpAny_bind (wpAny_pure (wpAny_pure ⟨_, rfl, fin⟩))) htake)
    | exact wpAny_bind (wpAny_bind (m := Builtin.Tuple.tupleExact _) (wpAny_newObj_type (wpAny_pure (wpAny_pure ⟨_, rfl, fin⟩)) htake))
    | exact wpAny_bind (wpAny_bind (m := Builtin.Tuple.tupleExact _) (wpAny_newObj_type (wpAny_pure ⟨_, rfl, fin⟩) htake))
end
/-! the word -/
def tRevT (K : PySem.W.Frag) (te : TE) : TE := fun σ H Q => te σ H fun x H1 => ∃ a xs, x = .ref a ∧ ((SqL K H1 a xs ∧ ∀ p, H1 p = none → Q (.ref p) (upd H1 p (.lst xs.reverse))) ∨ (SqT K H1 a xs ∧ ∀ p, H1 p = none → Q (.ref p) (upd H1 p (.tup xs.reverse))))
theorem pe_revT {X : Cx} {e : Expr} {te : TE} {k : Nat} {p1 p2 p3 pos : Pos} (he : PE X e te) : PE X (.Subscript e (.Slice none none (some (.UnaryOp .USub (.Constant (.int 1) k p1) p2)) p3) pos) (tRevT X.K te) := by
  refine ⟨fun pn s σ H Q I h => ?_⟩
  refine Subscript_ (thn (he.run pn s σ H _ I h) fun v s1 ⟨x, H1, I1, r1, q1⟩ => ?_)
  obtain ⟨a, xs, ex, q⟩ := q1
  subst ex
  cases r1
  have po1 : PO X (some (.UnaryOp .USub (.Constant (.int 1) k p1) p2)) (tPart (tUn (rU fun i => .int (-i)) (tC (.int 1)))) := po_some (pe_un un_neg pe_int)
  refine wpAny_Slice (thn (po_none.run pn s1 σ H1 (fun o H2 => o = none ∧ H2 = H1) I1 ⟨rfl, rfl⟩) fun vl s2 ⟨l, H2, I2, pl, el, e2⟩ => ?_)
  subst el e2
  refine thn (po_none.run pn s2 σ H2 (fun o H3 => o = none ∧ H3 = H2) I2 ⟨rfl, rfl⟩) fun vu s3 ⟨u, H3, I3, pu, eu, e3⟩ => ?_
  subst eu e3
  refine thn (po1.run pn s3 σ H3 (fun o H4 => o = some (-1) ∧ H4 = H3) I3 ⟨1, rfl, -1, rfl, rfl, rfl⟩) fun vs s4 ⟨o, H4, I4, ps, eo, e4⟩ => ?_
  subst eo e4
  cases pl
  cases pu
  have J : Inv X pn σ H4 { s4 with heap := s4.heap.push { cls := .type "slice", data := .fields #[.none, .none, vs] } } := I4.kept (t' := s4.toks) fun b ob q => Heap.get?_push_of_some _ q
  show wpAny (model X.prog X.w) X.A (subscriptTail e (.Slice none none (some (.UnaryOp .USub (.Constant (.int 1) k p1) p2)) p3) (.ref a) (.ref s4.heap.objs.size)) (EP X pn σ Q) X.xe { s4 with heap := s4.heap.push { cls := .type "slice", data := .fields #[.none, .none, vs] } }
  rcases q with ⟨hx, q⟩ | ⟨hx, q⟩
  · obtain ⟨its, r, ht, hz⟩ := J.list hx
    have hlen := r.length
    refine tail_any (ops := [.ref a, .ref s4.heap.objs.size]) ht.isList.typeIs (PySem.slot_list_getitem.lookup) ?_ (by with_unfolding_all rfl)
    refine wpAny_getItem_list_slice ht.isList (Heap.IsSliceOf.new _ .none .none vs) .none .none ps (by decide) ?_ (by rw [List.size_toArray]; omega)
    rw [PySem.W.krv_pick]
    refine ⟨.ref _, _, J.laid (t' := s4.toks) (o := .lst xs.reverse) (fun b ob q => Heap.get?_push_of_some _ q) (Nat.le_refl _) ?_, rfl, q _ (J.hok.fresh (Nat.le_refl _))⟩
    exact ⟨by rwa [List.length_reverse], _, 0, r.reverse, Heap.get?_push_size _ rfl⟩
  · obtain ⟨its, r, ht, hz⟩ := J.tuple hx
    have hlen := r.length
    refine tail_any (ops := [.ref a, .ref s4.heap.objs.size]) ht.typeIs (PyProof.Rows.slot_tuple_getitem.lookup) ?_ (by with_unfolding_all rfl)
    refine get_rev ht (Heap.IsSliceOf.new _ .none .none vs) ps ?_ (by rw [List.size_toArray]; omega)
    refine ⟨.ref _, _, J.laid (t' := s4.toks) (o := .tup xs.reverse) (fun b ob q => Heap.get?_push_of_some _ q) (Nat.le_refl _) ?_, rfl, q _ (J.hok.fresh (Nat.le_refl _))⟩
    exact ⟨by rw [List.length_reverse]; exact hz, _, r.reverse, IsTup.new _ _⟩
def oRev : D → Sto → QD → Prop
  | .tup ds, S, Q => Q (.tup ds.reverse) S
  | x, S, Q => ∃ ds, lstOf S x = some ds ∧ Q (.lst ds.reverse) S
def wRev (a : WE) : WE := fun env S Q X => a env S (fun x S1 => oRev x S1 Q) X
def DE.rev (a : DE) : DE where
  mt c e := match e with
    | .Subscript x (.Slice none none (some (.UnaryOp .USub (.Constant (.int 1) _ _) _)) _) _ => a.mt c x
    | _ => false
  wp := wRev a.wp
  rq := a.rq
  ok X W T e h g q := by
    split at h
    · refine PE.imp (pe_revT (a.ok X W T _ h g q)) fun σ H Q ⟨env, S, F, ads, Qd, Xd, er, sm, hw, kv, kx⟩ => ?_
      refine ⟨env, S, F, ads, _, Xd, er, sm, hw, fun F1 ads1 S1 H1 d v x1 s1 r1 h1 => ?_, kx⟩
      have h1 : oRev d S1 Qd := h1
      unfold oRev at h1
      split at h1
      · cases r1 with
        | tup ht rs =>
          refine ⟨_, _, rfl, .inr ⟨s1.sub.tup ht, fun p hp => ?_⟩⟩
          obtain ⟨s2, x2⟩ := s1.frz hp (.tup _)
          exact kv _ _ _ _ _ _ (x1.trans x2) s2 (.tup (SqT.of upd_same) (rs.reverse.ext x2)) h1
      · obtain ⟨ds, hs, hq⟩ := h1
        obtain ⟨a, vs, e, hv, rs⟩ := lst_sq s1 r1 hs
        subst e
        refine ⟨_, _, rfl, .inl ⟨hv, fun p hp => ?_⟩⟩
        obtain ⟨s2, x2⟩ := s1.frz hp (.lst vs.reverse)
        exact kv _ _ _ _ _ _ (x1.trans x2) s2 (.lst upd_same (rs.reverse.ext x2)) hq
    · cases h
theorem y21 (a : DE) : (DE.rev a).wp = wRev a.wp := rfl
theorem r21 (a : DE) (Z : Cy) : (DE.rev a).rq Z = a.rq Z := rfl
theorem oRev_t (ds : List D) (S : Sto) (Q : QD) : oRev (.tup ds) S Q = Q (.tup ds.reverse) S := rfl
/-! #### DL22 -/
/-! The D layer, part 22: whole numbers and None compared. -/
theorem oNe_iN (i : Int) (S : Sto) (Q : QD) : oNe (.int i) .non S Q = Q (.bl true) S := by
  apply propext
  constructor
  · rintro ⟨p, q, e1, e2, _, _, h⟩
    cases e1; cases e2
    exact h
  · exact fun h => ⟨_, _, rfl, rfl, rfl, rfl, h⟩
theorem oEq_iN (i : Int) (S : Sto) (Q : QD) : oEq (.int i) .non S Q = Q (.bl false) S := by
  apply propext
  constructor
  · rintro ⟨p, q, e1, e2, _, _, h⟩
    cases e1; cases e2
    exact h
  · exact fun h => ⟨_, _, rfl, rfl, rfl, rfl, h⟩
/-! #### DL23 -/
/-! The D layer, part 23: the call of a function chosen from a tuple. -/
def tCallV {X : Cx} (CX : CXT) (E : L2.St → XK) (tf : TE) (t : TA) : TE := fun σ H Q => tf σ H fun y H1 => ∃ f fd ps sp k, y = .ref f ∧ FnOk X.prog X.w X.K X.mg X.base CX k f fd ps sp ∧ Room k X.A ∧ PySem.W.keepIn X.K (.ref f) = true ∧ L2.Binds X.K fd ps [] ∧ t σ H1 fun vs H2 => sp vs H2 Q (E σ)
theorem pe_callV {X : Cx} {CX : CXT} {E : L2.St → XK} {fe e : Expr} {es : List Expr} {tf : TE} {t : TA} {pos : Pos} (hf : PE X fe tf) (hx : ∀ σ, PassesAt CX X σ (E σ)) (ha : PA X (e :: es) t)
    (ht : eval (.Call fe (e :: es) [] pos) X.env = (do callWith pos (← eval fe X.env) [] (backTo pos (starEach (e :: es) X.env)) (backToKw pos (keywordEach [] X.env))))
    (he : starEach (e :: es) X.env = (false, eval e X.env) :: starEach es X.env) (hpl : (backTo pos (starEach es X.env)).any (·.1) = false) : PE X (.Call fe (e :: es) [] pos) (tCallV (X := X) CX E tf t) := by
  refine ⟨fun pins s σ H Q I h => ?_⟩
  refine Call_ (thn (hf.run pins s σ H _ I h) fun u s1 ⟨y, H1, I1, ry, f, fd, ps, sp, k, ey, F, hr, hk, hb, q⟩ => ?_) ht
  subst ey
  obtain rfl : u = Value.ref f := ry
  refine PySem.W.callWith_K (h₀ := X.base) I.ok.mod.kin hk (thn (ha.run pos pins s1 σ H1 _ I1 q) fun us s1 ⟨vs, H1, I1, r, q⟩ => ⟨I1.kIn, ?_⟩) he hpl
  exact run_fnS F hr hb (hx σ) I1 r q
def namesB (c : Sc) : List Str → List Expr → Bool
  | [], [] => true
  | f :: fs, .Name y _ :: ns => y == f && glB c f && !(f == ("__debug__" : Str)) && namesB c fs ns
  | _, _ => false
def tRefs (as : List Addr) : TA := fun _ H Q => Q (as.map fun a => V.ref a) H
def allCall (Z : Cy) (n : Nat) (fs : List (Str × Ct)) : Prop := ∀ p ∈ fs, CallOk Z p.1 n p.2
theorem pa_names {X : Cx} {T : List (Addr × Str)} {n : Nat} : ∀ (fs : List (Str × Ct)) (ns : List Expr), namesB (scOf X) (fs.map (·.1)) ns = true → allCall (cyOf X T) n fs →
    ∃ as : List Addr, as.length = fs.length ∧ PA X ns (tRefs as) ∧ ∀ (i : Nat) (p : Str × Ct), fs[i]? = some p → ∃ a k fd ps, as[i]? = some a ∧ FnOk X.prog X.w X.K X.mg X.base (L2.CX X.prog X.w) k a fd ps (spOf (kt X T) X.mg n p.2) ∧ Room k X.A ∧ PySem.W.keepIn X.K (.ref a) = true ∧ L2.Binds X.K fd ps []
  | [], [], _, _ => ⟨[], rfl, pa_nil, fun i p h => by simp at h⟩
  | [], _ :: _, h, _ => by simp [namesB] at h
  | p :: fs, [], h, _ => by simp [namesB] at h
  | p :: fs, n0 :: ns', h, q => by
    cases n0 with
    | Name y pos' =>
      rw [List.map_cons] at h
      unfold namesB at h
      simp only [Bool.and_eq_true, beq_iff_eq, Bool.not_eq_true'] at h
      obtain ⟨⟨⟨rfl, h1⟩, h2⟩, h3⟩ := h
      obtain ⟨as, hl, hp, hi⟩ := pa_names fs ns' h3 (fun p' hp' => q p' (List.mem_cons_of_mem _ hp'))
      obtain ⟨k, ⟨ad, fd, ps, F, hm, hk, hb⟩, hr⟩ := q p (by simp)
      refine ⟨ad :: as, by simp [hl], pa_cons (pe_glob (v := .ref ad) (gl_of h1) hm rfl h2) hp, fun i p' e => ?_⟩
      cases i with
      | zero =>
        have : p = p' := by simpa using e
        subst this
        exact ⟨ad, k, fd, ps, rfl, F, hr, hk, hb⟩
      | succ i =>
        obtain ⟨a, k, fd, ps, e1, r⟩ := hi i p' (by simpa using e)
        exact ⟨a, k, fd, ps, by simpa using e1, r⟩
    | _ => simp [namesB] at h
def wCallT (fs : List (Str × Ct)) (ix : WE) (a : WL) : WE := fun env S Q X => ix env S (fun d S1 => ∃ (i : Nat) (p : Str × Ct), d = .int (i : Nat) ∧ fs[i]? = some p ∧ a env S1 (fun ds S2 => p.2 ds S2 Q X) X) X
def DE.callT (fs : List (Str × Ct)) (ix : DE) (a : DA) : DE where
  mt c e := match e with
    | .Call (.Subscript (.Tuple ns _ _) y _) (e :: es) [] _ => namesB c (fs.map (·.1)) ns && ix.mt c y && plainIx y && a.mt c (e :: es) && decide (fs.length ≤ 1000)
    | _ => false
  wp := wCallT fs ix.wp a.wp
  rq Z := allCall Z a.n fs ∧ ix.rq Z ∧ a.rq Z
  ok X W T e h g q := by
    split at h
    · simp only [Bool.and_eq_true] at h
      obtain ⟨⟨⟨⟨h1, h2⟩, h3⟩, h4⟩, h5⟩ := h
      obtain ⟨q1, q2, q3⟩ := q
      obtain ⟨as, hl, hp, hi⟩ := pa_names fs _ h1 q1
      obtain ⟨pa, hs⟩ := a.ok X W T _ h4 g q3
      simp only [List.all_cons, Bool.and_eq_true] at hs
      refine PE.imp (pe_callV (E := L2.WE W) (pe_ix ix_seq (pe_tup hp) (ix.ok X W T _ h2 g q2) (plainIx_of h3)) (fun σ => passAt g.tk σ) pa rfl (starEach_cons hs.1) (star_any hs.2)) fun σ H Q ⟨env, S, F, ads, Qd, Xd, er, sm, hw, kv, kx⟩ => ?_
      refine ⟨by rw [List.length_map, hl]; exact small_line h5, fun p hp' => ?_⟩
      obtain ⟨s2, x2⟩ := sm.frz hp' (.tup (as.map fun a => V.ref a))
      refine ⟨env, S, _, _, _, Xd, er.ext x2, s2, hw, fun F1 ads1 S1 H1 d v x3 s3 r3 h6 => ?_, kx.ext x2⟩
      obtain ⟨i, p', rfl, ei, hw2⟩ := h6
      cases r3
      obtain ⟨ad, k, fd, ps, ea, Fk, hr, hk, hb⟩ := hi i p' ei
      refine .inr (.inl ⟨p, as.map (fun a => V.ref a), _, .ref ad, rfl, rfl, ?_, ?_, ad, fd, ps, _, k, rfl, Fk, hr, hk, hb, ?_⟩)
      · exact s3.sub.tup (Same.tup x3.1 (SqT.of upd_same))
      · rw [show atI (as.map fun a => V.ref a) ((i : Nat) : Int) = (as.map fun a => V.ref a)[i]? from atI_nat _ _, List.getElem?_map, ea]; rfl
      · refine ⟨env, S1, F1, ads1, _, Xd, er.ext (x2.trans x3), s3, hw2, fun F4 ads4 S4 H4 ds vs x4 s4 r4 l4 h7 => ?_, kx.ext (x2.trans x3)⟩
        exact ⟨ds, S4, F4, ads4, Qd, Xd, l4, s4, r4, h7, kv.ext ((x2.trans x3).trans x4), fun F5 ads5 S5 H5 x x5 s5 h8 => kx _ _ _ _ _ (((x2.trans x3).trans x4).trans x5) s5 h8⟩
    · cases h
theorem y22 (fs : List (Str × Ct)) (ix : DE) (a : DA) : (DE.callT fs ix a).wp = wCallT fs ix.wp a.wp := rfl
theorem allC_nil (Z : Cy) (n : Nat) : allCall Z n [] = True := by simp [allCall]
theorem allC_cons (Z : Cy) (n : Nat) (f : Str) (C : Ct) (fs : List (Str × Ct)) : allCall Z n ((f, C) :: fs) = (CallOk Z f n C ∧ allCall Z n fs) := by simp [allCall]
theorem r22 (fs : List (Str × Ct)) (ix : DE) (a : DA) (Z : Cy) : (DE.callT fs ix a).rq Z = (allCall Z a.n fs ∧ ix.rq Z ∧ a.rq Z) := rfl
/-! #### DL24 -/
/-! The D layer, part 24: sorted of a list or a tuple. -/
section
open PySem.W PySem.Calls
variable {prog : Program} {w : World} {A : Around} {E : Value → Shared → Prop} {s : Shared} {κ : PyProof.Rows.KeyKind}
theorem collect_tupD {l : Addr} {vs : List Value} {Q : List Value → Shared → Prop} (hl : IsTup s.heap l vs.toArray)
    (h : Q vs { s with heap := (s.heap.push (seqObj "list" #[] 0)).update s.heap.objs.size (Obj.mapSeq (· ++ vs.toArray)) }) (hsz : vs.length ≤ sizeLine) :
    wpAny (model prog w) A (collect (.ref l)) Q E s := by
  obtain ⟨o, ho, hc, n, hd⟩ := id hl
  unfold collect
  refine wpAny_bind (wpAny_runValue (codeAny_builtin entry_proto_collect' ?_))
  show wpAny _ _ (do again (.builtin "list.__iadd__" ⟨[← newList [], .ref l], []⟩)) _ _ s
  refine wpAny_bind (wpAny_newList (wpAny_pure ⟨Code.quiet_builtin _ (by decide +kernel), codeAny_builtin entry_list_iadd' ?_⟩))
  show wpAny _ _ (Builtin.List.listExtendWith (.ref s.heap.objs.size) (.ref l) (.ref s.heap.objs.size)) _ _ { s with heap := s.heap.push (seqObj "list" #[] 0) }
  unfold Builtin.List.listExtendWith
  have ho' : (s.heap.push (seqObj "list" #[] 0)).get? l = some o := Heap.get?_push_of_some _ ho
  refine wpAny_bind (wpAny_typeOf (T := "tuple") ⟨o, ho', hc⟩ ?_)
  have ht : (Value.type "tuple" == Value.type "tuple") = true := by rfl
  rw [if_pos (by rw [ht]; simp)]
  refine wpAny_bind (listItems_at ho' hd ?_)
  refine wpAny_bind (listItems_at (xs := #[]) (n := 0) (Heap.get?_push_size _ rfl) rfl ?_)
  rw [if_neg (by simp)]
  refine wpAny_bind (listUpdate_at (xs := #[]) (n := 0) (Heap.get?_push_size _ rfl) rfl ?_ (Nat.zero_le _) (by show (#[] ++ vs.toArray).size ≤ sizeLine + 1; simp only [Array.size_append, List.size_toArray, List.length_nil]; omega))
  refine wpAny_pure ?_
  show wpAny (model prog w) A (do
      let o ← load s.heap.objs.size
      match o.data with
      | .seq xs _ => pure xs.toList
      | _ => unsupported "internal:collect") Q E { s with heap := (s.heap.push (seqObj "list" #[] 0)).update s.heap.objs.size (Obj.mapSeq (· ++ vs.toArray)) }
  refine wpAny_bind (wpAny_load (get?_update_seq (Heap.get?_push_size _ rfl) _) ?_)
  show wpAny _ _ (pure ((#[] : Array Value) ++ vs.toArray).toList) Q E _
  rw [show ((#[] : Array Value) ++ vs.toArray).toList = vs by simp]
  exact wpAny_pure h
theorem sortedT_of_sort {l : Addr} {vs : List Value} {kw : List (Str × Value)} {Q : Value → Shared → Prop} (hl : IsTup s.heap l vs.toArray) (hL : vs.length ≤ sizeLine) (ha1 : argsOk "sorted" ⟨[.ref l], kw⟩) (ha2 : ∀ x, argsOk "list.sort" ⟨[.ref x], kw⟩)
    (body : ∀ E' : Value → Shared → Prop, wpAny (model prog w) A.in1.in1 (Builtin.«list.sort» ⟨[.ref (s.heap.objs.size + 1)], kw⟩) (fun f s' => f = .done (.ret .none) ∧ Q (.ref (s.heap.objs.size + 1)) s') E' { s with heap := copyHeap s.heap vs }) :
    wpAny (model prog w) A (call (.builtin "sorted") [.ref l] kw) Q E s := by
  refine call_function_entry_kw kind_sorted plain_sorted entry_sorted ha1 ?_
  unfold Builtin.«sorted»
  refine wpAny_bind (m := checkCount "sorted" 1 1 _) (wpAny_pure ?_)
  refine wpAny_bind (collect_tupD hl ?_ hL)
  refine wpAny_bind (wpAny_newList ?_ hL)
  have hsz : ((s.heap.push (seqObj "list" #[] 0)).update s.heap.objs.size (Obj.mapSeq (· ++ vs.toArray))).objs.size = s.heap.objs.size + 1 := by
    rw [Heap.size_update, size_push']
  show wpAny _ _ _ _ _ { s with heap := copyHeap s.heap vs }
  rw [hsz]
  refine wpAny_bind (wpAny_holding (wpAny_call_entry_kw slot_list_sort ⟨_, copyHeap_at s.heap vs, rfl⟩ entry_list_sort ?body (ha2 _)))
  case body =>
    show wpAny (model prog w) A.in1.in1 (Builtin.«list.sort» ⟨[.ref (s.heap.objs.size + 1)], kw⟩) _ _ _
    refine wpAny_mono (body _) (fun f s' hf => ?_) fun _ _ e => e
    obtain ⟨rfl, hq⟩ := hf
    exact ⟨_, rfl, wpAny_pure ⟨_, rfl, hq⟩⟩
theorem sortedT_data {β : Type} {R : Value → β → Prop} {enc : β → PyData} {vs : List Value} {bs : List β} {l : Addr} {Q : Value → Shared → Prop} (hl : IsTup s.heap l vs.toArray) (e : EachIs R vs bs) (er : EachIs (fun v b => ∃ as, Reads s.heap v (enc b) as) vs bs) (hal : AllAlike (bs.map enc)) (hk : Sortable (bs.map enc)) (hL : bs.length ≤ sizeLine)
    (hu : ∀ b, b ∈ bs → A.units + 2 + (enc b).depth < cLine) (h : ∀ out, out.length = bs.length → EachIs R out (bs.mergeSort (dataLe false enc)) → Q (.ref (s.heap.objs.size + 1)) { s with heap := sortedAll s.heap vs (List.toArray out) }) :
    wpAny (model prog w) A (call (.builtin "sorted") [.ref l]) Q E s := by
  have er' : EachIs (fun v b => ∃ as, Reads (sortingHeap (copyHeap s.heap vs) (s.heap.objs.size + 1) vs) v (enc b) as) vs bs := er.mono fun _ _ ⟨as, r⟩ => ⟨as, PyProof.Rows.Reads.keeps (fun _ _ => sorting_copy_old) r⟩
  have hL' : vs.length ≤ sizeLine := by rw [e.length]; exact hL
  refine sortedT_of_sort hl hL' (args_sorted1 _) (fun _ => args_list_sort _) fun _ => list_sort_vals (κ := dataKind (sortingHeap (copyHeap s.heap vs) (s.heap.objs.size + 1) vs) (bs.map enc)) (s := { s with heap := copyHeap s.heap vs }) (copyHeap_at s.heap vs) (SortsAt.data (s := { s with heap := sortingHeap (copyHeap s.heap vs) (s.heap.objs.size + 1) vs }) (each_map (R := fun v d => ∃ as, Reads (sortingHeap (copyHeap s.heap vs) (s.heap.objs.size + 1) vs) v d as) enc er') hal hk (bound_map hu)) hL' ⟨rfl, ?_⟩
  exact h _ (by rw [sortVals_length false rfl]; exact e.length) (sortVals_data false e er' hal)
end
def rSortQ (K : PySem.W.Frag) : List V → Hp → VK → Prop := fun vs H Q => ∃ (a : Addr) (L : List (V × PyData)), vs = [.ref a] ∧ (SqL K H a (L.map (·.1)) ∨ SqT K H a (L.map (·.1))) ∧ (∀ p ∈ L, Dp K H p.1 p.2) ∧ PySem.W.AllAlike (L.map (·.2)) ∧ PySem.W.Sortable (L.map (·.2)) ∧ (∀ p ∈ L, p.2.depth ≤ 60) ∧
  ∀ l, H l = none → Q (.ref l) (upd H l (.lst ((L.mergeSort fun p q => leP p.2 q.2).map (·.1))))
theorem cr_sortQ {X : Cx} (hu : X.A.units + 100 < cLine) : CallR X (.builtin "sorted") (rSortQ X.K) := by
  intro pins s σ H vs us Q I r h
  obtain ⟨a, L, rfl, hs | hs, hd, ha, hk, hp, q⟩ := h
  · exact cr_sortD hu pins s σ H _ us Q I r ⟨a, L, rfl, hs, hd, ha, hk, hp, q⟩
  obtain ⟨its, rv, hl, hz⟩ := I.tuple hs
  rw [Vals.ref1 r]
  rw [List.length_map] at hz
  have e1 := each_vals rv
  have e2 : PySem.W.EachIs (fun v (b : V × PyData) => ∃ as, Reads s.heap v b.2 as) its L := (each_mem e1 (P := fun p => Dp X.K H p.1 p.2) hd).mono fun u p ⟨h1, h2⟩ => Dp.reads I p.2 p.1 u h2 h1
  refine sortedT_data (enc := fun p : V × PyData => p.2) hl e1 e2 ha hk hz (fun p hp' => by have := hp p hp'; omega) fun out hlen eo => ?_
  obtain ⟨ep, he'⟩ := PyProof.Rows.sortedAll_at s.heap its out.toArray
  have vo := vals_each eo
  have eq : L.mergeSort (PySem.W.dataLe false fun p : V × PyData => p.2) = L.mergeSort fun p q => leP p.2 q.2 := rfl
  rw [eq] at vo
  refine ⟨.ref _, upd H (s.heap.objs.size + 1) (.lst ((L.mergeSort fun p q => leP p.2 q.2).map (·.1))), I.laid (t' := s.toks) (fun _ _ => PyProof.Rows.sortedAll_old) (Nat.le_succ _) ⟨?_, out, ep, vo, he'⟩, rfl, q _ (I.hok.fresh (Nat.le_succ _))⟩
  rw [List.length_map, List.length_mergeSort]; exact hz
def wSrtQ (a : WL) : WL := fun env S Q X => a env S (fun xs S1 => ∃ x ds ps, xs = [x] ∧ seqOf S1 x = some ds ∧ pyDs ds = some ps ∧ PySem.W.AllAlike ps ∧ PySem.W.Sortable ps ∧ (∀ p ∈ ps, p.depth ≤ 60) ∧ Q (sortP ds) S1) X
def DL.srtQ (a : DA) : DL where
  mt c e := bltB "sorted" a c e
  wp := wSrtQ a.wp
  rq Z := Z.mg "sorted" = none ∧ a.rq Z
  ok X W T e h g q := by
    unfold bltB at h
    split at h
    · simp only [Bool.and_eq_true, beq_iff_eq] at h
      obtain ⟨⟨rfl, h1⟩, h2⟩ := h
      obtain ⟨pa, ps⟩ := a.ok X W T _ h2 g q.2
      simp only [List.all_cons, Bool.and_eq_true] at ps
      refine PE.imp (pe_callB (cr_sortQ (by have := g.un; omega)) (gl_of h1) q.1 (by decide +kernel) pa (by decide) (by decide) (starEach_cons ps.1) (star_any ps.2)) fun σ H Q ⟨env, S, F, ads, Qd, Xd, er, sm, hw, kv, kx⟩ => ?_
      refine ⟨env, S, F, ads, _, Xd, er, sm, hw, fun F1 ads1 S1 H1 xs vs x1 s1 r1 _ hh => ?_, kx⟩
      obtain ⟨x, ds, pys, rfl, hs, hp, ha, hk, hdp, hq⟩ := hh
      cases r1 with
      | cons r t =>
        cases t
        obtain ⟨a, ys, e, hy, rs⟩ := seq_sq s1 r hs
        subst e
        have dp := dps_of s1 rs hp
        have l1 := pyDs_len hp
        have l2 := rs.length
        have l3 := dp_len dp
        refine ⟨a, ys.zip pys, rfl, by rw [zip_fst l3]; exact hy, dp_zip dp, by rw [zip_snd l3]; exact ha, by rw [zip_snd l3]; exact hk, fun p hp => hdp _ (List.of_mem_zip hp).2, fun l hl => ?_⟩
        -- both sorts are one
        have key : ∃ M : List ((D × V) × PyData), M.map (fun z => z.1.1) = ds.mergeSort leD ∧ M.map (fun z => z.1.2) = ((ys.zip pys).mergeSort fun p q => leP p.2 q.2).map (·.1) ∧ ∀ z ∈ M, z ∈ (ds.zip ys).zip pys := by
          have lz : (ds.zip ys).length = pys.length := by rw [List.length_zip]; omega
          refine ⟨((ds.zip ys).zip pys).mergeSort fun z w => leP z.2 w.2, ?_, ?_, fun z hz => (List.mergeSort_perm _ _).subset hz⟩
          · have e1 : ((ds.zip ys).zip pys).map (fun z => z.1.1) = ds := by
              have := congrArg (List.map (·.1)) (zip_fst (l := ds.zip ys) (m := pys) lz)
              rw [List.map_map, zip_fst l2] at this
              exact this
            rw [List.map_mergeSort (s := leD) (fun z hz w hw => ?_), e1]
            have memz : ∀ z ∈ (ds.zip ys).zip pys, pyD z.1.1 = some z.2 := by
              intro z hz
              obtain ⟨i, hi, e⟩ := List.getElem_of_mem hz
              rw [← e]
              simp only [List.getElem_zip]
              have hi' : i < (ds.zip pys).length := by simp only [List.length_zip] at hi ⊢; omega
              have := pyDs_mem hp _ (List.getElem_mem hi')
              simpa only [List.getElem_zip] using this
            show leP z.2 w.2 = leD z.1.1 w.1.1
            unfold leD
            rw [memz z hz, memz w hw]
          · have e1 : ((ds.zip ys).zip pys).map (fun z => (z.1.2, z.2)) = ys.zip pys := by
              apply List.ext_getElem
              · simp only [List.length_map, List.length_zip]; omega
              · intro i _ _
                simp
            have e2 : (((ds.zip ys).zip pys).mergeSort fun z w => leP z.2 w.2).map (fun z => (z.1.2, z.2)) = (ys.zip pys).mergeSort fun p q => leP p.2 q.2 := by
              rw [List.map_mergeSort (s := fun p q : V × PyData => leP p.2 q.2) (fun z hz w hw => rfl), e1]
            rw [← e2, List.map_map]
            rfl
        obtain ⟨M, m1, m2, m3⟩ := key
        have rps : Rps (kt X T) F1 ads1 (M.map fun z => z.1.1) (M.map fun z => z.1.2) := by
          have := zip_rps (K := kt X T) (F := F1) (ads := ads1) (M.map (·.1)) fun p hp => by
            obtain ⟨z, hz, rfl⟩ := List.mem_map.mp hp
            exact rps_zip rs _ (List.of_mem_zip (m3 z hz)).1
          rw [List.map_map, List.map_map] at this
          exact this
        rw [m1, m2] at rps
        exact kv _ _ _ _ _ _ _ x1 s1 rps hl hq
    · cases h
theorem y23 (a : DA) : (DL.srtQ a).wp = wSrtQ a.wp := rfl
theorem r23 (a : DA) (Z : Cy) : (DL.srtQ a).rq Z = (Z.mg "sorted" = none ∧ a.rq Z) := rfl
/-! #### DL25 -/
/-! The D layer, part 25: data in a list or tuple of data; zip of a list and a tuple. -/
/-! ### in -/
def rInA (K : PySem.W.Frag) (neg : Bool) : R2 := fun x y H Q => ∃ d c ds, Dp K H x d ∧ Dp K H y c ∧ (c = .list ds ∨ c = .tuple ds) ∧ SeqAt.shaped d = true ∧ SeqAt.shaped c = true ∧ Q (.bl (if neg = true then !ds.any fun z => PyData.eqv z d else ds.any fun z => PyData.eqv z d)) H
def inOp (neg : Bool) : CmpOp := if neg = true then .NotIn else .In
theorem op_inA {X : Cx} (neg : Bool) (hu : X.A.units + 65 < cLine) : OpR X (compareOp (inOp neg)) (rInA X.K neg) := by
  intro pins s σ H x y v u Q I rx ry h
  obtain ⟨d, c, ds, hd, hc, ec, sd, sc, q⟩ := h
  obtain ⟨as, r1⟩ := Dp.reads I d x v hd rx
  obtain ⟨bs, r2⟩ := Dp.reads I c y u hc ry
  have room : X.A.units + 1 + min (PyData.depthAll ds) d.depth < cLine := room_in_shaped sd hu
  rcases ec with rfl | rfl
  · cases neg with
    | false => exact SeqAt.in_list_reads r2 r1 (SeqAt.canLay_of_shaped sc) (SeqAt.canLay_of_shaped sd) room ⟨.bl _, H, I, rfl, q⟩
    | true => exact SeqAt.notIn_list_reads r2 r1 (SeqAt.canLay_of_shaped sc) (SeqAt.canLay_of_shaped sd) room ⟨.bl _, H, I, rfl, q⟩
  · cases neg with
    | false => exact SeqAt.in_tuple_reads r2 r1 (SeqAt.canLay_of_shaped sc) (SeqAt.canLay_of_shaped sd) room ⟨.bl _, H, I, rfl, q⟩
    | true => exact SeqAt.notIn_tuple_reads r2 r1 (SeqAt.canLay_of_shaped sc) (SeqAt.canLay_of_shaped sd) room ⟨.bl _, H, I, rfl, q⟩
def oInD (neg : Bool) : D → D → Sto → QD → Prop := fun x y S Q => ∃ p c ps, pyOf S x = some p ∧ pyOf S y = some c ∧ (c = .list ps ∨ c = .tuple ps) ∧ SeqAt.shaped p = true ∧ SeqAt.shaped c = true ∧ Q (.bl (if neg = true then !ps.any fun z => PyData.eqv z p else ps.any fun z => PyData.eqv z p)) S
theorem ok_inD {K : Fg} (neg : Bool) : Ok2 K (oInD neg) (rInA K.K neg) := by
  intro F ads S H x y v u Qd Q sm rx ry h kv
  obtain ⟨p, c, ps, hp, hc, ec, sp, sc, q⟩ := h
  exact ⟨p, c, ps, dpo_of sm rx hp, dpo_of sm ry hc, ec, sp, sc, kv _ _ _ _ _ _ Ext.refl sm (.bl _) q⟩
def DE.inD (neg : Bool) (a b : DE) : DE where
  mt c e := match e with
    | .Compare x [o'] [y] _ => o' == inOp neg && a.mt c x && b.mt c y && noSet y
    | _ => false
  wp := w2 (oInD neg) a.wp b.wp
  rq Z := a.rq Z ∧ b.rq Z
  ok X W T e h g q := by
    split at h
    · simp only [Bool.and_eq_true, beq_iff_eq] at h
      obtain ⟨⟨⟨rfl, h1⟩, h2⟩, h3⟩ := h
      exact PE.imp (pe_cmpR (op_inA neg (by have := g.un; omega)) (a.ok X W T _ h1 g q.1) (b.ok X W T _ h2 g q.2) (noSet_marks h3)) fun σ H Q z => seq2 (ok_inD neg) z
    · cases h
def DT.inD (neg : Bool) (a b : DE) : DT where
  mt c e := match e with
    | .Compare x [o'] [y] _ => o' == inOp neg && a.mt c x && b.mt c y && noSet y
    | _ => false
  wp := wB (w2 (oInD neg) a.wp b.wp)
  rq Z := a.rq Z ∧ b.rq Z
  ok X W T e h g q := by
    split at h
    · simp only [Bool.and_eq_true, beq_iff_eq] at h
      obtain ⟨⟨⟨rfl, h1⟩, h2⟩, h3⟩ := h
      exact PT.imp (pt_cmpR (op_inA neg (by have := g.un; omega)) (a.ok X W T _ h1 g q.1) (b.ok X W T _ h2 g q.2) (noSet_marks h3)) fun σ H Q z => seq2 (ok_inD neg) (tB_of z)
    · cases h
/-! ### zip of any two of list and tuple -/
section
variable {prog : Program} {w : World}
/-- an iterator whose next item is known -/
structure Stp (prog : Program) (w : World) (J : Heap → Nat → Prop) (it l : Addr) (get : Nat → Option Value) : Prop where
  item : ∀ {A : Around} {E : Value → Shared → Prop} {s : Shared} {k : Nat} {x : Value} {Q : Value → Shared → Prop}, J s.heap k → get k = some x → (∀ h', J h' (k + 1) → Heap.SameBut it s.heap h' → Q x { s with heap := h' }) → wpAny (model prog w) A (Builtin.SmallTypes.nextOf (.ref it)) Q E s
  stop : ∀ {A : Around} {E : Value → Shared → Prop} {s : Shared} {k : Nat} {Q : Value → Shared → Prop}, A.handled = none → J s.heap k → get k = none → (∀ h' e, Heap.ExtBut it s.heap h' → (∃ o, h'.get? e = some o ∧ o.cls = .type "StopIteration") → E (.ref e) { s with heap := h' }) → wpAny (model prog w) A (Builtin.SmallTypes.nextOf (.ref it)) Q E s
  keep : ∀ {h h' : Heap} {k : Nat}, J h k → (∀ o, h.get? it = some o → h'.get? it = some o) → (∀ o, h.get? l = some o → h'.get? l = some o) → J h' k
theorem stp_list {it l : Addr} {xs : Array Value} (ne : l ≠ it) : Stp prog w (fun h k => h.IsListIter it l k ∧ h.IsList l xs) it l (fun k => xs[k]?) where
  item := fun ⟨j1, j2⟩ e q => wpAny_nextOf_list_item j1 j2 e fun h' a b => q h' ⟨a, j2.extBut b.extBut ne⟩ b
  stop := fun hh ⟨j1, j2⟩ e q => wpAny_nextOf_list_end hh j1 j2 e q
  keep := fun ⟨j1, j2⟩ a b => ⟨j1.at a, by obtain ⟨o, x, y⟩ := j2; exact ⟨o, b o x, y⟩⟩
theorem stp_tup {it l : Addr} {xs : Array Value} (ne : l ≠ it) : Stp prog w (fun h k => h.IsTupleIter it l k ∧ h.IsTuple l xs) it l (fun k => xs[k]?) where
  item := fun ⟨j1, j2⟩ e q => RZ.nextOf_tuple_item j1 j2 e fun h' a b => q h' ⟨a, j2.extBut b.extBut ne⟩ b
  stop := fun hh ⟨j1, j2⟩ e q => RZ.nextOf_tuple_end hh j1 j2 e q
  keep := fun ⟨j1, j2⟩ a b => ⟨j1.at a, by obtain ⟨o, x, y⟩ := j2; exact ⟨o, b o x, y⟩⟩
/-- what of a heap a turn of zip leaves -/
def Lv (z TO i1 i2 : Addr) (h h' : Heap) : Prop := ∀ c o, c ≠ z → c ≠ TO → c ≠ i1 → c ≠ i2 → h.get? c = some o → h'.get? c = some o
section
variable {A : Around} {E : Value → Shared → Prop} {s : Shared} {z TI TO i1 i2 l1 l2 : Addr} {J1 J2 : Heap → Nat → Prop} {g1 g2 : Nat → Option Value}
theorem zipS_item (S1 : Stp prog w J1 i1 l1 g1) (S2 : Stp prog w J2 i2 l2 g2) (D : ZipApart z TI TO i1 i2 l1 l2) {k : Nat} {x y a b : Value} {Q : Value → Shared → Prop}
    (zz : IsZip s.heap z TI TO .none) (tt : IsPair s.heap TI (.ref i1) (.ref i2)) (oo : IsPair s.heap TO a b) (j1 : J1 s.heap k) (j2 : J2 s.heap k) (e1 : g1 k = some x) (e2 : g2 k = some y)
    (q : ∀ h', IsZip h' z TI TO (rawInt s.heap.objs.size) → IsPair h' TO x y → J1 h' (k + 1) → J2 h' (k + 1) → IsPair h' s.heap.objs.size x y → Lv z TO i1 i2 s.heap h' → Q (.ref s.heap.objs.size) { s with heap := h' }) :
    wpAny (model prog w) A (Builtin.«zip.__next__» ⟨[.ref z], []⟩) (fun fin s' => ∃ v, fin = .done (.ret v) ∧ Q v s') E s := by
  refine wpAny_bind (m := field (.ref z) 2) (wpAny_field zz rfl (x := .bool false) rfl ?_)
  refine wpAny_bind (m := field (.ref z) 3) (wpAny_field zz rfl (x := .ref TI) rfl (wpAny_bind (wpAny_seqItems tt rfl ?_)))
  refine wpAny_bind (m := Builtin.SmallTypes.ownedTupleIsFree (.ref z)) (wpAny_bind (wpAny_field zz rfl (x := .none) rfl (wpAny_pure ?_)))
  simp only [if_true]
  refine wpAny_bind (wpAny_rule (wpAny_bind (wpAny_field zz rfl (x := .ref TO) rfl (wpAny_bind (wpAny_setField_rec zz (by simp) fun m1 z1 u1 => wpAny_bind ?_)))))
  have z1 : IsZip m1 z TI TO .ellipsis := z1
  have a1 := u1.extBut
  simp only [List.zipIdx_cons, List.zipIdx_nil, List.forIn_cons, List.forIn_nil]
  -- the first item
  refine wpAny_bind (wpAny_bind (wpAny_onRaise (wpAny_bind (m := Builtin.SmallTypes.nextOf (.ref i1)) (S1.item (s := { s with heap := m1 }) (S1.keep j1 (fun o => a1 _ o D.i1z) fun o => a1 _ o D.l1z) e1 fun m2 p2 u2 => wpAny_pure ?_))))
  have a2 := u2.extBut
  have o2 : IsPair m2 TO a b := a2 _ _ D.TOi1 (a1 _ _ D.TOz oo)
  refine wpAny_bind (wpAny_seqItems o2 rfl (wpAny_bind (wpAny_updateSeq_pair o2 fun m3 o3 u3 => wpAny_bind (wpAny_letGo (wpAny_pure ?_)))))
  have o3 : IsPair m3 TO x b := o3
  have a3 := u3.extBut
  -- the second item
  refine wpAny_bind (wpAny_bind (wpAny_onRaise (wpAny_bind (m := Builtin.SmallTypes.nextOf (.ref i2)) (S2.item (s := { s with heap := m3 }) (S2.keep j2 (fun o e => a3 _ o D.TOi2.symm (a2 _ o D.i12.symm (a1 _ o D.i2z e))) fun o e => a3 _ o D.l2TO (a2 _ o D.l2i1 (a1 _ o D.l2z e))) e2 fun m4 p4 u4 => wpAny_pure ?_))))
  have a4 := u4.extBut
  have o4 : IsPair m4 TO x b := a4 _ _ D.TOi2 o3
  refine wpAny_bind (wpAny_seqItems o4 rfl (wpAny_bind (wpAny_updateSeq_pair o4 fun m5 o5 u5 => wpAny_bind (wpAny_letGo (wpAny_pure (wpAny_pure ?_))))))
  have o5 : IsPair m5 TO x y := o5
  have a5 := u5.extBut
  refine wpAny_bind (wpAny_seqItems o5 rfl (wpAny_bind (wpAny_newTuple ?_)))
  have sz : m5.objs.size = s.heap.objs.size := by rw [u5.1, u4.1, u3.1, u2.1, u1.1]
  have z5 : IsZip m5 z TI TO .ellipsis := a5 _ _ D.TOz.symm (a4 _ _ D.i2z.symm (a3 _ _ D.TOz.symm (a2 _ _ D.i1z.symm z1)))
  have zl : z < m5.objs.size := Heap.lt_size z5
  have q1 : J1 m5 (k + 1) := S1.keep p2 (fun o e => a5 _ o D.TOi1.symm (a4 _ o D.i12 (a3 _ o D.TOi1.symm e))) fun o e => a5 _ o D.l1TO (a4 _ o D.l1i2 (a3 _ o D.l1TO e))
  have q2 : J2 m5 (k + 1) := S2.keep p4 (fun o e => a5 _ o D.TOi2.symm e) fun o e => a5 _ o D.l2TO e
  refine wpAny_bind (m := Builtin.SmallTypes.ownedTupleHandOut (.ref z) (.ref m5.objs.size)) (wpAny_bind ?_)
  have z6 : IsZip (m5.push { cls := .type "tuple", data := .seq #[x, y] }) z TI TO .ellipsis := Heap.get?_push_of_some _ z5
  refine wpAny_setField_rec z6 (by simp) fun m7 z7 u7 => ?_
  have z7 : IsZip m7 z TI TO (rawInt m5.objs.size) := z7
  refine wpAny_setField_rec z7 (by simp) fun m8 z8 u8 => ?_
  have z8 : IsZip m8 z TI TO (rawInt m5.objs.size) := z8
  have up : ∀ c o, c ≠ z → m5.get? c = some o → m8.get? c = some o := fun c o c1 e => u8.extBut _ _ c1 (u7.extBut _ _ c1 (Heap.get?_push_of_some _ e))
  have t8 : IsPair m8 m5.objs.size x y := u8.extBut _ _ (Nat.ne_of_gt zl) (u7.extBut _ _ (Nat.ne_of_gt zl) (Heap.get?_push_size _ rfl))
  rw [sz] at z8 t8
  refine wpAny_pure ⟨_, rfl, ?_⟩
  change Q (.ref m5.objs.size) _
  rw [sz]
  refine q m8 z8 (up _ _ D.TOz o5) (S1.keep q1 (fun o e => up _ o D.i1z e) fun o e => up _ o D.l1z e) (S2.keep q2 (fun o e => up _ o D.i2z e) fun o e => up _ o D.l2z e) t8 fun c o c1 c2 c3 c4 e => ?_
  exact up c o c1 (a5 _ _ c2 (a4 _ _ c4 (a3 _ _ c2 (a2 _ _ c3 (a1 _ _ c1 e)))))
theorem zipS_stop (S1 : Stp prog w J1 i1 l1 g1) (S2 : Stp prog w J2 i2 l2 g2) (D : ZipApart z TI TO i1 i2 l1 l2) {k : Nat} {a b : Value} {Q : Fin → Shared → Prop} (hh : A.handled = none)
    (zz : IsZip s.heap z TI TO .none) (tt : IsPair s.heap TI (.ref i1) (.ref i2)) (oo : IsPair s.heap TO a b) (j1 : J1 s.heap k) (j2 : J2 s.heap k) (en : g1 k = none ∨ g2 k = none)
    (q : ∀ h' e, Lv z TO i1 i2 s.heap h' → (∃ o, h'.get? e = some o ∧ o.cls = .type "StopIteration") → E (.ref e) { s with heap := h' }) :
    wpAny (model prog w) A (Builtin.«zip.__next__» ⟨[.ref z], []⟩) Q E s := by
  refine wpAny_bind (m := field (.ref z) 2) (wpAny_field zz rfl (x := .bool false) rfl ?_)
  refine wpAny_bind (m := field (.ref z) 3) (wpAny_field zz rfl (x := .ref TI) rfl (wpAny_bind (wpAny_seqItems tt rfl ?_)))
  refine wpAny_bind (m := Builtin.SmallTypes.ownedTupleIsFree (.ref z)) (wpAny_bind (wpAny_field zz rfl (x := .none) rfl (wpAny_pure ?_)))
  simp only [if_true]
  refine wpAny_bind (wpAny_rule (wpAny_bind (wpAny_field zz rfl (x := .ref TO) rfl (wpAny_bind (wpAny_setField_rec zz (by simp) fun m1 z1 u1 => wpAny_bind ?_)))))
  have z1 : IsZip m1 z TI TO .ellipsis := z1
  have a1 := u1.extBut
  simp only [List.zipIdx_cons, List.zipIdx_nil, List.forIn_cons, List.forIn_nil]
  have p1 : J1 m1 k := S1.keep j1 (fun o => a1 _ o D.i1z) fun o => a1 _ o D.l1z
  refine wpAny_bind (wpAny_bind (wpAny_onRaise (wpAny_bind (m := Builtin.SmallTypes.nextOf (.ref i1)) ?_)))
  cases e1 : g1 k with
  | none =>
    refine S1.stop (s := { s with heap := m1 }) hh p1 e1 fun m2 e a2 ⟨oe, he, ce⟩ => ?_
    have z2 : IsZip m2 z TI TO .ellipsis := a2 _ _ D.i1z.symm z1
    have ne : e ≠ z := fun t => by rw [t, z2] at he; cases he; simp at ce
    refine wpAny_setField_rec z2 (by simp) fun m3 _ u3 => q m3 e (fun c o c1 _ c3 _ t => u3.extBut _ _ c1 (a2 _ _ c3 (a1 _ _ c1 t))) ⟨oe, u3.extBut _ _ ne he, ce⟩
  | some x =>
    have e2 : g2 k = none := by
      rcases en with t | t
      · rw [e1] at t; cases t
      · exact t
    refine S1.item (s := { s with heap := m1 }) p1 e1 fun m2 p2 u2 => wpAny_pure ?_
    have a2 := u2.extBut
    have o2 : IsPair m2 TO a b := a2 _ _ D.TOi1 (a1 _ _ D.TOz oo)
    refine wpAny_bind (wpAny_seqItems o2 rfl (wpAny_bind (wpAny_updateSeq_pair o2 fun m3 o3 u3 => wpAny_bind (wpAny_letGo (wpAny_pure ?_)))))
    have a3 := u3.extBut
    refine wpAny_bind (wpAny_bind (wpAny_onRaise (wpAny_bind (m := Builtin.SmallTypes.nextOf (.ref i2)) (S2.stop (s := { s with heap := m3 }) hh (S2.keep j2 (fun o e => a3 _ o D.TOi2.symm (a2 _ o D.i12.symm (a1 _ o D.i2z e))) fun o e => a3 _ o D.l2TO (a2 _ o D.l2i1 (a1 _ o D.l2z e))) e2 fun m4 e a4 ⟨oe, he, ce⟩ => ?_))))
    have z4 : IsZip m4 z TI TO .ellipsis := a4 _ _ D.i2z.symm (a3 _ _ D.TOz.symm (a2 _ _ D.i1z.symm z1))
    have ne : e ≠ z := fun t => by rw [t, z4] at he; cases he; simp at ce
    refine wpAny_setField_rec z4 (by simp) fun m5 _ u5 => q m5 e (fun c o c1 c2 c3 c4 t => u5.extBut _ _ c1 (a4 _ _ c4 (a3 _ _ c2 (a2 _ _ c3 (a1 _ _ c1 t))))) ⟨oe, u5.extBut _ _ ne he, ce⟩
theorem nextS_item (S1 : Stp prog w J1 i1 l1 g1) (S2 : Stp prog w J2 i2 l2 g2) (D : ZipApart z TI TO i1 i2 l1 l2) {k : Nat} {x y a b : Value} {Q : Option Value → Shared → Prop}
    (zz : IsZip s.heap z TI TO .none) (tt : IsPair s.heap TI (.ref i1) (.ref i2)) (oo : IsPair s.heap TO a b) (j1 : J1 s.heap k) (j2 : J2 s.heap k) (e1 : g1 k = some x) (e2 : g2 k = some y)
    (q : ∀ h', IsZip h' z TI TO (rawInt s.heap.objs.size) → IsPair h' TO x y → J1 h' (k + 1) → J2 h' (k + 1) → IsPair h' s.heap.objs.size x y → Lv z TO i1 i2 s.heap h' → Q (some (.ref s.heap.objs.size)) { s with heap := h' }) :
    wpAny (model prog w) A (pyNext (.ref z)) Q E s := by
  have ty : s.TypeIs (.ref z) "zip" := ⟨_, zz, rfl⟩
  unfold pyNext
  exact wpAny_bind (wpAny_attempt (wpAny_callSpecial?_slot (name := Str.ofString "__next__") ty F.slot_zip_next (wpAny_call_entry F.slot_zip_next ty F.entry_zip_next
    (zipS_item S1 S2 D zz tt oo j1 j2 e1 e2 fun h' b1 b2 b3 b4 b5 b6 => wpAny_pure (q h' b1 b2 b3 b4 b5 b6)) (F.args_zip_next_1 _))))
theorem nextS_stop (S1 : Stp prog w J1 i1 l1 g1) (S2 : Stp prog w J2 i2 l2 g2) (D : ZipApart z TI TO i1 i2 l1 l2) {k : Nat} {a b : Value} {Q : Option Value → Shared → Prop} (hh : A.handled = none)
    (zz : IsZip s.heap z TI TO .none) (tt : IsPair s.heap TI (.ref i1) (.ref i2)) (oo : IsPair s.heap TO a b) (j1 : J1 s.heap k) (j2 : J2 s.heap k) (en : g1 k = none ∨ g2 k = none)
    (q : ∀ h', Lv z TO i1 i2 s.heap h' → Q none { s with heap := h' }) : wpAny (model prog w) A (pyNext (.ref z)) Q E s := by
  have ty : s.TypeIs (.ref z) "zip" := ⟨_, zz, rfl⟩
  unfold pyNext
  refine wpAny_bind (wpAny_attempt (wpAny_callSpecial?_slot (name := Str.ofString "__next__") ty F.slot_zip_next (wpAny_call_entry F.slot_zip_next ty F.entry_zip_next (zipS_stop S1 S2 D hh zz tt oo j1 j2 en fun h' e k1 ⟨o, k2, k3⟩ => ?_) (F.args_zip_next_1 _))))
  exact wpAny_bind (wpAny_isInstance (T := "StopIteration") (b := true) ⟨o, k2, k3⟩ isSubtype_stop (wpAny_pure (q _ k1)))
end
/-! a list first, then a tuple -/
abbrev hLT (h : Heap) (l1 l2 : Addr) : Heap := ((((h.push { cls := .type "list_iterator", data := .fields #[.ref l1, .int 0 0] }).push { cls := .type "tuple_iterator", data := .fields #[.ref l2, .int 0 0] }).push { cls := .type "tuple", data := .seq #[.ref h.objs.size, .ref (h.objs.size + 1)] }).push { cls := .type "tuple", data := .seq #[.none, .none] }).push { cls := .type "zip", data := .fields #[.none, .bool false, .bool false, .ref (h.objs.size + 2), .ref (h.objs.size + 3)] }
theorem meets_LT (l1 l2 : Addr) (xs ys : Array Value) : Meets (Builtin.«zip.__new__» ⟨[.type "zip", .ref l1, .ref l2], []⟩) (fun _ R s => s.heap.IsList l1 xs ∧ s.heap.IsTuple l2 ys ∧ R (.ok (.ret (.ref (s.heap.objs.size + 4)))) { s with heap := hLT s.heap l1 l2 }) :=
  .of_wp fun prog w A R s h => by
    obtain ⟨hp, g, d, tk, os⟩ := s
    obtain ⟨x1, x2, h⟩ := h
    have sub := sub_zip
    have y1 : Heap.IsList (Shared.heap ⟨hp, g, d, tk, os⟩) l1 xs := x1
    have y2 : Heap.IsTuple (Shared.heap ⟨hp.push { cls := .type "list_iterator", data := .fields #[.ref l1, .int 0 0] }, g, d, tk, os⟩) l2 ys := Heap.IsTuple.push x2 _
    wp_walk using wpAny_pyIter_list y1, wpAny_pyIter_tuple y2
    refine ⟨_, rfl, ?_⟩
    simp only [Heap.size_push]
    exact h
theorem call_LT {A : Around} {E : Value → Shared → Prop} {s : Shared} {l1 l2 : Addr} {xs ys : Array Value} {Q : Value → Shared → Prop} (x1 : s.heap.IsList l1 xs) (x2 : s.heap.IsTuple l2 ys)
    (q : ∀ h', IsZip h' (s.heap.objs.size + 4) (s.heap.objs.size + 2) (s.heap.objs.size + 3) .none → IsPair h' (s.heap.objs.size + 2) (.ref s.heap.objs.size) (.ref (s.heap.objs.size + 1)) → IsPair h' (s.heap.objs.size + 3) .none .none →
      h'.IsListIter s.heap.objs.size l1 0 → h'.IsTupleIter (s.heap.objs.size + 1) l2 0 → (∀ c o, s.heap.get? c = some o → h'.get? c = some o) → Q (.ref (s.heap.objs.size + 4)) { s with heap := h' }) :
    wpAny (model prog w) A (call (.type "zip") [.ref l1, .ref l2]) Q E s := by
  refine callType_new F.called_zip (by decide) (F.typeCall_zip_2 _ _) (F.newCall_zip_2 _ _) (fun obj => F.args_object_init_3 obj _ _) F.entry_zip_new (meets_LT l1 l2 xs ys) ⟨x1, x2, ?_⟩
  generalize hs : s.heap = h0
  have push : ∀ (h : Heap) (o : Obj) (n : Nat), h.objs.size = n → o.isFreed = false → (h.push o).get? n = some o ∧ (h.push o).objs.size = n + 1 := fun h o n e f => ⟨by rw [← e]; exact Heap.get?_push_size _ f, by rw [Heap.size_push, e]⟩
  obtain ⟨b0, c0⟩ := push h0 { cls := .type "list_iterator", data := .fields #[.ref l1, .int 0 0] } _ rfl rfl
  obtain ⟨b1, c1⟩ := push _ { cls := .type "tuple_iterator", data := .fields #[.ref l2, .int 0 0] } _ c0 rfl
  obtain ⟨b2, c2⟩ := push _ { cls := .type "tuple", data := .seq #[.ref h0.objs.size, .ref (h0.objs.size + 1)] } _ c1 rfl
  obtain ⟨b3, c3⟩ := push _ { cls := .type "tuple", data := .seq #[.none, .none] } _ c2 rfl
  obtain ⟨b4, c4⟩ := push _ { cls := .type "zip", data := .fields #[.none, .bool false, .bool false, .ref (h0.objs.size + 2), .ref (h0.objs.size + 3)] } _ c3 rfl
  have up : ∀ {h : Heap} {o o' : Obj} {c : Addr}, h.get? c = some o' → (h.push o).get? c = some o' := fun e => Heap.get?_push_of_some _ e
  rw [hs] at q
  exact ⟨⟨_, b4, rfl⟩, q _ b4 (up (up b2)) (up b3) ⟨_, up (up (up (up b0))), rfl, rfl⟩ ⟨_, up (up (up b1)), rfl, rfl⟩ fun c o e => up (up (up (up (up e))))⟩
end
/-- the list at a and the tuple at b as they stand at each turn -/
def ItzM (K : PySem.W.Frag) (a b : Addr) : It :=
  ⟨fun i H => ∃ (xs ys : List V) (x y : V), SqL K H a xs ∧ SqT K H b ys ∧ xs[i]? = some x ∧ ys[i]? = some y,
    fun i H v H' => ∃ T x y, v = .ref T ∧ H T = none ∧ H' = upd H T (.tup [x, y]) ∧ (∀ xs, SqL K H a xs → xs[i]? = some x) ∧ ∀ ys, SqT K H b ys → ys[i]? = some y,
    fun i H => ∃ xs ys : List V, SqL K H a xs ∧ SqT K H b ys ∧ (xs.length ≤ i ∨ ys.length ≤ i)⟩
theorem mem5 {c z TI TO i1 i2 : Addr} (h : c ∈ [z, TI, TO, i1, i2]) : c = z ∨ c = TI ∨ c = TO ∨ c = i1 ∨ c = i2 := by simpa using h
theorem turn_M {P : Program} {w : World} {K : PySem.W.Frag} {elts : List Expr} {kk : Nat} {tpos : Pos} {a b z TI TO i1 i2 : Addr} (D : ZipApart z TI TO i1 i2 a b) :
    Turn P w K (.Tuple elts kk tpos) (ItzM K a b) [z, TI, TO, i1, i2] z (fun i h => IsZip h z TI TO .none ∧ IsPair h TI (.ref i1) (.ref i2) ∧ (∃ x y, IsPair h TO x y) ∧ h.IsListIter i1 a i ∧ h.IsTupleIter i2 b i) where
  mem := by simp
  obj := fun i h ⟨zz, tt, ⟨x, y, oo⟩, ⟨o1, e1, _, d1⟩, ⟨o2, e2, _, d2⟩⟩ c hc => by
    rcases mem5 hc with rfl | rfl | rfl | rfl | rfl
    · exact ⟨_, zz, fun v t => nomatch t⟩
    · exact ⟨_, tt, fun v t => nomatch t⟩
    · exact ⟨_, oo, fun v t => nomatch t⟩
    · exact ⟨o1, e1, fun v t => by rw [d1] at t; cases t⟩
    · exact ⟨o2, e2, fun v t => by rw [d2] at t; cases t⟩
  keep := fun i h h' ⟨zz, tt, ⟨x, y, oo⟩, j1, j2⟩ k => ⟨k z (by simp) _ zz, k TI (by simp) _ tt, ⟨x, y, k TO (by simp) _ oo⟩, j1.at fun o t => k i1 (by simp) o t, j2.at fun o t => k i2 (by simp) o t⟩
  item := by
    intro X hP hw hK hc i pins s σ H E I hf ⟨zz, tt, ⟨x0, y0, oo⟩, j1, j2⟩ ⟨xs, ys, x, y, qx, qy, ex, ey⟩
    subst hP hw hK
    obtain ⟨us, ru, pu, _⟩ := I.list qx
    obtain ⟨vs, rv, pv, _⟩ := I.tuple qy
    obtain ⟨u, hu, r1⟩ := ru.get ex
    obtain ⟨v, hv, r2⟩ := rv.get ey
    have zl : z < s.heap.objs.size := Heap.lt_size zz
    refine nextS_item (stp_list (xs := us.toArray) D.l1i1) (stp_tup (xs := vs.toArray) D.l2i2) D zz tt oo ⟨j1, pu.isList⟩ ⟨j2, pv⟩ (x := u) (y := v) (by simpa using hu) (by simpa using hv) fun h' z' o' k1 k2 t' lv => ?_
    refine ⟨_, rfl, wpAny_letOwnedTupleGo_zip (s := { s with heap := h' }) z' fun h2 z2 sb => ?_⟩
    have t2 : h2.get? s.heap.objs.size = some { cls := .type "tuple", data := .seq #[u, v] } := (sb.2 _ (Nat.ne_of_gt zl)).trans t'
    have new : ObjOk X.prog X.w (upd H s.heap.objs.size (.tup [x, y])) h2 s.heap.objs.size (.tup [x, y]) := ⟨by show 2 ≤ sizeLine; decide, [u, v], .cons r1 (.cons r2 .nil), ⟨_, t2, rfl, _, rfl⟩⟩
    have I2 : Inv X pins σ (upd H s.heap.objs.size (.tup [x, y])) { s with heap := h2 } :=
      I.turnedNew (t' := s.toks) (ch := [z, TI, TO, i1, i2]) (fun c o nb t => (sb.2 c fun e => nb (by simp [e])).trans (lv c o (fun e => nb (by simp [e])) (fun e => nb (by simp [e])) (fun e => nb (by simp [e])) (fun e => nb (by simp [e])) t)) hf (Nat.le_refl _) new
    refine ⟨.ref s.heap.objs.size, _, I2, rfl, ⟨_, x, y, rfl, I.hok.fresh (Nat.le_refl _), rfl, fun l hl => by rw [I.list_inj hl qx]; exact ex, fun l hl => by rw [I.tuple_inj hl qy]; exact ey⟩, ⟨z2, (sb.2 _ D.TIz).trans (lv _ _ D.TIz D.TITO D.TIi1 D.TIi2 tt), ⟨u, v, (sb.2 _ D.TOz).trans o'⟩, k1.1.at fun o t => (sb.2 _ D.i1z).trans t, k2.1.at fun o t => (sb.2 _ D.i2z).trans t⟩, fun c hm => ?_⟩
    have lt : c < s.heap.objs.size := by
      rcases mem5 hm with rfl | rfl | rfl | rfl | rfl
      · exact zl
      · exact Heap.lt_size tt
      · exact Heap.lt_size oo
      · obtain ⟨_, e, _⟩ := j1; exact Heap.lt_size e
      · obtain ⟨_, e, _⟩ := j2; exact Heap.lt_size e
    rw [upd_ne (Nat.ne_of_lt lt)]
    exact (hf c hm).1
  done := by
    intro X hP hw hK hc i pins s σ H E I hf ⟨zz, tt, ⟨x0, y0, oo⟩, j1, j2⟩ ⟨xs, ys, qx, qy, en⟩
    subst hP hw hK
    obtain ⟨us, ru, pu, _⟩ := I.list qx
    obtain ⟨vs, rv, pv, _⟩ := I.tuple qy
    have n1 := ru.length
    have n2 := rv.length
    refine nextS_stop (stp_list (xs := us.toArray) D.l1i1) (stp_tup (xs := vs.toArray) D.l2i2) D (I.ok.hd hc) zz tt oo ⟨j1, pu.isList⟩ ⟨j2, pv⟩ (k := i) ?_ fun h' lv => ⟨rfl, I.turnedL (t' := s.toks) (ch := [z, TI, TO, i1, i2]) (fun c o nb t => lv c o (fun e => nb (by simp [e])) (fun e => nb (by simp [e])) (fun e => nb (by simp [e])) (fun e => nb (by simp [e])) t) hf⟩
    rcases en with t | t
    · exact .inl (by simp; omega)
    · exact .inr (by simp; omega)
  self := fun A i s Q E st h => wpAny_pyIter_zip st.1 h
def iZipJ (K : PySem.W.Frag) (ta : TA) : TI := fun σ H R => ta σ H fun vs H1 => ∃ a b xs ys, vs = [.ref a, .ref b] ∧ ((SqL K H1 a xs ∧ SqT K H1 b ys ∧ R (ItzM K a b) H1) ∨ (SqT K H1 a xs ∧ SqT K H1 b ys ∧ R (RZ.ItzT K a b) H1))
theorem pi_zipJ {X : Cx} {e e2 : Expr} {ta : TA} {p pos tpos : Pos} {elts : List Expr} {kk : Nat} (hg : Gl X "zip") (hm : X.mg "zip" = none) (ha : PA X [e, e2] ta)
    (st : starEach [e, e2] X.env = (false, eval e X.env) :: starEach [e2] X.env) (pl : (backTo pos (starEach [e2] X.env)).any (·.1) = false) :
    PI X (.Tuple elts kk tpos) (.Call (.Name "zip" p) [e, e2] [] pos) (iZipJ X.K ta) := by
  refine ⟨fun pins s σ H R I h => Call_ (ld_blt I hg hm PyProof.Rows.boot_zip (PyProof.Rows.callWith_type1 (thn (ha.run pos pins s σ H _ I h) fun us s1 ⟨vs, H1, I1, r1, q1⟩ => ?_) st pl))⟩
  obtain ⟨a, b, xs, ys, rfl, q⟩ := q1
  have fp : ∀ c, c ∈ [s1.heap.objs.size + 4, s1.heap.objs.size + 2, s1.heap.objs.size + 3, s1.heap.objs.size, s1.heap.objs.size + 1] → FpOk X pins H1 c := fun c hc => by
    have le : s1.heap.objs.size ≤ c := by rcases mem5 hc with rfl | rfl | rfl | rfl | rfl <;> omega
    exact I1.fpOk le (I1.hok.fresh le)
  cases r1 with
  | cons r t =>
    cases t with
    | cons r' t =>
      cases t
      cases r
      cases r'
      rcases q with ⟨qx, qy, q⟩ | ⟨qx, qy, q⟩
      · obtain ⟨ls, rl, pu, _⟩ := I1.list qx
        obtain ⟨ts, rt, pv, _⟩ := I1.tuple qy
        obtain ⟨o2, ho2, _⟩ := id pv
        refine call_LT pu.isList (show s1.heap.IsTuple b ts.toArray from pv) fun h' zz tt oo j1 j2 hk => wpAny_pyIter_zip zz ?_
        exact ⟨s1.heap.objs.size + 4, [s1.heap.objs.size + 4, s1.heap.objs.size + 2, s1.heap.objs.size + 3, s1.heap.objs.size, s1.heap.objs.size + 1], _, _, H1, rfl, I1.kept (t' := s1.toks) hk, turn_M (PySem.W.ktu_apart s1.heap.objs.size a b pu.lt (Heap.lt_size ho2)), ⟨zz, tt, ⟨_, _, oo⟩, j1, j2⟩, fp, q⟩
      · obtain ⟨ls, rl, pu, _⟩ := I1.tuple qx
        obtain ⟨ts, rt, pv, _⟩ := I1.tuple qy
        obtain ⟨o1, ho1, _⟩ := id pu
        obtain ⟨o2, ho2, _⟩ := id pv
        refine RZ.call_zipT (show s1.heap.IsTuple a ls.toArray from pu) (show s1.heap.IsTuple b ts.toArray from pv) fun h' zz tt oo j1 j2 _ hk => wpAny_pyIter_zip zz ?_
        exact ⟨s1.heap.objs.size + 4, [s1.heap.objs.size + 4, s1.heap.objs.size + 2, s1.heap.objs.size + 3, s1.heap.objs.size, s1.heap.objs.size + 1], _, _, H1, rfl, I1.kept (t' := s1.toks) hk, RZ.turn_zipT (PySem.W.ktu_apart s1.heap.objs.size a b (Heap.lt_size ho1) (Heap.lt_size ho2)), ⟨zz, tt, ⟨_, _, oo⟩, j1, j2⟩, fp, q⟩
/-- zip of a list or tuple, and a tuple -/
def zipJP (d d2 : D) (S : Sto) (Q : QI) : Prop := ∃ xs ys, (tupOf d = some xs ∨ lstOf S d = some xs) ∧ tupOf d2 = some ys ∧ Q (zipD xs ys) (srcOf d xs ++ srcOf d2 ys) S
def wZipJ (a b : WE) : WI := fun env S Q X => a env S (fun d S1 => b env S1 (fun d2 S2 => zipJP d d2 S2 Q) X) X
def DI.zipJ (a b : DE) : DI where
  mt c tg e := isTup tg && match e with
    | .Call (.Name x _) [y, z] [] _ => x == "zip" && glB c "zip" && noStar y && a.mt c y && noStar z && b.mt c z
    | _ => false
  wp := wZipJ a.wp b.wp
  rq Z := Z.mg "zip" = none ∧ a.rq Z ∧ b.rq Z
  ok X W T tg e h g q := by
    simp only [Bool.and_eq_true] at h
    obtain ⟨ht, h⟩ := h
    cases tg with
    | Tuple elts kk tpos =>
      split at h
      · simp only [Bool.and_eq_true, beq_iff_eq] at h
        obtain ⟨⟨⟨⟨⟨rfl, h1⟩, h2⟩, h3⟩, h4⟩, h5⟩ := h
        rename_i y z _
        refine PI.imp (pi_zipJ (gl_of h1) q.1 (pa_cons (a.ok X W T _ h3 g q.2.1) (pa_cons (b.ok X W T _ h5 g q.2.2) pa_nil (starEach_cons h4)) (starEach_cons h2)) (starEach_cons h2) (star_any (by rw [List.all_cons, h4]; rfl))) fun σ H R ⟨env, S, F, ads, Qd, Xd, er, sm, hw, kv, kx⟩ => ?_
        refine ⟨env, S, F, ads, _, Xd, er, sm, hw, fun F1 ads1 S1 H1 d v x1 s1 r1 h1 => ?_, kx⟩
        refine ⟨env, S1, F1, ads1, _, Xd, er.ext x1, s1, h1, fun F2 ads2 S2 H2 d2 v2 x2 s2 r2 h2 => ?_, kx.ext x1⟩
        obtain ⟨xs, ys, hs, t2, hq⟩ := h2
        have r1 := r1.ext x2
        rw [tupOf_eq t2] at r2 hq
        cases r2 with
        | tup f2 g2 =>
          rcases hs with t1 | t1
          · rw [tupOf_eq t1] at r1 hq
            cases r1 with
            | tup f1 g1 =>
              refine ⟨_, _, _, _, rfl, .inr ⟨Sub.tup s2.sub f1, Sub.tup s2.sub f2, kv _ _ _ _ _ _ _ (x1.trans x2) s2 ?_ hq⟩⟩
              intro F3 ads3 S3 H3 f3 p3 s3 so
              have q1 := Sub.tup s3.sub (Same.tup f3 f1)
              have q2 := Sub.tup s3.sub (Same.tup f3 f2)
              have g1 := g1.mono f3 p3
              have g2 := g2.mono f3 p3
              refine ⟨fun i d hd => ?_, fun i hi => ⟨_, _, q1, q2, by rw [← g1.length, ← g2.length]; exact zip_len hi⟩⟩
              obtain ⟨x, y, ex, ey, rfl⟩ := zip_get hd
              obtain ⟨u, hu, ru⟩ := g1.get ex
              obtain ⟨w, hw, rw⟩ := g2.get ey
              refine ⟨⟨_, _, u, w, q1, q2, hu, hw⟩, fun z H4 hy => ?_⟩
              obtain ⟨T, u', w', rfl, hT, rfl, k1, k2⟩ := hy
              have := k1 _ q1; rw [hu] at this; cases this
              have := k2 _ q2; rw [hw] at this; cases this
              exact new_pair s3 hT ru rw
          · obtain ⟨a1, rfl, l1⟩ := lst_later r1 t1
            obtain ⟨us, hu, gu⟩ := l1 _ _ _ _ (Same.refl _) (fun _ _ h => h) s2 (src_now t1)
            refine ⟨a1, _, us, _, rfl, .inl ⟨hu, Sub.tup s2.sub f2, kv _ _ _ _ _ _ _ (x1.trans x2) s2 ?_ hq⟩⟩
            intro F3 ads3 S3 H3 f3 p3 s3 so
            obtain ⟨us, q1, g1⟩ := l1 _ _ _ _ f3 p3 s3 (srcOk_app so).1
            have q2 := Sub.tup s3.sub (Same.tup f3 f2)
            have g2 := g2.mono f3 p3
            refine ⟨fun i d hd => ?_, fun i hi => ⟨_, _, q1, q2, by rw [← g1.length, ← g2.length]; exact zip_len hi⟩⟩
            obtain ⟨x, y, ex, ey, rfl⟩ := zip_get hd
            obtain ⟨u, hu, ru⟩ := g1.get ex
            obtain ⟨w, hw, rw⟩ := g2.get ey
            refine ⟨⟨_, _, u, w, q1, q2, hu, hw⟩, fun z H4 hy => ?_⟩
            obtain ⟨T, u', w', rfl, hT, rfl, k1, k2⟩ := hy
            have := k1 _ q1; rw [hu] at this; cases this
            have := k2 _ q2; rw [hw] at this; cases this
            exact new_pair s3 hT ru rw
      · cases h
    | _ => cases ht
/-! ### the wp and what is asked, for the walks -/
theorem y25a (neg : Bool) (a b : DE) : (DE.inD neg a b).wp = w2 (oInD neg) a.wp b.wp := rfl
theorem y25b (neg : Bool) (a b : DE) : (DT.inD neg a b).wp = wB (w2 (oInD neg) a.wp b.wp) := rfl
theorem y25c (a b : DE) : (DI.zipJ a b).wp = wZipJ a.wp b.wp := rfl
theorem wZipJ_eq (a b : WE) (env : Env) (S : Sto) (Q : QI) (X : XD) : wZipJ a b env S Q X = a env S (fun d S1 => b env S1 (fun d2 S2 => zipJP d d2 S2 Q) X) X := rfl
theorem zipJ_tt (xs ys : List D) (S : Sto) (Q : QI) : zipJP (.tup xs) (.tup ys) S Q = Q (zipD xs ys) [] S := by
  unfold zipJP
  apply propext
  constructor
  · rintro ⟨a, b, h1 | h1, h2, h3⟩
    · cases h1; cases h2; exact h3
    · cases h1
  · intro h; exact ⟨xs, ys, .inl rfl, rfl, h⟩
theorem zipJ_lt (xs ys : List D) (S : Sto) (Q : QI) : zipJP (.lst xs) (.tup ys) S Q = Q (zipD xs ys) [] S := by
  unfold zipJP
  apply propext
  constructor
  · rintro ⟨a, b, h1 | h1, h2, h3⟩
    · cases h1
    · cases h1; cases h2; exact h3
  · intro h; exact ⟨xs, ys, .inr rfl, rfl, h⟩
theorem r25a (neg : Bool) (a b : DE) (Z : Cy) : (DE.inD neg a b).rq Z = (a.rq Z ∧ b.rq Z) := rfl
theorem r25b (neg : Bool) (a b : DE) (Z : Cy) : (DT.inD neg a b).rq Z = (a.rq Z ∧ b.rq Z) := rfl
theorem r25c (a b : DE) (Z : Cy) : (DI.zipJ a b).rq Z = (Z.mg "zip" = none ∧ a.rq Z ∧ b.rq Z) := rfl
/-! #### DL26 -/
/-! The D layer, part 26: sorted(set(t)), t a tuple of tuples of ints. -/
section
variable {P : Program} {w : World} {A : Around} {E : Value → Shared → Prop} {s : Shared}
/-- an empty set, as it is made -/
abbrev set0 (w : World) : Obj := { cls := .type "set", dict := none, data := .set #[] 0 (.fresh 0 0 (!w.params.followText "set-order")) }
theorem call_setTp {l : Addr} {items : Array Value} (ks : List (Addr × List Int)) {Q : Value → Shared → Prop} (hh : A.handled = none) (hl : s.heap.IsTuple l items) (hit : items.toList = ks.map fun p => Value.ref p.1)
    (hk : ∀ p ∈ ks, IsT P w s.heap p.2 p.1) (few : ks.length < 64) (hu : A.units + 3 < cLine)
    (q : ∀ (h' : Heap) (tk : Nat) L es ep t, SetTR P w h' s.heap.objs.size L es ep t → Got ks ks.length L → (∀ b o, s.heap.get? b = some o → h'.get? b = some o) → Q (.ref s.heap.objs.size) { s with heap := h', toks := tk }) :
    wpAny (model P w) A (call (.type "set") [.ref l]) Q E s := by
  have nk : items.size = ks.length := by
    have := congrArg List.length hit
    rwa [Array.length_toList, List.length_map] at this
  obtain ⟨c, tl, mro⟩ := F.called_set.mro
  have made := F.called_set.made
  have sub := F.called_set.sub
  have b1 := F.called_set.notType
  have b2 := F.called_set.canCreate
  have b3 := F.typeCall_set_1 (.ref l)
  refine wpAny_call (codeAny_of_tree ?_)
  change wpAny _ _ (callAny (.type "set") _) _ _ _
  refine wpAny_pure ⟨Code.quiet_builtin _ (by decide +kernel), codeAny_builtin F.entry_type_call ?_⟩
  rw [Around.under_plain (weight_type_call_type "set" [.ref l] []) rfl]
  repeat (any_goals (first | wp_step | assumption))
  refine codeAny_mono (code_set_led1 (.ref l) (E := E) (Q₁ := fun obj s1 => obj = .ref s.heap.objs.size ∧ s1 = { s with heap := s.heap.push (set0 w) }) ⟨rfl, rfl⟩) fun r s1 hr => ?_
  rcases r with e | fl
  · exact hr
  cases fl with
  | ret obj =>
    obtain ⟨rfl, rfl⟩ := hr
    have oS : (s.heap.push (set0 w)).get? s.heap.objs.size = some (set0 w) := Heap.get?_push_size _ rfl
    have ty : Shared.TypeIs { s with heap := s.heap.push (set0 w) } (.ref s.heap.objs.size) "set" := ⟨_, oS, rfl⟩
    have c1 := F.called_set.init.lookup
    have c2 := F.called_set.init.bind (.ref s.heap.objs.size)
    repeat (any_goals (first | wp_step | assumption))
    refine codeAny_mono (codeAny_call_builtin (R := wants (fun r s2 => r = .none ∧ ∃ h' tk L es ep t, s2 = { s with heap := h', toks := tk } ∧ SetTR P w h' s.heap.objs.size L es ep t ∧ Got ks ks.length L ∧ ∀ b o, s.heap.get? b = some o → h'.get? b = some o) E) F.called_set.init.plain F.entry_set_init (check_set_init_1 ty ?_)) fun r2 s2 hr2 => ?_
    · obtain ⟨⟨oc, od, oda, os⟩, ho, hc, n, hd⟩ := hl
      simp only at hc hd
      subst hc hd
      have ho1 : (s.heap.push (set0 w)).get? l = some { cls := .type "tuple", dict := od, data := .seq items n, slots := os } := Heap.get?_push_of_some _ ho
      have f1 := F.sub_tuple_set
      have f2 := F.sub_tuple_frozenset
      have f3 : (Value.type "tuple" == Value.type "dict") = false := by decide
      have hl1 : (s.heap.push (set0 w)).IsTuple l items := ⟨_, ho1, rfl, n, rfl⟩
      unfold Builtin.«set.__init__» noKeywords Builtin.Frozenset.updateFrom
      generalize hPI : pyIter = PI
      wp_walk
      subst hPI
      refine wpAny_pyIter_tuple hl1 (wpAny_bind (wpAny_runValue ?_))
      have lS : l < s.heap.objs.size := Heap.lt_size ho
      have free : ∀ b, s.heap.objs.size ≤ b → s.heap.get? b = none := fun b hb => by
        cases q : s.heap.get? b with
        | none => rfl
        | some o => exact absurd (Heap.lt_size q) (Nat.not_lt.mpr hb)
      have z1 : (s.heap.push (set0 w)).objs.size = s.heap.objs.size + 1 := Heap.size_push ..
      have vals : ∀ (i : Nat) (v : Value), items[i]? = some v → ∃ p, ks[i]? = some p ∧ v = .ref p.1 := by
        intro i v hv
        have q : (ks.map fun p => Value.ref p.1)[i]? = some v := by rw [← hit, Array.getElem?_toList]; exact hv
        rw [List.getElem?_map, Option.map_eq_some_iff] at q
        obtain ⟨p, e1, e2⟩ := q
        exact ⟨p, e1, e2.symm⟩
      have hh3 : A.in1.in1.in1.handled = none := by simp [hh]
      refine set_update_tups ((Walks.tuple hh3 _ l (by rw [z1]; exact Nat.ne_of_lt (Nat.lt_succ_of_lt lS)) items).toS) s.heap.objs.size (by rw [z1]; simp only [List.mem_cons, List.not_mem_nil, or_false, not_or]; exact ⟨Nat.ne_of_lt (Nat.lt_succ_self _), Nat.ne_of_gt lS⟩) ks nk few vals s.heap hk (free _ (by omega))
        (fun b hb => free b (by rw [List.mem_singleton.mp hb, z1]; omega)) hu (items.size - 0) 0 _ (by omega) (Nat.zero_le _)
        ⟨⟨_, Heap.get?_push_size _ rfl, rfl, rfl⟩, hl1.push _⟩ (fun b o e => Heap.get?_push_of_some _ (Heap.get?_push_of_some _ e)) ⟨[], #[], 0, _, setTR_fresh (Heap.get?_push_of_some _ oS), Got.zero ks⟩ fun s' L es ep t mv R g kp => ?_
      obtain ⟨h', g2, d', tk', os'⟩ := s'
      have e1 : g2 = s.gens := mv.gens
      have e2 : d' = s.drawn := mv.drawn
      have e3 : os' = s.os := mv.os
      subst e1 e2 e3
      refine wpAny_pure ?_
      rw [nk] at g
      exact wpAny_pure ⟨rfl, h', tk', L, es, ep, t, rfl, R, g, kp⟩
    · rcases r2 with e | fl
      · exact hr2
      cases fl with
      | ret r =>
        obtain ⟨rfl, h', tk, L, es, ep, t, rfl, k1, k2, k3⟩ := hr2
        repeat (any_goals (first | wp_step | assumption))
        exact q _ _ _ _ _ _ k1 k2 k3
      | _ => exact hr2.elim
  | _ => exact hr.elim
end
theorem perm_map {α β : Type} (f : α → β) : ∀ {L : List α} {vs : List β}, vs.Perm (L.map f) → ∃ L1 : List α, L1.Perm L ∧ vs = L1.map f := by
  intro L vs h
  generalize hm : L.map f = ws at h
  induction h generalizing L with
  | nil => cases L with
    | nil => exact ⟨[], .refl _, rfl⟩
    | cons a l => cases hm
  | cons x _ ih => cases L with
    | nil => cases hm
    | cons a l =>
      rw [List.map_cons] at hm
      injection hm with h1 h2
      obtain ⟨L1, p, e⟩ := ih h2
      exact ⟨a :: L1, p.cons a, by rw [List.map_cons, h1, e]⟩
  | swap x y l => match L, hm with
    | a :: b :: l', hm =>
      simp only [List.map_cons, List.cons.injEq] at hm
      obtain ⟨h1, h2, h3⟩ := hm
      exact ⟨b :: a :: l', .swap _ _ _, by simp [h1, h2, h3]⟩
  | trans _ _ ih1 ih2 =>
    obtain ⟨L2, p2, e2⟩ := ih2 hm
    obtain ⟨L1, p1, e1⟩ := ih1 e2.symm
    exact ⟨L1, p1.trans p2, e1⟩
theorem each_refs : ∀ L : List (Addr × List Int), PySem.W.EachIs (fun v (b : Addr × List Int) => v = Value.ref b.1) (L.map fun q => Value.ref q.1) L
  | [] => .nil
  | _ :: L => .cons rfl (each_refs L)
theorem refs_each : ∀ {vs : List Value} {L : List (Addr × List Int)}, PySem.W.EachIs (fun v (b : Addr × List Int) => v = Value.ref b.1) vs L → vs = L.map fun q => Value.ref q.1
  | _, _, .nil => rfl
  | _, _, .cons h t => by rw [List.map_cons, ← h, ← refs_each t]
theorem each_memP {α : Type} {R : Value → α → Prop} : ∀ {us : List Value} {bs : List α}, PySem.W.EachIs R us bs → ∀ {P : α → Prop}, (∀ p ∈ bs, P p) → PySem.W.EachIs (fun u p => R u p ∧ P p) us bs
  | _, _, .nil, _, _ => .nil
  | _, _, .cons h t, _, k => .cons ⟨h, k _ List.mem_cons_self⟩ (each_memP t fun p hp => k p (List.mem_cons_of_mem _ hp))
section
open PySem.W PySem.Calls
variable {P : Program} {w : World} {A : Around} {E : Value → Shared → Prop} {s : Shared}
theorem sorted_setD {a : Addr} {L : List (Addr × List Int)} {es : Array (Int × Value)} {ep : Nat} {t : SetTable} {Q : Value → Shared → Prop} (R : SetTR P w s.heap a L es ep t) (hh : A.handled = none) (enc : Addr × List Int → PyData)
    (rd : ∀ p ∈ L, ∃ as, Reads s.heap (.ref p.1) (enc p) as) (al : ∀ L' : List (Addr × List Int), L'.Perm L → AllAlike (L'.map enc) ∧ Sortable (L'.map enc)) (hu : ∀ p ∈ L, A.units + 2 + (enc p).depth < cLine)
    (q : ∀ s' p (c : Nat) (L' : List (Addr × List Int)), (∀ b o, s.heap.get? b = some o → s'.heap.get? b = some o) → s'.gens = s.gens → s'.os = s.os → s.heap.objs.size ≤ p →
      s'.heap.get? p = some (seqObj "list" ((L'.mergeSort (dataLe false enc)).map fun q => Value.ref q.1).toArray c) → L'.Perm L → Q (.ref p) s') :
    wpAny (model P w) A (call (.builtin "sorted") [.ref a]) Q E s := by
  obtain ⟨o, ho, hx, hd⟩ := R.ob
  have nz := R.size
  have few := R.few
  refine call_function_entry kind_sorted plain_sorted entry_sorted (args_sorted1 _) ?_
  unfold Builtin.«sorted»
  refine wpAny_bind (m := checkCount "sorted" 1 1 _) (wpAny_pure ?_)
  refine wpAny_bind (collect_set (A := A.in1) hh ⟨o, ho, hx.1, hd⟩ R.fits (by unfold scanBound; omega) R.tab.ris R.led fun s1 vs k1 hz g1 o1 pm => ?_)
  have er : es.toList.map (·.2) = L.map fun q => Value.ref q.1 := by
    rw [R.rows]; unfold L2.rowsOf; rw [List.map_map]; rfl
  rw [er] at pm
  obtain ⟨L1, pL, rfl⟩ := perm_map _ pm
  have vl : (L1.map fun q => Value.ref q.1).length ≤ sizeLine := by rw [List.length_map, pL.length_eq, sizeLine_eq]; omega
  refine wpAny_bind (wpAny_newList ?_ vl)
  have oL : (s1.heap.push (seqObj "list" (L1.map fun q => Value.ref q.1).toArray 0)).get? s1.heap.objs.size = some (seqObj "list" (L1.map fun q => Value.ref q.1).toArray 0) := Heap.get?_push_size _ rfl
  have up : ∀ b u, s.heap.get? b = some u → (s1.heap.push (seqObj "list" (L1.map fun q => Value.ref q.1).toArray 0)).get? b = some u := fun b u e => Heap.get?_push_of_some _ (k1 b u e)
  generalize hvs : (L1.map fun q => Value.ref q.1) = vs at vl oL up ⊢
  generalize hH : s1.heap.push (seqObj "list" vs.toArray 0) = H1 at oL up
  have sm : ∀ b u, s.heap.get? b = some u → (sortingHeap H1 s1.heap.objs.size vs).get? b = some u := fun b u e => sortingHeap_old (Nat.ne_of_lt (Nat.lt_of_lt_of_le (Heap.lt_size e) hz)) (up b u e)
  have e0 : EachIs (fun v b => v = Value.ref b.1) vs L1 := by rw [← hvs]; exact each_refs L1
  have e1 : EachIs (fun v b => ∃ as, Reads (sortingHeap H1 s1.heap.objs.size vs) v (enc b) as) vs L1 := (each_memP e0 (P := fun p => p ∈ L) fun p hp => pL.mem_iff.mp hp).mono fun v b ⟨h1, h2⟩ => by
    subst h1
    obtain ⟨as, r⟩ := rd b h2
    exact ⟨as, PyProof.Rows.Reads.keeps sm r⟩
  refine wpAny_bind (wpAny_holding (wpAny_call_entry_kw slot_list_sort ⟨_, oL, rfl⟩ entry_list_sort ?body (args_list_sort _)))
  case body =>
    show wpAny (model P w) A.in1.in1 (Builtin.«list.sort» ⟨[.ref s1.heap.objs.size], []⟩) _ _ { s1 with heap := H1 }
    refine list_sort_vals (κ := dataKind (sortingHeap H1 s1.heap.objs.size vs) (L1.map enc)) (s := { s1 with heap := H1 }) oL (SortsAt.data (s := { s1 with heap := sortingHeap H1 s1.heap.objs.size vs }) (each_map (R := fun v d => ∃ as, Reads (sortingHeap H1 s1.heap.objs.size vs) v d as) enc e1) (al L1 pL).1 (al L1 pL).2 (bound_map fun b hb => hu b (pL.mem_iff.mp hb))) vl ?_
    have eo := refs_each (sortVals_data false e0 e1 (al L1 pL).1)
    rw [eo]
    obtain ⟨c, hc⟩ := sortedHeap_at (vs := vs) (out := ((L1.mergeSort (dataLe false enc)).map fun q => Value.ref q.1).toArray) oL
    refine ⟨_, rfl, wpAny_pure ⟨_, rfl, q _ _ c L1 (fun b u e => ?_) g1 o1 hz hc pL⟩⟩
    have hlt := Heap.lt_size e
    show (sortedHeap H1 s1.heap.objs.size vs _).get? b = some u
    rw [sortedHeap_old (Nat.ne_of_lt (Nat.lt_of_lt_of_le hlt hz)) (by rw [← hH, size_push']; exact Nat.lt_succ_of_lt (Nat.lt_of_lt_of_le hlt hz))]
    exact up b u e
end
/-- set(t), t a tuple of tuples of ints -/
def rSetTp (K : PySem.W.Frag) (P : Program) (w : World) : List V → Hp → VK → Prop := fun xs H Q => ∃ (l : Addr) (ks : List (Addr × List Int)), xs = [V.ref l] ∧ SqT K H l (ks.map fun p => V.ref p.1) ∧ (∀ p ∈ ks, SqT K H p.1 (p.2.map V.int)) ∧ ks.length < 64 ∧
  ∀ a L, H a = none → (∀ p ∈ L, p ∈ ks) → (∀ p ∈ ks, p.2 ∈ L.map (·.2)) → Q (.ref a) (upd H a (SetTO P w a L))
theorem cr_setTp {X : Cx} (calm : X.calm = true) (un : X.A.units + 64 < cLine) : CallR X (.type "set") (rSetTp X.K X.prog X.w) := by
  intro pins s σ H xs us Q I r h
  obtain ⟨l, ks, rfl, hl, hk, few, q⟩ := h
  rw [Vals.ref1 r]
  obtain ⟨its, rv, pl, hz⟩ := I.tuple hl
  refine call_setTp (P := X.prog) (w := X.w) ks (I.ok.hd calm) pl (by simpa using refs_of_vals rv) (fun p hp => I.isT (hk p hp)) few (by omega) fun h' tk L es ep t R g kp => ?_
  exact ⟨.ref _, upd H _ (SetTO X.prog X.w _ L), I.laid (t' := tk) kp (Nat.le_refl _) (setTO_new R.t0), rfl, q _ L (I.hok.fresh (Nat.le_refl _)) (fun p hp => List.mem_of_mem_take (g.sub p hp)) fun p hp => g.all p (by rw [List.take_length]; exact hp)⟩
def encT (p : Addr × List Int) : PyData := .tuple (p.2.map .int)
/-- sorted(set) of tuples of ints of one length -/
def rSetSrt (K : PySem.W.Frag) (P : Program) (w : World) : List V → Hp → VK → Prop := fun vs H Q => ∃ (a : Addr) (L : List (Addr × List Int)), vs = [V.ref a] ∧ H a = some (SetTO P w a L) ∧ (∀ p ∈ L, SqT K H p.1 (p.2.map V.int)) ∧
  (∀ L' : List (Addr × List Int), L'.Perm L → PySem.W.AllAlike (L'.map encT) ∧ PySem.W.Sortable (L'.map encT)) ∧
  ∀ (L' : List (Addr × List Int)) (p : Addr), L'.Perm L → (L'.map (·.2)).Nodup → L'.length < 64 → H p = none → Q (.ref p) (upd H p (.lst ((L'.mergeSort (PySem.W.dataLe false encT)).map fun q => V.ref q.1)))
theorem dp_encT {K : PySem.W.Frag} {H : Hp} {p : Addr × List Int} (h : SqT K H p.1 (p.2.map V.int)) : Dp K H (.ref p.1) (encT p) := by
  refine .tup h ?_
  generalize p.2 = ns
  induction ns with
  | nil => exact .nil
  | cons a l ih => exact .cons (.int a) ih
theorem dep_encT (p : Addr × List Int) : (encT p).depth ≤ 1 := by
  simp [encT, PyData.depth, PyData.depthAll, PySem.W.depth_ints]
theorem cr_setSrt {X : Cx} (calm : X.calm = true) (un : X.A.units + 100 < cLine) : CallR X (.builtin "sorted") (rSetSrt X.K X.prog X.w) := by
  intro pins s σ H vs us Q I r h
  obtain ⟨a, L, rfl, ha, hk, al, q⟩ := h
  have R0 : SetT0 X.prog X.w s.heap a L := (I.hok a _ ha).1
  obtain ⟨es, ep, t, R⟩ := R0.full fun p hp => I.isT (hk p hp)
  rw [Vals.ref1 r]
  refine sorted_setD R (I.ok.hd calm) encT (fun p hp => Dp.reads I (encT p) (.ref p.1) _ (dp_encT (hk p hp)) rfl) al (fun p _ => by have := dep_encT p; omega) fun s' p c L' kp g o hp hg pm => ?_
  have few : L'.length < 64 := by rw [pm.length_eq]; exact R.few
  have hn : H p = none := I.hok.fresh hp
  have len : ((L'.mergeSort (PySem.W.dataLe false encT)).map fun q => V.ref q.1).length ≤ sizeLine := by rw [List.length_map, List.length_mergeSort, sizeLine_eq]; omega
  have J : Inv X pins σ (upd H p (.lst ((L'.mergeSort (PySem.W.dataLe false encT)).map fun q => V.ref q.1))) { s with heap := s'.heap, gens := s'.gens, drawn := s'.drawn, toks := s'.toks } :=
    I.call (ch := []) (Un.laid kp hp hn) (I.hok.laid kp hp ⟨len, _, c, vals_of_refs _, hg⟩) (by rw [g]; exact I.bare) (fun _ z => nomatch z)
  have e : s' = { s with heap := s'.heap, gens := s'.gens, drawn := s'.drawn, toks := s'.toks } := by
    cases s'; cases s; cases o; rfl
  rw [e]
  exact ⟨.ref p, _, J, rfl, q L' p pm ((pm.map (·.2)).nodup_iff.mpr R.nd) few hn⟩
/-! ### sorted(set(t)) -/
theorem alike_T (L : List (Addr × List Int)) (h : ∀ p ∈ L, p.2 ≠ []) : PySem.W.AllAlike (L.map encT) ∧ PySem.W.Sortable (L.map encT) := by
  have e : L.map encT = (L.map (·.2)).map fun k => PyData.tuple (k.map .int) := by rw [List.map_map]; rfl
  rw [e]
  constructor
  · refine PySem.W.AllAlike.of fun a b => ?_
    simp [PySem.W.alike, PySem.W.alikeAll, PySem.W.alike_ints]
  · refine .inl fun d hd => ?_
    obtain ⟨r, hr, rfl⟩ := List.mem_map.mp hd
    obtain ⟨p, hp, rfl⟩ := List.mem_map.mp hr
    cases hc : p.2 with
    | nil => exact absurd hc (h p hp)
    | cons x r => exact ⟨_, _, rfl⟩
theorem rps_refs {K : Fg} {F : Hp} {ads : List Addr} : ∀ {ks : List (List Int)} {vs : List V}, Rps K F ads (ks.map VE) vs → ∃ kz : List (Addr × List Int), vs = kz.map (fun p => V.ref p.1) ∧ kz.map (·.2) = ks ∧ ∀ p ∈ kz, SqT K.K F p.1 (p.2.map V.int)
  | [], _, .nil => ⟨[], rfl, rfl, fun p hp => by cases hp⟩
  | k :: ks, _, .cons r t => by
    obtain ⟨kz, e1, e2, e3⟩ := rps_refs t
    cases r with
    | @tup a _ us h rs =>
      have := Rps.ints rs
      subst this
      refine ⟨(a, k) :: kz, by rw [e1]; rfl, by rw [List.map_cons, e2], fun p hp => ?_⟩
      rcases List.mem_cons.mp hp with rfl | hp
      · exact h
      · exact e3 p hp
theorem refs_rps {K : Fg} {F : Hp} {ads : List Addr} : ∀ (L : List (Addr × List Int)), (∀ p ∈ L, SqT K.K F p.1 (p.2.map V.int)) → Rps K F ads (L.map fun p => VE p.2) (L.map fun p => V.ref p.1)
  | [], _ => .nil
  | p :: L, h => .cons (.tup (h p List.mem_cons_self) (Rps.ofInts _)) (refs_rps L fun q hq => h q (List.mem_cons_of_mem _ hq))
theorem pyDs_ints : ∀ a : List Int, pyDs (a.map D.int) = some (a.map .int)
  | [] => rfl
  | x :: a => by rw [List.map_cons, List.map_cons]; unfold pyDs; rw [pyDs_ints a]; rfl
theorem pyD_VE (a : List Int) : pyD (VE a) = some (.tuple (a.map .int)) := by
  show (pyDs (a.map D.int)).map PyData.tuple = _
  rw [pyDs_ints a]; rfl
def wSrtS (a : WE) : WL := fun env S Q X => a env S (fun x S1 => ∃ ks : List (List Int), x = .tup (ks.map VE) ∧ ks.length < 64 ∧ (∀ k ∈ ks, k ≠ []) ∧ ∀ ks' : List (List Int), ks'.Nodup → (∀ k, k ∈ ks' ↔ k ∈ ks) → Q (sortP (ks'.map VE)) S1) X
def DL.srtS (a : DE) : DL where
  mt c e := match e with
    | .Call (.Name f _) [.Call (.Name g _) [y] [] _] [] _ => f == "sorted" && g == "set" && glB c "sorted" && glB c "set" && noStar y && a.mt c y
    | _ => false
  wp := wSrtS a.wp
  rq Z := Z.mg "sorted" = none ∧ Z.mg "set" = none ∧ a.rq Z
  ok X W T e h g q := by
    split at h
    · simp only [Bool.and_eq_true, beq_iff_eq] at h
      obtain ⟨⟨⟨⟨⟨rfl, rfl⟩, h1⟩, h2⟩, h3⟩, h4⟩ := h
      rename_i p1 p2 y p3 p4
      have inner := pe_callTy (x := "set") (p := p2) (pos := p3) (cr_setTp g.calm (by have := g.un; omega)) (gl_of h2) q.2.1 (by decide +kernel) (pa_cons (a.ok X W T _ h4 g q.2.2) pa_nil (starEach_cons h3)) (by decide) (by decide) (starEach_cons h3) rfl
      refine PE.imp (pe_callB (x := "sorted") (cr_setSrt g.calm (by have := g.un; omega)) (gl_of h1) q.1 (by decide +kernel) (pa_cons inner pa_nil rfl) (by decide) (by decide) rfl rfl) fun σ H Q ⟨env, S, F, ads, Qd, Xd, er, sm, hw, kv, kx⟩ => ?_
      refine ⟨env, S, F, ads, _, Xd, er, sm, hw, fun F1 ads1 S1 H1 x v x1 s1 r1 hh => ?_, kx⟩
      obtain ⟨ks, rfl, few, hne, hq⟩ := hh
      cases r1 with
      | @tup t _ vs ht rs =>
        obtain ⟨kz, rfl, e2, e3⟩ := rps_refs rs
        refine ⟨t, kz, rfl, Sub.tup s1.sub ht, fun p hp => Sub.tup s1.sub (e3 p hp), by rw [← e2, List.length_map] at few; exact few, fun b L hb i1 i2 => ?_⟩
        obtain ⟨s2, x2⟩ := s1.frz hb (SetTO X.prog X.w b L)
        have sq : ∀ p ∈ kz, SqT X.K (upd F1 b (SetTO X.prog X.w b L)) p.1 (p.2.map V.int) := fun p hp => Same.tup x2.sub (e3 p hp)
        refine ⟨b, L, rfl, upd_same, fun p hp => Sub.tup s2.sub (sq p (i1 p hp)), fun L' pm => alike_T L' fun p hp => hne _ (by rw [← e2]; exact List.mem_map.mpr ⟨p, i1 p (pm.mem_iff.mp hp), rfl⟩), fun L' l pm nd _ hl => ?_⟩
        have em : (L'.mergeSort (PySem.W.dataLe false encT)).map (fun p => VE p.2) = sortP ((L'.map (·.2)).map VE) := by
          unfold sortP
          rw [List.map_map]
          refine List.map_mergeSort (s := leD) fun p _ r _ => ?_
          unfold leD
          show _ = match pyD (VE p.2), pyD (VE r.2) with | some p, some q => leP p q | _, _ => true
          rw [pyD_VE, pyD_VE]
          rfl
        refine kv _ _ _ _ _ _ _ (x1.trans x2) s2 (refs_rps (K := kt X T) _ fun p hp => sq p (i1 p (pm.mem_iff.mp ((List.mergeSort_perm _ _).mem_iff.mp hp)))) hl ?_
        rw [em]
        refine hq _ nd fun k => ?_
        constructor
        · intro hk
          obtain ⟨p, hp, rfl⟩ := List.mem_map.mp hk
          rw [← e2]
          exact List.mem_map.mpr ⟨p, i1 p (pm.mem_iff.mp hp), rfl⟩
        · intro hk
          rw [← e2] at hk
          obtain ⟨p, hp, rfl⟩ := List.mem_map.mp hk
          exact (pm.map (·.2)).mem_iff.mpr (i2 p hp)
    · cases h
theorem y26a (a : DE) : (DL.srtS a).wp = wSrtS a.wp := rfl
theorem r26a (a : DE) (Z : Cy) : (DL.srtS a).rq Z = (Z.mg "sorted" = none ∧ Z.mg "set" = none ∧ a.rq Z) := rfl
/-! #### DL27 -/
/-! The D layer, part 27: sum of a tuple. -/
def rSumTp (K : PySem.W.Frag) : List V → Hp → VK → Prop := fun xs H Q => ∃ (a : Addr) (ns : List Int), xs = [.ref a] ∧ SqT K H a (ns.map V.int) ∧ Q (.int ns.sum) H
theorem cr_sumTp {X : Cx} (calm : X.calm = true) : CallR X (.builtin "sum") (rSumTp X.K) := by
  intro pins s σ H xs us Q I r h
  obtain ⟨a, ns, rfl, ht, q⟩ := h
  obtain ⟨its, rv, pl, _⟩ := I.tuple ht
  rw [Vals.ref1 r]
  have hi := rv.ints
  obtain ⟨ys, hy⟩ := hi.allInts.items
  have hn : numsOf its.toArray.toList = ns := by rw [show its.toArray.toList = its from rfl, hi.numsOf]
  have pl2 : s.heap.IsTuple a its.toArray := pl
  rw [hy] at pl2 hn
  rw [nums_intItems] at hn
  refine PySem.W.ktm_sumG (I.ok.hd calm) pl2 fun h' tk t' kp => ?_
  have e : preSum (numAt ys) ys.size = ns.sum := (preSum_eq _ _).trans (by rw [List.take_of_length_le (by simp)]; exact congrArg List.sum hn)
  rw [e]
  exact ⟨.int ns.sum, H, I.kept kp, ⟨_, rfl⟩, q⟩
def oSumT : List D → Sto → QD → Prop
  | [x], S, Q => ∃ ns : List Int, x = .tup (ns.map .int) ∧ Q (.int ns.sum) S
  | _, _, _ => False
theorem ok_sumT {K : Fg} : OkA K oSumT (rSumTp K.K) := by
  intro F ads S H xs vs Qd Q sm rx h kv
  unfold oSumT at h
  split at h
  · cases rx with
    | cons r t =>
      cases t
      obtain ⟨ns, rfl, hq⟩ := h
      cases r with
      | tup h1 rs =>
        have e2 := rs.ints
        subst e2
        exact ⟨_, ns, rfl, Sub.tup sm.sub h1, kv _ _ _ _ _ _ Ext.refl sm (.int _) hq⟩
  · exact h.elim
def DE.sumT : DA → DE := mkB "sum" "sum" (by decide +kernel) (by decide) (by decide) oSumT fun X W T g => ⟨_, cr_sumTp g.calm, ok_sumT⟩
theorem y27a (a : DA) : (DE.sumT a).wp = wAp oSumT a.wp := rfl
theorem r27a (a : DA) (Z : Cy) : (DE.sumT a).rq Z = (Z.mg "sum" = none ∧ a.rq Z) := rfl
/-! #### DL28 -/
/-! The D layer, part 28: what is never reached. -/
def wDead : WS := fun _ _ _ => False
def DB.dead : DB where
  mt _ _ := true
  wp := wDead
  rq _ := True
  ok X W T s h g f q := ⟨fun pins s σ H D I z => by
    obtain ⟨env, S, F, ads, E, er, sm, hw, k⟩ := z
    exact hw.elim⟩
theorem y28a : DB.dead.wp = wDead := rfl
theorem r28a (Z : Cy) : DB.dead.rq Z = True := rfl
/-! ### name = (f, g, ..); return name[i](..) -/
theorem EnvR.hide {K : Fg} {F : Hp} {ads : List Addr} {env : Env} {σ : L2.St} (e : EnvR K F ads env σ) {i : Nat} (v : V) : EnvR K F ads (env.set i none) (σ.set i (some v)) := by
  refine ⟨by simp [e.len], fun j c h => ?_⟩
  by_cases hj : j = i
  · subst hj
    by_cases hl : j < env.length
    · rw [List.getElem?_set_self hl] at h; cases h
    · rw [List.getElem?_eq_none (by simpa using hl)] at h; cases h
  · rw [List.getElem?_set_ne (fun q => hj q.symm)] at h
    obtain ⟨u, a, q⟩ := e.get j c h
    exact ⟨u, by rw [List.getElem?_set_ne (fun q => hj q.symm)]; exact a, q⟩
def wAskT (i : Nat) (fs : List (Str × Ct)) (ix : WE) (a : WL) : WS := fun E env S => i < env.length ∧ wCallT fs ix a (env.set i none) S E.rt (fun x S1 => E.xq x (env.set i none) S1)
def DB.askT (i : Nat) (fs : List (Str × Ct)) (ix : DE) (a : DA) : DB where
  mt c s := match s with
    | [.Assign [.Name x _] (.Tuple ns _ _) _, .Return (some (.Call (.Subscript z y _) (e :: es) [] _)) _] => locB c i x && namesB c (fs.map (·.1)) ns && nameB c i z && ix.mt c y && plainIx y && a.mt c (e :: es) && decide (fs.length ≤ 1000)
    | _ => false
  wp := wAskT i fs ix.wp a.wp
  rq Z := allCall Z a.n fs ∧ ix.rq Z ∧ a.rq Z
  ok X W T s h g f q := by
    split at h
    · simp only [Bool.and_eq_true] at h
      obtain ⟨⟨⟨⟨⟨⟨h0, h1⟩, hz⟩, h2⟩, h3⟩, h4⟩, h5⟩ := h
      obtain ⟨q1, q2, q3⟩ := q
      obtain ⟨l1, l2, l3⟩ := loc_of h0
      obtain ⟨as, hl, hp, hi⟩ := pa_names fs _ h1 q1
      obtain ⟨pa, hs⟩ := a.ok X W T _ h4 g q3
      simp only [List.all_cons, Bool.and_eq_true] at hs
      refine PSs.imp (pss_cons (ps_set g.nd l1 l2 (pe_tup hp) (noComp_sw rfl) l3) (pss_cons (ps_ret (pe_callV (E := L2.WE W) (pe_ix ix_seq (pe_slot hz) (ix.ok X W T _ h2 g q2) (plainIx_of h3)) (fun σ => passAt g.tk σ) pa rfl (starEach_cons hs.1) (star_any hs.2))) pss_nil)) fun D σ H ⟨env, S, F, ads, E, er, sm, hw, k⟩ => ?_
      refine ⟨by rw [List.length_map, hl]; exact small_line h5, fun p hp' => ?_⟩
      obtain ⟨s2, x2⟩ := sm.frz hp' (.tup (as.map fun a => V.ref a))
      have si : i < σ.length := er.len ▸ hw.1
      refine ⟨.ref p, List.getElem?_set_self si, ?_⟩
      have er2 := (er.ext x2).hide (i := i) (.ref p)
      refine ⟨env.set i none, S, _, _, _, fun x S1 => E.xq x (env.set i none) S1, er2, s2, hw.2, fun F1 ads1 S1 H1 d v x3 s3 r3 h6 => ?_, (k.xq.ext x2).kx er2⟩
      obtain ⟨j, p', rfl, ei, hw2⟩ := h6
      cases r3
      obtain ⟨ad, k', fd, ps, ea, Fk, hr, hk, hb⟩ := hi j p' ei
      refine .inr (.inl ⟨p, as.map (fun a => V.ref a), _, .ref ad, rfl, rfl, ?_, ?_, ad, fd, ps, _, k', rfl, Fk, hr, hk, hb, ?_⟩)
      · exact s3.sub.tup (Same.tup x3.1 (SqT.of upd_same))
      · rw [show atI (as.map fun a => V.ref a) ((j : Nat) : Int) = (as.map fun a => V.ref a)[j]? from atI_nat _ _, List.getElem?_map, ea]; rfl
      · refine ⟨_, S1, F1, ads1, _, _, er2.ext x3, s3, hw2, fun F4 ads4 S4 H4 ds vs x4 s4 r4 l4 h7 => ?_, ((k.xq.ext x2).kx er2).ext x3⟩
        exact ⟨ds, S4, F4, ads4, E.rt, _, l4, s4, r4, h7, k.rt.ext ((x2.trans x3).trans x4), fun F5 ads5 S5 H5 x x5 s5 h8 => (k.xq.ext x2).kx er2 _ _ _ _ _ ((x3.trans x4).trans x5) s5 h8⟩
    · cases h
theorem y28b (i : Nat) (fs : List (Str × Ct)) (ix : DE) (a : DA) : (DB.askT i fs ix a).wp = wAskT i fs ix.wp a.wp := rfl
theorem r28b (i : Nat) (fs : List (Str × Ct)) (ix : DE) (a : DA) (Z : Cy) : (DB.askT i fs ix a).rq Z = (allCall Z a.n fs ∧ ix.rq Z ∧ a.rq Z) := rfl
/-! #### DL29 -/
/-! The D layer, part 29: list(range(a, b)). -/
def rgD (i j : Int) : List D := (List.range (j - i).toNat).map fun k => .int (i + (k : Nat))
theorem rg_rps {K : Fg} {F : Hp} {ads : List Addr} (i j : Int) : Rps K F ads (rgD i j) (rgV i j) := by
  unfold rgD rgV
  generalize List.range (j - i).toNat = l
  induction l with
  | nil => exact .nil
  | cons k l ih => exact .cons (.int _) ih
def wLofR (a b : WE) : WL := fun env S Q X => a env S (fun d S1 => b env S1 (fun e S2 => ∃ i j, d = .int i ∧ e = .int j ∧ RgOk i j ∧ Q (rgD i j) S2) X) X
def DL.lofR (a b : DE) : DL where
  mt c e := match e with
    | .Call (.Name x _) [.Call (.Name z _) [y1, y2] [] _] [] _ => x == "list" && z == "range" && glB c "list" && glB c "range" && noStar y1 && noStar y2 && a.mt c y1 && b.mt c y2
    | _ => false
  wp := wLofR a.wp b.wp
  rq Z := Z.mg "list" = none ∧ Z.mg "range" = none ∧ a.rq Z ∧ b.rq Z
  ok X W T e h g q := by
    split at h
    · simp only [Bool.and_eq_true, beq_iff_eq] at h
      obtain ⟨⟨⟨⟨⟨⟨⟨rfl, rfl⟩, h1⟩, h2⟩, h3⟩, h4⟩, h5⟩, h6⟩ := h
      rename_i p1 p2 y1 y2 p3 p4
      have inner := prg_2 (p := p2) (pos := p3) (gl_of h2) q.2.1 (a.ok X W T _ h5 g q.2.2.1) (b.ok X W T _ h6 g q.2.2.2) (starEach_cons h3) (starEach_cons h4) (star_any (by rw [List.all_cons, h4]; rfl))
      refine PE.imp (pe_listRg g.calm (gl_of h1) q.1 inner rfl) fun σ H Q ⟨env, S, F, ads, Qd, Xd, er, sm, hw, kv, kx⟩ => ?_
      refine ⟨env, S, F, ads, _, Xd, er, sm, hw, fun F1 ads1 S1 H1 d v x1 s1 r1 h1 => ?_, kx⟩
      refine ⟨env, S1, F1, ads1, _, Xd, er.ext x1, s1, h1, fun F2 ads2 S2 H2 d2 v2 x2 s2 r2 h2 => ?_, kx.ext x1⟩
      obtain ⟨i, j, rfl, rfl, ok, hq⟩ := h2
      cases r1
      cases r2
      exact ⟨i, j, rfl, rfl, ok, fun l hl => kv _ _ _ _ _ _ _ (x1.trans x2) s2 (rg_rps i j) hl hq⟩
    · cases h
theorem y29a (a b : DE) : (DL.lofR a b).wp = wLofR a.wp b.wp := rfl
theorem r29a (a b : DE) (Z : Cy) : (DL.lofR a b).rq Z = (Z.mg "list" = none ∧ Z.mg "range" = none ∧ a.rq Z ∧ b.rq Z) := rfl
/-! #### DL30 -/
/-! The D layer, part 30: x[i], y[j] = a, b. -/
theorem sw_sub2 {x y x2 y2 u v : Expr} {p p2 pt pt2 : Pos} {k k2 : Nat} {env : PySem.Env} : swappedStores [.Tuple [.Subscript x y p, .Subscript x2 y2 p2] k pt] (.Tuple [u, v] k2 pt2) env = pure none := by
  unfold swappedStores
  simp only [List.filterMap_cons, List.filterMap_nil]
  split
  · rfl
  split
  · rfl
  rfl
/-- o[i] = d, in the store -/
def setO (x y d : D) (S : Sto) (Q : Sto → Prop) : Prop := ∃ h k j ds, x = .han h ∧ y = .int k ∧ S[h]? = some (.lst ds) ∧ ixN ds.length k = some j ∧ Q (S.set h (.lst (ds.set j d)))
def wSub2 (a b o i o2 i2 : WE) : WS := fun E env S => a env S (fun d S1 => b env S1 (fun e S2 => o env S2 (fun x S3 => i env S3 (fun y S4 => setO x y d S4 fun S5 => o2 env S5 (fun x2 S6 => i2 env S6 (fun y2 S7 => setO x2 y2 e S7 (E.nx env)) (fun z S => E.xq z env S)) (fun z S => E.xq z env S)) (fun z S => E.xq z env S)) (fun z S => E.xq z env S)) (fun z S => E.xq z env S)) (fun z S => E.xq z env S)
def DS.sub2 (o i o2 i2 a b : DE) : DS where
  mt c s := match s with
    | .Assign [.Tuple [.Subscript x y _, .Subscript x2 y2 _] _ _] (.Tuple [u, v] _ _) _ => o.mt c x && i.mt c y && plainIx y && o2.mt c x2 && i2.mt c y2 && plainIx y2 && noStar u && noStar v && a.mt c u && b.mt c v
    | _ => false
  wp := wSub2 a.wp b.wp o.wp i.wp o2.wp i2.wp
  rq Z := a.rq Z ∧ b.rq Z ∧ o.rq Z ∧ i.rq Z ∧ o2.rq Z ∧ i2.rq Z
  ok X W T s h g f q := by
    split at h
    · simp only [Bool.and_eq_true] at h
      obtain ⟨⟨⟨⟨⟨⟨⟨⟨⟨h1, h2⟩, h3⟩, h4⟩, h5⟩, h6⟩, h7⟩, h8⟩, h9⟩, h10⟩ := h
      obtain ⟨q1, q2, q3, q4, q5, q6⟩ := q
      rename_i x y p1 x2 y2 p2 k1 p3 u v k2 p4 p5
      have pa := pa_cons (a.ok X W T _ h9 g q1) (pa_cons (b.ok X W T _ h10 g q2) pa_nil (starEach_cons h8)) (starEach_cons h7)
      have t1 := pg_sub (X := X) (pos := p1) (o.ok X W T _ h1 g q3) (i.ok X W T _ h2 g q4) set_list (assign_sub h3)
      have t2 := pg_sub (X := X) (pos := p2) (o2.ok X W T _ h4 g q5) (i2.ok X W T _ h5 g q6) set_list (assign_sub h6)
      refine PS.imp (ps_asg (pe_tup pa) (pg_tup g.calm (pgs_cons t1 (pgs_cons t2 pgs_nil rfl) rfl) rfl rfl) rfl sw_sub2 rfl) fun D σ H ⟨env, S, F, ads, E, er, sm, hw, k⟩ => ?_
      have kx := k.xq.kx er
      refine ⟨env, S, F, ads, _, _, er, sm, hw, fun F1 ads1 S1 H1 d v x1 s1 r1 w1 => ?_, kx⟩
      refine ⟨env, S1, F1, ads1, _, _, er.ext x1, s1, w1, fun F2 ads2 S2 H2 d2 v2 x2 s2 r2 w2 => ?_, kx.ext x1⟩
      refine ⟨by show 2 ≤ sizeLine; decide, fun p hp => ?_⟩
      obtain ⟨s3, x3⟩ := s2.frz hp (.tup [v, v2])
      have y3 := (x1.trans x2).trans x3
      refine ⟨p, [v, v2], rfl, s3.sub.tup (SqT.of upd_same), rfl, v, [v2], rfl, ?_⟩
      refine ⟨env, S2, _, _, _, _, er.ext y3, s3, w2, fun F4 ads4 S4 H4 xo vo x4 s4 r4 w4 => ?_, kx.ext y3⟩
      have y4 := y3.trans x4
      refine ⟨env, S4, _, _, _, _, er.ext y4, s4, w4, fun F5 ads5 S5 H5 xi vi x5 s5 r5 w5 => ?_, kx.ext y4⟩
      have y5 := y4.trans x5
      obtain ⟨hd, kk, j, ds, rfl, rfl, hS, hj, hq⟩ := w5
      cases r5
      cases r4.ext x5 with
      | han ha =>
        obtain ⟨a', ha', nF, us, hH, rs⟩ := s5.at hS
        rw [ha] at ha'; cases ha'
        refine ⟨_, us, kk, j, rfl, rfl, hH, by rw [← rs.length]; exact hj, ?_⟩
        have r1' := r1.ext ((x2.trans x3).trans (x4.trans x5))
        obtain ⟨s6, x6⟩ := s5.put ha nF (.lst (us.set j v)) (o := .lst (ds.set j d)) ⟨nF, _, upd_same, rs.set r1' j⟩
        have y6 := y5.trans x6
        refine ⟨v2, [], rfl, env, _, _, _, _, _, er.ext y6, s6, hq, fun F7 ads7 S7 H7 xo2 vo2 x7 s7 r7 w7 => ?_, kx.ext y6⟩
        have y7 := y6.trans x7
        refine ⟨env, S7, _, _, _, _, er.ext y7, s7, w7, fun F8 ads8 S8 H8 xi2 vi2 x8 s8 r8 w8 => ?_, kx.ext y7⟩
        have y8 := y7.trans x8
        obtain ⟨hd2, kk2, j2, ds2, rfl, rfl, hS2, hj2, hq2⟩ := w8
        cases r8
        cases r7.ext x8 with
        | han ha2 =>
          obtain ⟨a2, ha3, nF2, us2, hH2, rs2⟩ := s8.at hS2
          rw [ha2] at ha3; cases ha3
          refine ⟨_, us2, kk2, j2, rfl, rfl, hH2, by rw [← rs2.length]; exact hj2, rfl, ?_⟩
          have r2' := r2.ext (x3.trans (x4.trans (x5.trans (x6.trans (x7.trans x8)))))
          obtain ⟨s9, x9⟩ := s8.put ha2 nF2 (.lst (us2.set j2 v2)) (o := .lst (ds2.set j2 d2)) ⟨nF2, _, upd_same, rs2.set r2' j2⟩
          have y9 := y8.trans x9
          exact k.nx _ _ _ _ _ _ y9 s9 (er.ext y9) hq2
    · cases h
theorem y30a (o i o2 i2 a b : DE) : (DS.sub2 o i o2 i2 a b).wp = wSub2 a.wp b.wp o.wp i.wp o2.wp i2.wp := rfl
theorem r30a (o i o2 i2 a b : DE) (Z : Cy) : (DS.sub2 o i o2 i2 a b).rq Z = (a.rq Z ∧ b.rq Z ∧ o.rq Z ∧ i.rq Z ∧ o2.rq Z ∧ i2.rq Z) := rfl
/-! #### DL31 -/
/-! The D layer, part 31: isinstance(x, (list, dict)). -/
def wIsLD (a : WE) : WE := fun env S Q X => a env S (fun d S1 => ∃ t, tyD S1 d = some t ∧ kitB t "list" = some false ∧ kitB t "dict" = some false ∧ Q (.bl false) S1) X
theorem tyX_ext {X : Cx} {T : List (Addr × Str)} {F : Hp} {ads : List Addr} {S : Sto} {H : Hp} {d : D} {v : V} {t : String} (sm : Sim (kt X T) F ads S H) (r : Rp (kt X T) F ads d v) (h : tyD S d = some t) : TyX X.K H v (.type t) := tyD_of sm r h
def DE.isLD (a : DE) : DE where
  mt c e := match e with
    | .Call (.Name f _) [y, .Tuple [.Name z1 _, .Name z2 _] _ _] [] _ => f == "isinstance" && glB c "isinstance" && noStar y && a.mt c y && z1 == "list" && glB c "list" && z2 == "dict" && glB c "dict"
    | _ => false
  wp := wIsLD a.wp
  rq Z := Z.mg "isinstance" = none ∧ Z.mg "list" = none ∧ Z.mg "dict" = none ∧ a.rq Z
  ok X W T e h g q := by
    split at h
    · simp only [Bool.and_eq_true, beq_iff_eq] at h
      obtain ⟨⟨⟨⟨⟨⟨⟨rfl, h1⟩, h2⟩, h3⟩, rfl⟩, h5⟩, rfl⟩, h6⟩ := h
      rename_i pA y pB pC kC pD pE'
      have p1 := pe_bltn (X := X) (pos := pB) (x := "list") (v := .ty "list") (gl_of h5) q.2.1 (by decide +kernel) rfl (by decide) (by decide)
      have p2 := pe_bltn (X := X) (pos := pC) (x := "dict") (v := .ty "dict") (gl_of h6) q.2.2.1 (by decide +kernel) rfl (by decide) (by decide)
      refine PE.imp (pe_callB call_isiT (gl_of h1) q.1 (by decide +kernel) (pa_cons (a.ok X W T _ h3 g q.2.2.2) (pa_cons (pe_tup (pa_cons p1 (pa_cons p2 pa_nil rfl) rfl)) pa_nil rfl) (starEach_cons h2)) (by decide) (by decide) (starEach_cons h2) rfl) fun σ H Q ⟨env, S, F, ads, Qd, Xd, er, sm, hw, kv, kx⟩ => ?_
      refine ⟨env, S, F, ads, _, Xd, er, sm, hw, fun F1 ads1 S1 H1 d v x1 s1 r1 hh => ?_, kx⟩
      obtain ⟨t, ht, b1, b2, hq⟩ := hh
      refine ⟨by show 2 ≤ sizeLine; decide, fun p hp => ?_⟩
      obtain ⟨s2, x2⟩ := s1.frz hp (.tup [.ty "list", .ty "dict"])
      refine ⟨v, p, [.ty "list", .ty "dict"], .type t, [.type "list", .type "dict"], false, rfl, upd_same, .cons (.ty _) (.cons (.ty _) .nil), tyX_ext s2 (r1.ext x2) ht, ?_, kv _ _ _ _ _ _ (x1.trans x2) s2 (.bl _) hq⟩
      exact kitAny_cons (kit_ty b1) (fun _ => kitAny_cons (kit_ty b2) (fun _ => kitAny_nil) (fun h => by cases h)) (fun h => by cases h)
    · cases h
theorem y31a (a : DE) : (DE.isLD a).wp = wIsLD a.wp := rfl
theorem r31a (a : DE) (Z : Cy) : (DE.isLD a).rq Z = (Z.mg "isinstance" = none ∧ Z.mg "list" = none ∧ Z.mg "dict" = none ∧ a.rq Z) := rfl
/-! #### MA -/
/-! Rows of whole numbers: lattices, sifting, the normal form. -/
def plusV (u : List Int) (k : Int) (v : List Int) : List Int := (u.zip v).map fun p => p.1 + k * p.2
def gt (v : List Int) (i : Nat) : Int := v.getD i 0
def zb (p : Nat) (v : List Int) : Prop := ∀ i, i < p → gt v i = 0
theorem gt_lt {v : List Int} {i : Nat} (h : i < v.length) : gt v i = v[i] := by simp [gt, h]
theorem gt_ge {v : List Int} {i : Nat} (h : v.length ≤ i) : gt v i = 0 := by simp [gt, h]
theorem plus_len {u v : List Int} {k : Int} (h : u.length = v.length) : (plusV u k v).length = u.length := by simp [plusV, h]
theorem gt_plus {u v : List Int} (h : u.length = v.length) (k : Int) (i : Nat) : gt (plusV u k v) i = gt u i + k * gt v i := by
  by_cases hi : i < u.length
  · rw [gt_lt (by rw [plus_len h]; exact hi), gt_lt hi, gt_lt (by omega)]
    simp [plusV]
  · rw [gt_ge (by rw [plus_len h]; omega), gt_ge (by omega), gt_ge (by omega)]
    simp
theorem ext_gt {u v : List Int} (h : u.length = v.length) (e : ∀ i, i < u.length → gt u i = gt v i) : u = v := by
  apply List.ext_getElem h
  intro i h1 h2
  have := e i h1
  rwa [gt_lt h1, gt_lt h2] at this
theorem gt_zero (m i : Nat) : gt (List.replicate m 0) i = 0 := by
  by_cases h : i < m
  · rw [gt_lt (by simpa using h)]; simp
  · rw [gt_ge (by simpa using Nat.le_of_not_lt h)]
/-- the vectors that rows of length m generate -/
inductive Lat (m : Nat) (R : List (List Int)) : List Int → Prop
  | zero : Lat m R (List.replicate m 0)
  | add {v r : List Int} (k : Int) : Lat m R v → r ∈ R → Lat m R (plusV v k r)
def Len (m : Nat) (R : List (List Int)) : Prop := ∀ r ∈ R, r.length = m
theorem Lat.len {m : Nat} {R : List (List Int)} (hR : Len m R) {v : List Int} (h : Lat m R v) : v.length = m := by
  induction h with
  | zero => simp
  | add k _ hr ih => rw [plus_len (by rw [ih, hR _ hr]), ih]
theorem Lat.comb {m : Nat} {R : List (List Int)} (hR : Len m R) {u v : List Int} (hu : Lat m R u) (k : Int) (hv : Lat m R v) : Lat m R (plusV u k v) := by
  induction hv generalizing u k with
  | zero =>
    have : plusV u k (List.replicate m 0) = u := by
      have lu := hu.len hR
      apply ext_gt
      · rw [plus_len (by simp [lu])]
      · intro i _
        rw [gt_plus (by simp [lu]), gt_zero]; simp
    rw [this]; exact hu
  | add j hv hr ih =>
    rename_i v r
    have lu := hu.len hR
    have lv := hv.len hR
    have lr := hR _ hr
    have e : plusV u k (plusV v j r) = plusV (plusV u k v) (k * j) r := by
      have l1 : (plusV v j r).length = m := by rw [plus_len (by omega), lv]
      have l2 : (plusV u k v).length = m := by rw [plus_len (by omega), lu]
      apply ext_gt
      · rw [plus_len (by omega), plus_len (by omega), l2, lu]
      · intro i _
        rw [gt_plus (by omega), gt_plus (by omega), gt_plus (by omega), gt_plus (by omega)]
        grind
    rw [e]
    exact .add _ (ih hu k) hr
theorem Lat.of_mem {m : Nat} {R : List (List Int)} {r : List Int} (hr : r ∈ R) (hl : r.length = m) : Lat m R r := by
  have e : plusV (List.replicate m 0) 1 r = r := by
    apply ext_gt
    · rw [plus_len (by simp [hl])]; simp [hl]
    · intro i _
      rw [gt_plus (by simp [hl]), gt_zero]; simp
  rw [← e]
  exact .add _ .zero hr
theorem Lat.mono {m : Nat} {R T : List (List Int)} (hT : Len m T) (h : ∀ r ∈ R, Lat m T r) {v : List Int} (hv : Lat m R v) : Lat m T v := by
  induction hv with
  | zero => exact .zero
  | add k _ hr ih => exact ih.comb hT k (h _ hr)
/-- the normal form of a set of vectors, by places -/
def EchP (m p : Nat) (L : List Int → Prop) (g : Nat → Option (List Int)) : Prop := ∀ q, q < p →
  (g q = none → ∀ v, L v → zb q v → gt v q = 0) ∧ ∀ f, g q = some f → L f ∧ f.length = m ∧ zb q f ∧ 0 < gt f q ∧ (∀ v, L v → zb q v → gt f q ∣ gt v q) ∧ ∀ r f', q < r → r < p → g r = some f' → 0 ≤ gt f r ∧ gt f r < gt f' r
def rowsOf (p : Nat) (g : Nat → Option (List Int)) : List (List Int) := (List.range p).filterMap g
/-- it is one -/
theorem ech_uniq {m : Nat} {R T : List (List Int)} (hR : Len m R) (hT : Len m T) (e : ∀ v, Lat m R v ↔ Lat m T v) {g h : Nat → Option (List Int)} (hg : EchP m m (Lat m R) g) (hh : EchP m m (Lat m T) h) : ∀ q, q < m → g q = h q := by
  intro q hq
  obtain ⟨g0, g1⟩ := hg q hq
  obtain ⟨h0, h1⟩ := hh q hq
  cases eg : g q with
  | none =>
    cases eh : h q with
    | none => rfl
    | some f =>
      obtain ⟨a, b, c, d, _⟩ := h1 f eh
      have := g0 eg f ((e f).mpr a) c
      omega
  | some f =>
    cases eh : h q with
    | none =>
      obtain ⟨a, b, c, d, _⟩ := g1 f eg
      have := h0 eh f ((e f).mp a) c
      omega
    | some f' =>
      obtain ⟨a, b, c, d, i, j⟩ := g1 f eg
      obtain ⟨a', b', c', d', i', j'⟩ := h1 f' eh
      have lt : Lat m R f' := (e f').mpr a'
      have ep : gt f q = gt f' q := Int.dvd_antisymm (by omega) (by omega) (i f' lt c') (i' f ((e f).mp a) c)
      congr 1
      apply ext_gt (by omega)
      -- place by place
      have key : ∀ r, ∀ s, s < r → s < m → gt f s = gt f' s := by
        intro r
        induction r with
        | zero => intro s hs; omega
        | succ r ih =>
          intro s hs hm
          by_cases hsr : s < r
          · exact ih s hsr hm
          · have es : s = r := by omega
            subst es
            by_cases h2 : s < q
            · rw [c s h2, c' s h2]
            · by_cases h3 : s = q
              · rw [h3]; exact ep
              · have hlt : q < s := by omega
                have dL : Lat m R (plusV f (-1) f') := a.comb hR _ lt
                have dz : zb s (plusV f (-1) f') := fun t ht => by
                  rw [gt_plus (by omega), ih t ht (by omega)]; omega
                have ed : gt (plusV f (-1) f') s = gt f s - gt f' s := by rw [gt_plus (by omega)]; omega
                cases es : g s with
                | none =>
                  have := (hg s hm).1 es _ dL dz
                  omega
                | some w =>
                  obtain ⟨_, _, wz, wp, wd, _⟩ := (hg s hm).2 w es
                  have dv := wd _ dL dz
                  rw [ed] at dv
                  cases es' : h s with
                  | none =>
                    have := (hh s hm).1 es' _ ((e w).mp (by assumption)) wz
                    omega
                  | some w' =>
                    obtain ⟨wL', _, wz', wp', wd', _⟩ := (hh s hm).2 w' es'
                    obtain ⟨wL, _⟩ := (hg s hm).2 w es
                    have ew : gt w s = gt w' s := Int.dvd_antisymm (by omega) (by omega) (wd w' ((e w').mpr wL') wz') (wd' w ((e w).mp wL) wz)
                    obtain ⟨x1, x2⟩ := j s w hlt hm es
                    obtain ⟨y1, y2⟩ := j' s w' hlt hm es'
                    obtain ⟨c, hc⟩ := dv
                    have : c = 0 := by
                      by_cases hc1 : 1 ≤ c
                      · have : gt w s * 1 ≤ gt w s * c := Int.mul_le_mul_of_nonneg_left hc1 (by omega)
                        omega
                      · by_cases hc2 : c ≤ -1
                        · have : gt w s * c ≤ gt w s * (-1) := Int.mul_le_mul_of_nonneg_left hc2 (by omega)
                          omega
                        · omega
                    subst this
                    omega
      intro i hi
      exact key (i + 1) i (by omega) (by omega)
/-! #### MB -/
theorem fm_pos (a : Int) {b : Int} (h : 0 < b) : 0 ≤ a.fmod b ∧ a.fmod b < b := ⟨Int.fmod_nonneg_of_pos a h, Int.fmod_lt_of_pos a h⟩
theorem fm_neg (a : Int) {b : Int} (h : b < 0) : b < a.fmod b ∧ a.fmod b ≤ 0 := by
  have e := Int.neg_fmod_neg a b
  have := fm_pos (-a) (b := -b) (by omega)
  omega
theorem fm_abs (a : Int) {b : Int} (h : b ≠ 0) : (a.fmod b).natAbs < b.natAbs := by
  by_cases hb : 0 < b
  · have := fm_pos a hb; omega
  · have := fm_neg a (b := b) (by omega); omega
theorem fd_abs (a : Int) {b : Int} (h : b ≠ 0) : (a.fdiv b).natAbs * b.natAbs ≤ a.natAbs + b.natAbs := by
  have e := Int.mul_fdiv_add_fmod a b
  have := fm_abs a h
  rw [← Int.natAbs_mul, Int.mul_comm]
  omega
theorem fm_half {a b : Int} (hs : (0 < a ∧ 0 < b) ∨ (a < 0 ∧ b < 0)) (hl : b.natAbs ≤ a.natAbs) : 2 * (a.fmod b).natAbs ≤ a.natAbs := by
  have e := Int.mul_fdiv_add_fmod a b
  rcases hs with ⟨h1, h2⟩ | ⟨h1, h2⟩
  · have f := fm_pos a h2
    have q : 1 ≤ a.fdiv b := by
      by_cases q : a.fdiv b ≤ 0
      · have : b * a.fdiv b ≤ b * 0 := Int.mul_le_mul_of_nonneg_left q (by omega)
        omega
      · omega
    have : b * 1 ≤ b * a.fdiv b := Int.mul_le_mul_of_nonneg_left q (by omega)
    omega
  · have f := fm_neg a h2
    have q : 1 ≤ a.fdiv b := by
      by_cases q : a.fdiv b ≤ 0
      · have : (-b) * a.fdiv b ≤ (-b) * 0 := Int.mul_le_mul_of_nonneg_left q (by omega)
        simp only [Int.neg_mul] at this
        omega
      · omega
    have : (-b) * 1 ≤ (-b) * a.fdiv b := Int.mul_le_mul_of_nonneg_left q (by omega)
    simp only [Int.neg_mul] at this
    omega
def red (p : Nat) (f u : List Int) : List Int := plusV u (-((gt u p).fdiv (gt f p))) f
theorem red_len {p : Nat} {f u : List Int} (h : u.length = f.length) : (red p f u).length = u.length := plus_len h
theorem red_gt {p : Nat} {f u : List Int} (h : u.length = f.length) (i : Nat) : gt (red p f u) i = gt u i - (gt u p).fdiv (gt f p) * gt f i := by
  unfold red
  rw [gt_plus h, Int.neg_mul]
  omega
theorem red_at {p : Nat} {f u : List Int} (h : u.length = f.length) : gt (red p f u) p = (gt u p).fmod (gt f p) := by
  rw [red_gt h, Int.fmod_def, Int.mul_comm]
theorem red_zb {p : Nat} {f u : List Int} (h : u.length = f.length) (hu : zb p u) (hf : zb p f) : zb p (red p f u) := fun i hi => by
  rw [red_gt h, hu i hi, hf i hi]; omega
theorem red_lat {m p : Nat} {R : List (List Int)} (hR : Len m R) {f u : List Int} (hu : Lat m R u) (hf : Lat m R f) : Lat m R (red p f u) := hu.comb hR _ hf
def Bd (E : Nat) (v : List Int) : Prop := ∀ x ∈ v, x.natAbs ≤ E
theorem Bd.mono {E E' : Nat} {v : List Int} (h : Bd E v) (e : E ≤ E') : Bd E' v := fun x hx => Nat.le_trans (h x hx) e
theorem Bd.at {E : Nat} {v : List Int} (h : Bd E v) (i : Nat) : (gt v i).natAbs ≤ E := by
  by_cases hi : i < v.length
  · rw [gt_lt hi]; exact h _ (List.getElem_mem hi)
  · rw [gt_ge (by omega)]; simp
theorem Bd.plus {E : Nat} {u v : List Int} {k : Int} (hu : Bd E u) (hv : Bd E v) : Bd (E * (1 + k.natAbs)) (plusV u k v) := by
  intro x hx
  unfold plusV at hx
  rw [List.mem_map] at hx
  obtain ⟨⟨a, b⟩, hm, rfl⟩ := hx
  have h := List.of_mem_zip hm
  have h1 := hu a h.1
  have h2 := hv b h.2
  have h3 : (k * b).natAbs ≤ k.natAbs * E := by rw [Int.natAbs_mul]; exact Nat.mul_le_mul (Nat.le_refl _) h2
  have h4 : E * (1 + k.natAbs) = E + k.natAbs * E := by rw [Nat.mul_add, Nat.mul_one, Nat.mul_comm]
  show (a + k * b).natAbs ≤ _
  rw [h4]
  omega
theorem mem_plus {u v : List Int} {k x : Int} (h : x ∈ plusV u k v) : ∃ a ∈ u, ∃ b ∈ v, x = a + k * b := by
  unfold plusV at h
  rw [List.mem_map] at h
  obtain ⟨⟨a, b⟩, hm, rfl⟩ := h
  have h := List.of_mem_zip hm
  exact ⟨a, h.1, b, h.2, rfl⟩
/-- the state of the inner loop -/
structure WInv (m p : Nat) (R : List (List Int)) (E0 : Nat) (so re : List (List Int)) : Prop where
  s1 : ∀ u ∈ so, Lat m R u ∧ zb p u ∧ gt u p ≠ 0
  r1 : ∀ u ∈ re, Lat m R u ∧ zb (p + 1) u
  cl : ∀ v, Lat m R v → zb p v → Lat m (so ++ re) v
  bd : ∃ E M, (∀ u ∈ so ++ re, Bd E u) ∧ (∀ u ∈ so, (gt u p).natAbs ≤ M) ∧ M ≤ E0 ∧
    ((E ≤ E0 ∧ M ≤ E0) ∨ (((∀ u ∈ so, 0 < gt u p) ∨ (∀ u ∈ so, gt u p < 0)) ∧ ∃ w ∈ so, E * M * (M * (gt w p).natAbs) ^ 2 ≤ 3 * E0 ^ 6) ∨ (so.length ≤ 1 ∧ E ≤ 9 * E0 ^ 6))
def wsum (p : Nat) : List (List Int) → Nat
  | [] => 0
  | u :: r => (gt u p).natAbs + wsum p r
theorem wsum_perm {p : Nat} {a b : List (List Int)} (h : a.Perm b) : wsum p a = wsum p b := by
  induction h with
  | nil => rfl
  | cons x _ ih => simp only [wsum, ih]
  | swap x y l => simp only [wsum]; omega
  | trans _ _ i j => rw [i, j]
theorem wsum_filter {p : Nat} {a : List (List Int)} {q : List Int → Bool} : wsum p (a.filter q) ≤ wsum p a := by
  induction a with
  | nil => simp [wsum]
  | cons x r ih =>
    rw [List.filter_cons]
    split
    · simp only [wsum]; omega
    · simp only [wsum]; omega
theorem WInv.perm {m p : Nat} {R : List (List Int)} {E0 : Nat} {so so' re : List (List Int)} (hR : Len m R) (h : WInv m p R E0 so re) (hp : so'.Perm so) : WInv m p R E0 so' re := by
  have hm : ∀ u, u ∈ so' ↔ u ∈ so := fun u => hp.mem_iff
  have hl : so'.length = so.length := hp.length_eq
  obtain ⟨E, M, b1, b2, b3, b4⟩ := h.bd
  refine ⟨fun u hu => h.s1 u ((hm u).mp hu), h.r1, fun v hv hz => ?_, E, M, fun u hu => ?_, fun u hu => b2 u ((hm u).mp hu), b3, ?_⟩
  · refine Lat.mono (fun r hr => ?_) (fun r hr => Lat.of_mem ?_ ?_) (h.cl v hv hz)
    · rcases List.mem_append.mp hr with q | q
      · exact (h.s1 r ((hm r).mp q)).1.len hR
      · exact (h.r1 r q).1.len hR
    · rcases List.mem_append.mp hr with q | q
      · exact List.mem_append_left _ ((hm r).mpr q)
      · exact List.mem_append_right _ q
    · rcases List.mem_append.mp hr with q | q
      · exact (h.s1 r q).1.len hR
      · exact (h.r1 r q).1.len hR
  · refine b1 u ?_
    rcases List.mem_append.mp hu with q | q
    · exact List.mem_append_left _ ((hm u).mp q)
    · exact List.mem_append_right _ q
  · rcases b4 with q | ⟨q, w, hw, q2⟩ | ⟨q, q2⟩
    · exact .inl q
    · refine .inr (.inl ⟨?_, w, (hm w).mpr hw, q2⟩)
      rcases q with q | q
      · exact .inl fun u hu => q u ((hm u).mp hu)
      · exact .inr fun u hu => q u ((hm u).mp hu)
    · exact .inr (.inr ⟨by omega, q2⟩)
theorem pot2 {E E' M K l w r : Nat} (h : E' * l ≤ 3 * (E * M)) (hl : l ≤ w) (hr : 2 * r ≤ M) (hK : E * M * (M * w) ^ 2 ≤ K) : E' * l * (l * r) ^ 2 ≤ K := by
  have a : E' * l * ((l * (2 * r)) ^ 2) ≤ 3 * (E * M) * ((w * M) ^ 2) := Nat.mul_le_mul h (Nat.pow_le_pow_left (Nat.mul_le_mul hl hr) 2)
  have b : E' * l * ((l * (2 * r)) ^ 2) = 4 * (E' * l * (l * r) ^ 2) := by grind
  have c : 3 * (E * M) * ((w * M) ^ 2) = 3 * (E * M * (M * w) ^ 2) := by grind
  rw [b, c] at a
  omega
theorem pot1 {E E' M E0 l r : Nat} (h : E' * l ≤ 3 * (E * M)) (hE : E ≤ E0) (hM : M ≤ E0) (hl : l ≤ E0) (hr : r ≤ E0) : E' * l * (l * r) ^ 2 ≤ 3 * E0 ^ 6 := by
  have h' : E' * l ≤ 3 * (E0 * E0) := Nat.le_trans h (Nat.mul_le_mul (Nat.le_refl _) (Nat.mul_le_mul hE hM))
  have a : E' * l * (l * r) ^ 2 ≤ 3 * (E0 * E0) * (E0 * E0) ^ 2 := Nat.mul_le_mul h' (Nat.pow_le_pow_left (Nat.mul_le_mul hl hr) 2)
  have b : 3 * (E0 * E0) * (E0 * E0) ^ 2 = 3 * E0 ^ 6 := by grind
  omega
theorem one_le_pow6 {E : Nat} (h : 1 ≤ E) : E * E ≤ E ^ 6 := by
  have : E ^ 2 ≤ E ^ 6 := Nat.pow_le_pow_right h (by omega)
  have e : E ^ 2 = E * E := by grind
  omega
/-- one turn of the inner loop -/
theorem WInv.step {m p : Nat} {R : List (List Int)} {E0 : Nat} {f : List Int} {tl re : List (List Int)} (hR : Len m R) (h : WInv m p R E0 (f :: tl) re) (ht : tl ≠ []) (hs : ∀ u ∈ tl, (gt f p).natAbs ≤ (gt u p).natAbs) :
    WInv m p R E0 (f :: (tl.map (red p f)).filter (fun u => gt u p != 0)) (re ++ (tl.map (red p f)).filter (fun u => gt u p == 0)) ∧
    wsum p (f :: (tl.map (red p f)).filter (fun u => gt u p != 0)) < wsum p (f :: tl) := by
  obtain ⟨fL, fz, fn⟩ := h.s1 f List.mem_cons_self
  have fl := fL.len hR
  have tL : ∀ u ∈ tl, Lat m R u ∧ zb p u ∧ gt u p ≠ 0 := fun u hu => h.s1 u (List.mem_cons_of_mem _ hu)
  have tl' : ∀ u ∈ tl, u.length = f.length := fun u hu => by rw [(tL u hu).1.len hR, fl]
  have rl : ∀ u ∈ re, u.length = m := fun u hu => (h.r1 u hu).1.len hR
  have sL : ∀ u ∈ tl.map (red p f), Lat m R u ∧ zb p u := fun u hu => by
    obtain ⟨w, hw, rfl⟩ := List.mem_map.mp hu
    exact ⟨red_lat hR (tL w hw).1 fL, red_zb (tl' w hw) (tL w hw).2.1 fz⟩
  have hLn : Len m (f :: (tl.map (red p f)).filter (fun u => gt u p != 0) ++ (re ++ (tl.map (red p f)).filter (fun u => gt u p == 0))) := by
    intro r hr
    simp only [List.cons_append, List.mem_cons, List.mem_append, List.mem_filter] at hr
    rcases hr with rfl | ⟨q, _⟩ | q | ⟨q, _⟩
    · exact fl
    · exact (sL r q).1.len hR
    · exact rl r q
    · exact (sL r q).1.len hR
  refine ⟨⟨?_, ?_, ?_, ?_⟩, ?_⟩
  · intro u hu
    rcases List.mem_cons.mp hu with rfl | q
    · exact ⟨fL, fz, fn⟩
    · obtain ⟨q1, q2⟩ := List.mem_filter.mp q
      exact ⟨(sL u q1).1, (sL u q1).2, by simpa using q2⟩
  · intro u hu
    rcases List.mem_append.mp hu with q | q
    · exact h.r1 u q
    · obtain ⟨q1, q2⟩ := List.mem_filter.mp q
      refine ⟨(sL u q1).1, fun i hi => ?_⟩
      by_cases e : i = p
      · subst e; simpa using q2
      · exact (sL u q1).2 i (by omega)
  · intro v hv hz
    refine Lat.mono hLn (fun r hr => ?_) (h.cl v hv hz)
    have fm : f ∈ (f :: (tl.map (red p f)).filter (fun u => gt u p != 0) ++ (re ++ (tl.map (red p f)).filter (fun u => gt u p == 0))) := by simp
    simp only [List.cons_append, List.mem_cons, List.mem_append] at hr
    rcases hr with rfl | q | q
    · exact Lat.of_mem fm fl
    · have e : r = plusV (red p f r) ((gt r p).fdiv (gt f p)) f := by
        have l1 := tl' r q
        have l2 := red_len (p := p) l1
        apply ext_gt
        · rw [plus_len (by omega), l2]
        · intro i _
          rw [gt_plus (by omega), red_gt l1]; omega
      have hmem : red p f r ∈ tl.map (red p f) := List.mem_map_of_mem q
      have : Lat m (f :: (tl.map (red p f)).filter (fun u => gt u p != 0) ++ (re ++ (tl.map (red p f)).filter (fun u => gt u p == 0))) (red p f r) := by
        refine Lat.of_mem ?_ ((sL _ hmem).1.len hR)
        simp only [List.cons_append, List.mem_cons, List.mem_append, List.mem_filter]
        by_cases z : gt (red p f r) p = 0
        · exact .inr (.inr (.inr ⟨hmem, by simp [z]⟩))
        · exact .inr (.inl ⟨hmem, by simp [z]⟩)
      rw [e]
      exact this.comb hLn _ (Lat.of_mem fm fl)
    · exact Lat.of_mem (by simp [q]) (rl r q)
  · obtain ⟨E, M, b1, b2, b3, b4⟩ := h.bd
    have hl0 : 1 ≤ (gt f p).natAbs := by omega
    have hlM := b2 f List.mem_cons_self
    have hE' : E * (3 * M / (gt f p).natAbs) * (gt f p).natAbs ≤ 3 * (E * M) := by
      rw [Nat.mul_assoc]
      have : 3 * M / (gt f p).natAbs * (gt f p).natAbs ≤ 3 * M := Nat.div_mul_le_self _ _
      calc _ ≤ E * (3 * M) := Nat.mul_le_mul (Nat.le_refl _) this
        _ = 3 * (E * M) := by grind
    have h1 : 1 ≤ 3 * M / (gt f p).natAbs := (Nat.le_div_iff_mul_le (by omega)).mpr (by omega)
    have hEE : E ≤ E * (3 * M / (gt f p).natAbs) := by
      calc E = E * 1 := by omega
        _ ≤ _ := Nat.mul_le_mul (Nat.le_refl _) h1
    have bR : ∀ u ∈ tl.map (red p f), Bd (E * (3 * M / (gt f p).natAbs)) u := fun u hu => by
      obtain ⟨w, hw, rfl⟩ := List.mem_map.mp hu
      have := (b1 w (by simp [hw])).plus (k := -((gt w p).fdiv (gt f p))) (b1 f (by simp))
      refine this.mono (Nat.mul_le_mul (Nat.le_refl _) ?_)
      rw [Nat.le_div_iff_mul_le (by omega), Int.natAbs_neg, Nat.add_mul]
      have q1 := fd_abs (gt w p) fn
      have q2 := b2 w (by simp [hw])
      omega
    have aR : ∀ u ∈ tl.map (red p f), (gt u p).natAbs < (gt f p).natAbs := fun u hu => by
      obtain ⟨w, hw, rfl⟩ := List.mem_map.mp hu
      rw [red_at (tl' w hw)]
      exact fm_abs _ fn
    have sg : (∀ u ∈ f :: (tl.map (red p f)).filter (fun u => gt u p != 0), 0 < gt u p) ∨ (∀ u ∈ f :: (tl.map (red p f)).filter (fun u => gt u p != 0), gt u p < 0) := by
      by_cases s : 0 < gt f p
      · refine .inl fun u hu => ?_
        rcases List.mem_cons.mp hu with rfl | q
        · exact s
        · obtain ⟨q1, q2⟩ := List.mem_filter.mp q
          obtain ⟨w, hw, rfl⟩ := List.mem_map.mp q1
          have q2 : gt (red p f w) p ≠ 0 := by simpa using q2
          rw [red_at (tl' w hw)] at q2 ⊢
          have := fm_pos (gt w p) s
          omega
      · refine .inr fun u hu => ?_
        rcases List.mem_cons.mp hu with rfl | q
        · omega
        · obtain ⟨q1, q2⟩ := List.mem_filter.mp q
          obtain ⟨w, hw, rfl⟩ := List.mem_map.mp q1
          have q2 : gt (red p f w) p ≠ 0 := by simpa using q2
          rw [red_at (tl' w hw)] at q2 ⊢
          have := fm_neg (gt w p) (b := gt f p) (by omega)
          omega
    refine ⟨E * (3 * M / (gt f p).natAbs), (gt f p).natAbs, ?_, ?_, by omega, ?_⟩
    · intro u hu
      simp only [List.cons_append, List.mem_cons, List.mem_append, List.mem_filter] at hu
      rcases hu with rfl | ⟨q, _⟩ | q | ⟨q, _⟩
      · exact (b1 u (by simp)).mono hEE
      · exact bR u q
      · exact (b1 u (by simp [q])).mono hEE
      · exact bR u q
    · intro u hu
      rcases List.mem_cons.mp hu with rfl | q
      · exact Nat.le_refl _
      · exact Nat.le_of_lt (aR u (List.mem_filter.mp q).1)
    · cases hc : (tl.map (red p f)).filter (fun u => gt u p != 0) with
      | nil =>
        refine .inr (.inr ⟨by simp, ?_⟩)
        have hx : E * (3 * M / (gt f p).natAbs) ≤ E * (3 * M / (gt f p).natAbs) * (gt f p).natAbs := by
          calc _ = E * (3 * M / (gt f p).natAbs) * 1 := by omega
            _ ≤ _ := Nat.mul_le_mul (Nat.le_refl _) hl0
        have hE0 : 1 ≤ E0 := by omega
        have h6 := one_le_pow6 hE0
        rcases b4 with ⟨q, _⟩ | ⟨_, w, hw, q⟩ | ⟨q, _⟩
        · have : E * M ≤ E0 * E0 := Nat.mul_le_mul q b3
          omega
        · have : 1 ≤ M * (gt w p).natAbs := Nat.mul_pos (by omega) (by have := (h.s1 w hw).2.2; omega)
          have : 1 ≤ (M * (gt w p).natAbs) ^ 2 := Nat.pow_pos this
          have : E * M * 1 ≤ E * M * (M * (gt w p).natAbs) ^ 2 := Nat.mul_le_mul (Nat.le_refl _) this
          omega
        · exfalso
          cases tl with
          | nil => exact ht rfl
          | cons a r => simp at q
      | cons r rs =>
        have hr : r ∈ (tl.map (red p f)).filter (fun u => gt u p != 0) := by rw [hc]; simp
        obtain ⟨r1, r2⟩ := List.mem_filter.mp hr
        rw [← hc]
        refine .inr (.inl ⟨sg, r, List.mem_cons_of_mem _ hr, ?_⟩)
        have ra := aR r r1
        rcases b4 with ⟨q, q'⟩ | ⟨sg', w, hw, q⟩ | ⟨q, _⟩
        · exact pot1 hE' q q' (by omega) (by omega)
        · refine pot2 hE' ?_ ?_ q
          · rcases List.mem_cons.mp hw with rfl | q
            · exact Nat.le_refl _
            · exact hs w q
          · obtain ⟨x, hx, rfl⟩ := List.mem_map.mp r1
            rw [red_at (tl' x hx)]
            have hM := b2 x (by simp [hx])
            have := fm_half (a := gt x p) (b := gt f p) (by
              rcases sg' with sg' | sg'
              · exact .inl ⟨sg' x (by simp [hx]), sg' f (by simp)⟩
              · exact .inr ⟨sg' x (by simp [hx]), sg' f (by simp)⟩) (hs x hx)
            omega
        · exfalso
          cases tl with
          | nil => exact ht rfl
          | cons a r => simp at q
  · have key : ∀ l : List (List Int), (∀ u ∈ l, u.length = f.length) → (∀ u ∈ l, (gt f p).natAbs ≤ (gt u p).natAbs) → wsum p (l.map (red p f)) + l.length ≤ wsum p l := by
      intro l
      induction l with
      | nil => intro _ _; simp [wsum]
      | cons a r ih =>
        intro h1 h2
        have i := ih (fun u hu => h1 u (List.mem_cons_of_mem _ hu)) (fun u hu => h2 u (List.mem_cons_of_mem _ hu))
        simp only [List.map_cons, wsum, List.length_cons]
        rw [red_at (h1 a List.mem_cons_self)]
        have := fm_abs (gt a p) fn
        have := h2 a List.mem_cons_self
        omega
    have k := key tl tl' hs
    have : 1 ≤ tl.length := by cases tl with | nil => exact absurd rfl ht | cons a r => simp
    have := wsum_filter (p := p) (a := tl.map (red p f)) (q := fun u => gt u p != 0)
    simp only [wsum]
    omega
/-! #### MC -/
theorem Lat.split {m : Nat} {f : List Int} {T : List (List Int)} (hf : f.length = m) (hT : Len m T) {v : List Int} (h : Lat m (f :: T) v) : ∃ c w, Lat m T w ∧ v = plusV w c f := by
  induction h with
  | zero =>
    refine ⟨0, _, .zero, ?_⟩
    apply ext_gt
    · rw [plus_len (by simp [hf])]
    · intro i _
      rw [gt_plus (by simp [hf])]; omega
  | add k hv hr ih =>
    obtain ⟨c, w, hw, rfl⟩ := ih
    have lw := hw.len hT
    rcases List.mem_cons.mp hr with rfl | q
    · refine ⟨c + k, w, hw, ?_⟩
      apply ext_gt
      · rw [plus_len (by rw [plus_len (by omega)]; omega), plus_len (by omega), plus_len (by omega)]
      · intro i _
        rw [gt_plus (by rw [plus_len (by omega)]; omega), gt_plus (by omega), gt_plus (by omega), Int.add_mul]; omega
    · have lr := hT _ q
      refine ⟨c, _, .add k hw q, ?_⟩
      have l1 : (plusV w c f).length = m := by rw [plus_len (by omega), lw]
      have l2 : ∀ r, r ∈ T → (plusV w k r).length = m := fun r hr => by rw [plus_len (by rw [hT r hr, lw]), lw]
      apply ext_gt
      · rw [plus_len (by omega), l1, plus_len (by rw [l2 _ q, hf]), l2 _ q]
      · intro i _
        rw [gt_plus (by omega), gt_plus (by omega), gt_plus (by rw [l2 _ q, hf]), gt_plus (by omega)]; omega
theorem Lat.zero_at {m p : Nat} {T : List (List Int)} (hT : Len m T) (h : ∀ u ∈ T, gt u p = 0) {v : List Int} (hv : Lat m T v) : gt v p = 0 := by
  induction hv with
  | zero => exact gt_zero m p
  | add k hv hr ih => rw [gt_plus (by rw [hv.len hT, hT _ hr]), ih, h _ hr]; omega
structure PInv (m p : Nat) (R : List (List Int)) (E : Nat) (found left : List (List Int)) : Prop where
  fd : ∃ g, found = rowsOf p g ∧ EchP m p (Lat m R) g
  lf : ∀ u ∈ left, Lat m R u ∧ zb p u
  cl : ∀ v, Lat m R v → zb p v → Lat m left v
  bf : ∀ u ∈ found ++ left, Bd E u
theorem PInv.start {m : Nat} {R : List (List Int)} {E : Nat} (hR : Len m R) (h : ∀ u ∈ R, Bd E u) : PInv m 0 R E [] R :=
  ⟨⟨fun _ => none, rfl, fun q hq => by omega⟩, fun u hu => ⟨.of_mem hu (hR u hu), fun i hi => by omega⟩, fun v hv _ => hv, fun u hu => h u (by simpa using hu)⟩
theorem PInv.into {m p : Nat} {R : List (List Int)} {E : Nat} {found left : List (List Int)} (hR : Len m R) (h : PInv m p R E found left) : WInv m p R E (left.filter fun u => gt u p != 0) (left.filter fun u => gt u p == 0) := by
  refine ⟨fun u hu => ?_, fun u hu => ?_, fun v hv hz => ?_, E, E, fun u hu => ?_, fun u hu => ?_, Nat.le_refl _, .inl ⟨Nat.le_refl _, Nat.le_refl _⟩⟩
  · obtain ⟨q1, q2⟩ := List.mem_filter.mp hu
    exact ⟨(h.lf u q1).1, (h.lf u q1).2, by simpa using q2⟩
  · obtain ⟨q1, q2⟩ := List.mem_filter.mp hu
    refine ⟨(h.lf u q1).1, fun i hi => ?_⟩
    by_cases e : i = p
    · subst e; simpa using q2
    · exact (h.lf u q1).2 i (by omega)
  · refine Lat.mono (fun r hr => ?_) (fun r hr => Lat.of_mem ?_ ((h.lf r hr).1.len hR)) (h.cl v hv hz)
    · rcases List.mem_append.mp hr with q | q
      · exact (h.lf r (List.mem_filter.mp q).1).1.len hR
      · exact (h.lf r (List.mem_filter.mp q).1).1.len hR
    · by_cases z : gt r p = 0
      · exact List.mem_append_right _ (List.mem_filter.mpr ⟨hr, by simp [z]⟩)
      · exact List.mem_append_left _ (List.mem_filter.mpr ⟨hr, by simp [z]⟩)
  · refine h.bf u (List.mem_append_right _ ?_)
    rcases List.mem_append.mp hu with q | q
    · exact (List.mem_filter.mp q).1
    · exact (List.mem_filter.mp q).1
  · exact (h.bf u (List.mem_append_right _ (List.mem_filter.mp hu).1)).at p
theorem WInv.fin {m p : Nat} {R : List (List Int)} {E0 : Nat} {so re : List (List Int)} (h : WInv m p R E0 so re) (h0 : 1 ≤ E0) : ∀ u ∈ so ++ re, Bd (9 * E0 ^ 6) u := by
  obtain ⟨E, M, b1, b2, b3, b4⟩ := h.bd
  have h6 := one_le_pow6 h0
  have h2 : E0 * 1 ≤ E0 * E0 := Nat.mul_le_mul (Nat.le_refl _) h0
  intro u hu
  refine (b1 u hu).mono ?_
  rcases b4 with ⟨q, _⟩ | ⟨_, w, hw, q⟩ | ⟨_, q⟩
  · omega
  · have hw1 : 1 ≤ (gt w p).natAbs := by have := (h.s1 w hw).2.2; omega
    have hM : 1 ≤ M := Nat.le_trans hw1 (b2 w hw)
    have : 1 ≤ (M * (gt w p).natAbs) ^ 2 := Nat.pow_pos (Nat.mul_pos hM hw1)
    have : E * 1 * 1 ≤ E * M * (M * (gt w p).natAbs) ^ 2 := Nat.mul_le_mul (Nat.mul_le_mul (Nat.le_refl _) hM) this
    omega
  · omega
theorem rowsOf_succ (p : Nat) (g : Nat → Option (List Int)) : rowsOf (p + 1) g = rowsOf p g ++ (g p).toList := by
  unfold rowsOf
  rw [List.range_succ, List.filterMap_append]
  congr 1
theorem rowsOf_congr {p : Nat} {g h : Nat → Option (List Int)} (e : ∀ q, q < p → g q = h q) : rowsOf p g = rowsOf p h := by
  unfold rowsOf
  have key : ∀ l : List Nat, (∀ x ∈ l, g x = h x) → l.filterMap g = l.filterMap h := by
    intro l
    induction l with
    | nil => intro _; rfl
    | cons a r ih => intro hl; rw [List.filterMap_cons, List.filterMap_cons, hl a List.mem_cons_self, ih fun x hx => hl x (List.mem_cons_of_mem _ hx)]
  exact key _ fun x hx => e x (List.mem_range.mp hx)
theorem rowsOf_map {p : Nat} {g : Nat → Option (List Int)} (f : List Int → List Int) : (rowsOf p g).map f = rowsOf p fun q => (g q).map f := by
  unfold rowsOf
  rw [List.map_filterMap]
theorem mem_rowsOf {p : Nat} {g : Nat → Option (List Int)} {u : List Int} : u ∈ rowsOf p g ↔ ∃ q, q < p ∧ g q = some u := by
  unfold rowsOf
  simp [List.mem_filterMap]
theorem pow_up {E0 : Nat} (h0 : 1 ≤ E0) : E0 ≤ 9 * E0 ^ 6 ∧ 9 * E0 ^ 6 ≤ 162 * E0 ^ 12 := by
  have h6 := one_le_pow6 h0
  have h2 : E0 * 1 ≤ E0 * E0 := Nat.mul_le_mul (Nat.le_refl _) h0
  have : E0 ^ 6 ≤ E0 ^ 12 := Nat.pow_le_pow_right h0 (by omega)
  omega
/-- a place without a row -/
theorem PInv.none {m p : Nat} {R : List (List Int)} {E : Nat} {found left re : List (List Int)} (hR : Len m R) (h0 : 1 ≤ E) (h : PInv m p R E found left) (w : WInv m p R E [] re) : PInv m (p + 1) R (162 * E ^ 12) found re := by
  obtain ⟨g, hg, he⟩ := h.fd
  have rl : Len m re := fun u hu => (w.r1 u hu).1.len hR
  have up := pow_up h0
  have z0 : ∀ v, Lat m R v → zb p v → gt v p = 0 := fun v hv hz => Lat.zero_at rl (fun u hu => (w.r1 u hu).2 p (by omega)) (by simpa using w.cl v hv hz)
  refine ⟨⟨fun q => if q < p then g q else Option.none, ?_, ?_⟩, w.r1, fun v hv hz => by simpa using w.cl v hv fun i hi => hz i (by omega), fun u hu => ?_⟩
  · rw [rowsOf_succ, hg]
    simp only [Nat.lt_irrefl, if_false, Option.toList, List.append_nil]
    exact rowsOf_congr fun q hq => by simp [hq]
  · intro q hq
    by_cases e : q < p
    · simp only [e, if_true]
      obtain ⟨a, b⟩ := he q e
      refine ⟨a, fun f hf => ?_⟩
      obtain ⟨b1, b2, b3, b4, b5, b6⟩ := b f hf
      refine ⟨b1, b2, b3, b4, b5, fun r f' h1 h2 h3 => ?_⟩
      by_cases e' : r < p
      · rw [if_pos e'] at h3; exact b6 r f' h1 e' h3
      · rw [if_neg e'] at h3; cases h3
    · have e : q = p := by omega
      subst e
      simp only [Nat.lt_irrefl, if_false]
      exact ⟨fun _ => z0, fun f hf => by cases hf⟩
  · rcases List.mem_append.mp hu with q | q
    · exact (h.bf u (List.mem_append_left _ q)).mono (by omega)
    · exact (w.fin h0 u (by simpa using q)).mono up.2
theorem fd_le (a : Int) {b : Int} (h : 1 ≤ b) : (a.fdiv b).natAbs ≤ a.natAbs := by
  have e := Int.mul_fdiv_add_fmod a b
  have f := fm_pos a (b := b) (by omega)
  by_cases q : 0 ≤ a.fdiv b
  · have : 1 * a.fdiv b ≤ b * a.fdiv b := Int.mul_le_mul_of_nonneg_right h q
    omega
  · -- a below zero
    have q1 : a.fdiv b ≤ -1 := by omega
    have : b * (a.fdiv b + 1) ≤ 1 * (a.fdiv b + 1) := Int.mul_le_mul_of_nonpos_right h (by omega)
    have e2 : b * (a.fdiv b + 1) = b * a.fdiv b + b := by rw [Int.mul_add, Int.mul_one]
    omega
/-- a place with a row -/
theorem PInv.some {m p : Nat} {R : List (List Int)} {E : Nat} {found left re : List (List Int)} {f0 f : List Int} (hR : Len m R) (h0 : 1 ≤ E) (h : PInv m p R E found left) (w : WInv m p R E [f0] re) (hfl : f.length = m) (hfp : 0 < gt f p) (hf : (∀ i, gt f i = gt f0 i) ∨ (∀ i, gt f i = - gt f0 i)) :
    PInv m (p + 1) R (162 * E ^ 12) (found.map (red p f) ++ [f]) re := by
  obtain ⟨g, hg, he⟩ := h.fd
  have rl : Len m re := fun u hu => (w.r1 u hu).1.len hR
  have up := pow_up h0
  obtain ⟨fL0, fz0, fn0⟩ := w.s1 f0 (by simp)
  have fl0 := fL0.len hR
  have fL : Lat m R f := by
    rcases hf with q | q
    · rw [ext_gt (u := f) (v := f0) (by omega) fun i _ => q i]; exact fL0
    · have : f = plusV (List.replicate m 0) (-1) f0 := by
        apply ext_gt
        · rw [plus_len (by simp [fl0])]; simp [hfl]
        · intro i _
          rw [gt_plus (by simp [fl0]), gt_zero, q]; omega
      rw [this]
      exact Lat.comb hR .zero _ fL0
  have fz : zb p f := fun i hi => by
    rcases hf with q | q
    · rw [q, fz0 i hi]
    · rw [q, fz0 i hi]; rfl
  have hsp : ∀ v, Lat m R v → zb p v → ∃ c u, Lat m re u ∧ v = plusV u c f0 := fun v hv hz => Lat.split fl0 rl (by simpa using w.cl v hv hz)
  have atp : ∀ c u, Lat m re u → gt (plusV u c f0) p = c * gt f0 p := fun c u hu => by
    rw [gt_plus (by rw [hu.len rl, fl0]), Lat.zero_at rl (fun r hr => (w.r1 r hr).2 p (by omega)) hu]; omega
  have bdw := w.fin h0
  have bf : Bd (9 * E ^ 6) f := fun x hx => by
    obtain ⟨i, hi, rfl⟩ := List.getElem_of_mem hx
    have := (bdw f0 (by simp)).at i
    rw [← gt_lt hi]
    rcases hf with q | q
    · rw [q]; exact this
    · rw [q, Int.natAbs_neg]; exact this
  refine ⟨⟨fun q => if q < p then (g q).map (red p f) else if q = p then Option.some f else Option.none, ?_, ?_⟩, w.r1, fun v hv hz => ?_, fun u hu => ?_⟩
  · rw [rowsOf_succ, hg, rowsOf_map]
    simp only [Nat.lt_irrefl, if_false, if_true, Option.toList]
    congr 1
    exact rowsOf_congr fun q hq => by simp [hq]
  · intro q hq
    by_cases e : q < p
    · simp only [e, if_true]
      obtain ⟨a, b⟩ := he q e
      refine ⟨fun hn => a (by simpa using hn), fun f1 hf1 => ?_⟩
      cases eq : g q with
      | none => rw [eq] at hf1; cases hf1
      | some f2 =>
        rw [eq] at hf1
        have : f1 = red p f f2 := by simpa using hf1.symm
        subst this
        obtain ⟨b1, b2, b3, b4, b5, b6⟩ := b f2 eq
        have same : ∀ i, i < p → gt (red p f f2) i = gt f2 i := fun i hi => by rw [red_gt (by omega), fz i hi]; omega
        refine ⟨red_lat hR b1 fL, by rw [red_len (by omega), b2], fun i hi => by rw [same i (by omega), b3 i hi], by rw [same q e]; exact b4, by rw [same q e]; exact b5, fun r f' h1 h2 h3 => ?_⟩
        by_cases e' : r < p
        · rw [if_pos e'] at h3
          cases er : g r with
          | none => rw [er] at h3; cases h3
          | some f3 =>
            rw [er] at h3
            have : f' = red p f f3 := by simpa using h3.symm
            subst this
            have := (he r e').2 f3 er
            rw [same r e', red_gt (by omega), fz r e']
            have := b6 r f3 h1 e' er
            omega
        · have e2 : r = p := by omega
          subst e2
          rw [if_neg (by omega), if_pos rfl] at h3
          cases h3
          rw [red_at (by omega)]
          exact fm_pos _ hfp
    · have e : q = p := by omega
      subst e
      simp only [Nat.lt_irrefl, if_false, if_true]
      refine ⟨fun hn => (by cases hn), fun f1 hf1 => ?_⟩
      cases hf1
      refine ⟨fL, hfl, fz, hfp, fun v hv hz => ?_, fun r f' h1 h2 => by omega⟩
      obtain ⟨c, u, hu, rfl⟩ := hsp v hv hz
      rw [atp c u hu]
      rcases hf with q | q
      · rw [q]; exact Int.dvd_mul_left _ _
      · rw [q]; exact Int.neg_dvd.mpr (Int.dvd_mul_left _ _)
  · obtain ⟨c, u, hu, rfl⟩ := hsp v hv fun i hi => hz i (by omega)
    have := hz p (by omega)
    rw [atp c u hu] at this
    have c0 : c = 0 := by
      rcases Int.mul_eq_zero.mp this with q | q
      · exact q
      · exact absurd q fn0
    subst c0
    have lu := hu.len rl
    have : plusV u 0 f0 = u := by
      apply ext_gt
      · rw [plus_len (by omega)]
      · intro i _
        rw [gt_plus (by omega)]; omega
    rw [this]; exact hu
  · simp only [List.mem_append, List.mem_map, List.mem_singleton] at hu
    rcases hu with (⟨x, hx, rfl⟩ | rfl) | q
    · have bx : Bd (9 * E ^ 6) x := (h.bf x (List.mem_append_left _ hx)).mono up.1
      have := bx.plus (k := -((gt x p).fdiv (gt f p))) bf
      refine this.mono ?_
      rw [Int.natAbs_neg]
      have q1 := fd_le (gt x p) (b := gt f p) (by omega)
      have q2 := bx.at p
      have q0 : 1 ≤ 9 * E ^ 6 := by omega
      have q3 : 9 * E ^ 6 * (1 + ((gt x p).fdiv (gt f p)).natAbs) ≤ 9 * E ^ 6 * (2 * (9 * E ^ 6)) := Nat.mul_le_mul (Nat.le_refl _) (by omega)
      have q4 : 9 * E ^ 6 * (2 * (9 * E ^ 6)) = 162 * E ^ 12 := by grind
      omega
    · exact bf.mono up.2
    · exact (bdw u (by simp [q])).mono up.2
def sortV (p : Nat) (l : List (List Int)) : List (List Int) := l.mergeSort fun x y => decide ((gt x p).natAbs ≤ (gt y p).natAbs)
theorem sortV_perm (p : Nat) (l : List (List Int)) : (sortV p l).Perm l := List.mergeSort_perm _ _
theorem sortV_head {p : Nat} {l : List (List Int)} {f : List Int} {tl : List (List Int)} (h : sortV p l = f :: tl) : ∀ u ∈ tl, (gt f p).natAbs ≤ (gt u p).natAbs := by
  have := List.pairwise_mergeSort (le := fun x y : List Int => decide ((gt x p).natAbs ≤ (gt y p).natAbs)) (fun a b c h1 h2 => by simp at *; omega) (fun a b => by simp; omega) l
  have e : (l.mergeSort fun x y => decide ((gt x p).natAbs ≤ (gt y p).natAbs)) = f :: tl := h
  rw [e, List.pairwise_cons] at this
  intro u hu
  simpa using this.1 u hu
theorem fd_le2 (a : Int) {b : Int} (h : b ≠ 0) : (a.fdiv b).natAbs ≤ a.natAbs + b.natAbs := by
  have := fd_abs a h
  have h1 : (a.fdiv b).natAbs * 1 ≤ (a.fdiv b).natAbs * b.natAbs := Nat.mul_le_mul (Nat.le_refl _) (by omega)
  omega
theorem pow9 (b : Nat) : 9 * (2 ^ b) ^ 6 ≤ 2 ^ (6 * b + 4) := by
  rw [← Nat.pow_mul, Nat.pow_add, Nat.mul_comm b]
  have : 2 ^ (6 * b) * 9 ≤ 2 ^ (6 * b) * 2 ^ 4 := Nat.mul_le_mul (Nat.le_refl _) (by decide)
  omega
/-! #### MD -/
def SameL (n : Nat) (R T : List (List Int)) : Prop := ∀ v, Lat n R v ↔ Lat n T v
theorem SameL.refl (n : Nat) (R : List (List Int)) : SameL n R R := fun _ => Iff.rfl
theorem SameL.symm {n : Nat} {R T : List (List Int)} (h : SameL n R T) : SameL n T R := fun v => (h v).symm
theorem SameL.trans {n : Nat} {R T U : List (List Int)} (h : SameL n R T) (g : SameL n T U) : SameL n R U := fun v => (h v).trans (g v)
theorem SameL.of {n : Nat} {R T : List (List Int)} (hR : Len n R) (hT : Len n T) (h : ∀ v ∈ R, Lat n T v) (g : ∀ v ∈ T, Lat n R v) : SameL n R T := fun v => ⟨Lat.mono hT h, Lat.mono hR g⟩
def negV (v : List Int) : List Int := v.map fun x => -x
theorem gt_negV (v : List Int) (i : Nat) : gt (negV v) i = - gt v i := by
  unfold negV
  by_cases h : i < v.length
  · rw [gt_lt (by simpa using h), gt_lt h]; simp
  · rw [gt_ge (by simpa using h), gt_ge (by omega)]; rfl
theorem negV_len (v : List Int) : (negV v).length = v.length := by simp [negV]
theorem Lat.neg {n : Nat} {R : List (List Int)} (hR : Len n R) {v : List Int} (h : Lat n R v) : Lat n R (negV v) := by
  have l := h.len hR
  have : negV v = plusV (List.replicate n 0) (-1) v := by
    apply ext_gt
    · rw [plus_len (by simp [l]), negV_len]; simp [l]
    · intro i _
      rw [gt_plus (by simp [l]), gt_zero, gt_negV]; omega
  rw [this]
  exact Lat.comb hR .zero _ h
theorem len_set {n : Nat} {T : List (List Int)} (hT : Len n T) {w : List Int} (hw : w.length = n) (i : Nat) : Len n (T.set i w) := fun r hr => by
  rcases List.mem_or_eq_of_mem_set hr with q | rfl
  · exact hT r q
  · exact hw
theorem same_set {n : Nat} {T : List (List Int)} (hT : Len n T) {i : Nat} (hi : i < T.length) {w : List Int} (hw : Lat n T w) (hb : Lat n (T.set i w) T[i]) : SameL n T (T.set i w) := by
  have hl := len_set hT (hw.len hT) i
  refine SameL.of hT hl (fun v hv => ?_) fun v hv => ?_
  · obtain ⟨k, hk, rfl⟩ := List.getElem_of_mem hv
    by_cases e : k = i
    · subst e; exact hb
    · refine Lat.of_mem ?_ (hT _ hv)
      rw [List.mem_iff_getElem]
      exact ⟨k, by simpa using hk, by rw [List.getElem_set_ne (by omega)]⟩
  · rcases List.mem_or_eq_of_mem_set hv with q | rfl
    · exact Lat.of_mem q (hT v q)
    · exact hw
theorem same_add {n : Nat} {T : List (List Int)} (hT : Len n T) {i j : Nat} (hi : i < T.length) (hj : j < T.length) (e : i ≠ j) (f : Int) : SameL n T (T.set i (plusV T[i] f T[j])) := by
  have hm : Lat n T T[i] := Lat.of_mem (List.getElem_mem hi) (hT _ (List.getElem_mem hi))
  have hm2 : Lat n T T[j] := Lat.of_mem (List.getElem_mem hj) (hT _ (List.getElem_mem hj))
  have hw := hm.comb hT f hm2
  have li := hT _ (List.getElem_mem hi)
  have lj := hT _ (List.getElem_mem hj)
  have lw := hw.len hT
  have hl := len_set hT lw i
  refine same_set hT hi hw ?_
  have h1 : Lat n (T.set i (plusV T[i] f T[j])) (plusV T[i] f T[j]) := Lat.of_mem (by rw [List.mem_iff_getElem]; exact ⟨i, by simpa using hi, by simp⟩) lw
  have h2 : Lat n (T.set i (plusV T[i] f T[j])) T[j] := Lat.of_mem (by rw [List.mem_iff_getElem]; exact ⟨j, by simpa using hj, by rw [List.getElem_set_ne e]⟩) lj
  have h3 := h1.comb hl (-f) h2
  have : plusV (plusV T[i] f T[j]) (-f) T[j] = T[i] := by
    apply ext_gt
    · rw [plus_len (by omega), lw, li]
    · intro k _
      rw [gt_plus (by omega), gt_plus (by omega)]; grind
  rwa [this] at h3
/-! #### ME -/
theorem lat1 {a x : Int} : Lat 1 [[a]] [x] ↔ ∃ k, x = k * a := by
  constructor
  · intro h
    obtain ⟨c, w, hw, e⟩ := Lat.split (m := 1) (f := [a]) (T := []) rfl (by intro r hr; simp at hr) h
    cases hw with
    | zero => exact ⟨c, by simpa [plusV] using e⟩
    | add _ _ hr => simp at hr
  · rintro ⟨k, rfl⟩
    have := Lat.add (m := 1) (R := [[a]]) (r := [a]) k .zero (by simp)
    simpa [plusV] using this
theorem lat2 {a b c d x y : Int} : Lat 2 [[a, b], [c, d]] [x, y] ↔ ∃ k l, x = k * a + l * c ∧ y = k * b + l * d := by
  constructor
  · intro h
    obtain ⟨k, w, hw, e⟩ := Lat.split (m := 2) (f := [a, b]) (T := [[c, d]]) rfl (by intro r hr; simp at hr; simp [hr]) h
    obtain ⟨l, u, hu, rfl⟩ := Lat.split (m := 2) (f := [c, d]) (T := []) rfl (by intro r hr; simp at hr) hw
    cases hu with
    | zero =>
      simp [plusV] at e
      exact ⟨k, l, by omega, by omega⟩
    | add _ _ hr => simp at hr
  · rintro ⟨k, l, rfl, rfl⟩
    have := Lat.add (m := 2) (R := [[a, b], [c, d]]) (r := [c, d]) l (Lat.add (m := 2) (R := [[a, b], [c, d]]) (r := [a, b]) k .zero (by simp)) (by simp)
    simpa [plusV] using this
theorem lat3 {a b c d e f g h i x y z : Int} : Lat 3 [[a, b, c], [d, e, f], [g, h, i]] [x, y, z] ↔ ∃ k l m, x = k * a + l * d + m * g ∧ y = k * b + l * e + m * h ∧ z = k * c + l * f + m * i := by
  constructor
  · intro H
    obtain ⟨k, w, hw, E⟩ := Lat.split (m := 3) (f := [a, b, c]) (T := [[d, e, f], [g, h, i]]) rfl (by intro r hr; simp at hr; rcases hr with rfl | rfl <;> rfl) H
    obtain ⟨l, u, hu, rfl⟩ := Lat.split (m := 3) (f := [d, e, f]) (T := [[g, h, i]]) rfl (by intro r hr; simp at hr; simp [hr]) hw
    obtain ⟨m, t, ht, rfl⟩ := Lat.split (m := 3) (f := [g, h, i]) (T := []) rfl (by intro r hr; simp at hr) hu
    cases ht with
    | zero =>
      simp [plusV] at E
      exact ⟨k, l, m, by omega, by omega, by omega⟩
    | add _ _ hr => simp at hr
  · rintro ⟨k, l, m, rfl, rfl, rfl⟩
    have := Lat.add (m := 3) (R := [[a, b, c], [d, e, f], [g, h, i]]) (r := [g, h, i]) m (Lat.add (m := 3) (R := [[a, b, c], [d, e, f], [g, h, i]]) (r := [d, e, f]) l (Lat.add (m := 3) (R := [[a, b, c], [d, e, f], [g, h, i]]) (r := [a, b, c]) k .zero (by simp)) (by simp)) (by simp)
    simpa [plusV] using this
def detL : List (List Int) → Int
  | [[a]] => a
  | [[a, b], [c, d]] => a * d - b * c
  | [[a, b, c], [d, e, f], [g, h, i]] => a * (e * i - f * h) - b * (d * i - f * g) + c * (d * h - e * g)
  | _ => 0
theorem det_mul3 (k1 l1 m1 k2 l2 m2 k3 l3 m3 a b c d e f g h i : Int) :
    detL [[k1 * a + l1 * d + m1 * g, k1 * b + l1 * e + m1 * h, k1 * c + l1 * f + m1 * i], [k2 * a + l2 * d + m2 * g, k2 * b + l2 * e + m2 * h, k2 * c + l2 * f + m2 * i], [k3 * a + l3 * d + m3 * g, k3 * b + l3 * e + m3 * h, k3 * c + l3 * f + m3 * i]] =
    detL [[k1, l1, m1], [k2, l2, m2], [k3, l3, m3]] * detL [[a, b, c], [d, e, f], [g, h, i]] := by
  simp only [detL]
  grind
theorem det_mul2 (k1 l1 k2 l2 a b c d : Int) :
    detL [[k1 * a + l1 * c, k1 * b + l1 * d], [k2 * a + l2 * c, k2 * b + l2 * d]] = detL [[k1, l1], [k2, l2]] * detL [[a, b], [c, d]] := by
  simp only [detL]
  grind
theorem cramB3 (a b c d e f g h i k l m : Int) : detL [[k * a + l * d + m * g, k * b + l * e + m * h, k * c + l * f + m * i], [d, e, f], [g, h, i]] = k * detL [[a, b, c], [d, e, f], [g, h, i]] ∧
    detL [[a, b, c], [k * a + l * d + m * g, k * b + l * e + m * h, k * c + l * f + m * i], [g, h, i]] = l * detL [[a, b, c], [d, e, f], [g, h, i]] ∧
    detL [[a, b, c], [d, e, f], [k * a + l * d + m * g, k * b + l * e + m * h, k * c + l * f + m * i]] = m * detL [[a, b, c], [d, e, f], [g, h, i]] := by
  simp only [detL]
  refine ⟨?_, ?_, ?_⟩ <;> grind
theorem adj3 (k1 l1 m1 k2 l2 m2 k3 l3 m3 a d g s : Int) (hs : s * detL [[k1, l1, m1], [k2, l2, m2], [k3, l3, m3]] = 1) :
    a = s * (l2 * m3 - m2 * l3) * (k1 * a + l1 * d + m1 * g) + s * (m1 * l3 - l1 * m3) * (k2 * a + l2 * d + m2 * g) + s * (l1 * m2 - m1 * l2) * (k3 * a + l3 * d + m3 * g) ∧
    d = s * (m2 * k3 - k2 * m3) * (k1 * a + l1 * d + m1 * g) + s * (k1 * m3 - m1 * k3) * (k2 * a + l2 * d + m2 * g) + s * (m1 * k2 - k1 * m2) * (k3 * a + l3 * d + m3 * g) ∧
    g = s * (k2 * l3 - l2 * k3) * (k1 * a + l1 * d + m1 * g) + s * (l1 * k3 - k1 * l3) * (k2 * a + l2 * d + m2 * g) + s * (k1 * l2 - l1 * k2) * (k3 * a + l3 * d + m3 * g) := by
  simp only [detL] at hs
  refine ⟨?_, ?_, ?_⟩ <;> grind
/-! #### MF -/
theorem len1 {α : Type} {l : List α} (h : l.length = 1) : ∃ a, l = [a] := by
  match l, h with
  | [a], _ => exact ⟨a, rfl⟩
theorem len2 {α : Type} {l : List α} (h : l.length = 2) : ∃ a b, l = [a, b] := by
  match l, h with
  | [a, b], _ => exact ⟨a, b, rfl⟩
theorem len3 {α : Type} {l : List α} (h : l.length = 3) : ∃ a b c, l = [a, b, c] := by
  match l, h with
  | [a, b, c], _ => exact ⟨a, b, c, rfl⟩
def IsNF (m : Nat) (R F : List (List Int)) : Prop := ∃ g, F = rowsOf m g ∧ EchP m m (Lat m R) g
def sol (R : List (List Int)) (v : List Int) : List Int := (List.range R.length).map fun k => detL (R.set k v)
def wc (R : List (List Int)) (v : List Int) : List Int := (sol R v).map fun x => x.fdiv (detL R)
def Whole (R : List (List Int)) (v : List Int) : Prop := ∀ x ∈ sol R v, x.fmod (detL R) = 0
instance (R : List (List Int)) (v : List Int) : Decidable (Whole R v) := by unfold Whole; exact inferInstance
def row (R : List (List Int)) (k : Nat) : List Int := R.getD k []
theorem row_lt {R : List (List Int)} {k : Nat} (h : k < R.length) : row R k = R[k] := by simp [row, h]
def Spans (R T : List (List Int)) : Prop := (detL T).natAbs = (detL R).natAbs ∧ ∀ v ∈ T, Whole R v
instance (R T : List (List Int)) : Decidable (Spans R T) := by unfold Spans; exact inferInstance
/-- the form itself -/
def NFs (F : List (List Int)) : Prop := ∀ i, i < F.length → zb i (row F i) ∧ 0 < gt (row F i) i ∧ ∀ r, r < i → 0 ≤ gt (row F r) i ∧ gt (row F r) i < gt (row F i) i
/-- squares of one to three rows -/
def Sqr (n : Nat) (R : List (List Int)) : Prop := 1 ≤ n ∧ n ≤ 3 ∧ R.length = n ∧ Len n R
theorem Sqr.cases {n : Nat} {R : List (List Int)} (h : Sqr n R) : (n = 1 ∧ ∃ a, R = [[a]]) ∨ (n = 2 ∧ ∃ a b c d, R = [[a, b], [c, d]]) ∨ (n = 3 ∧ ∃ a b c d e f g h i, R = [[a, b, c], [d, e, f], [g, h, i]]) := by
  obtain ⟨h1, h3, hl, hL⟩ := h
  have : n = 1 ∨ n = 2 ∨ n = 3 := by omega
  rcases this with rfl | rfl | rfl
  · obtain ⟨v, rfl⟩ := len1 hl
    obtain ⟨a, rfl⟩ := len1 (hL v (by simp))
    exact .inl ⟨rfl, a, rfl⟩
  · obtain ⟨v, w, rfl⟩ := len2 hl
    obtain ⟨a, b, rfl⟩ := len2 (hL v (by simp))
    obtain ⟨c, d, rfl⟩ := len2 (hL w (by simp))
    exact .inr (.inl ⟨rfl, a, b, c, d, rfl⟩)
  · obtain ⟨u, v, w, rfl⟩ := len3 hl
    obtain ⟨a, b, c, rfl⟩ := len3 (hL u (by simp))
    obtain ⟨d, e, f, rfl⟩ := len3 (hL v (by simp))
    obtain ⟨g, h, i, rfl⟩ := len3 (hL w (by simp))
    exact .inr (.inr ⟨rfl, a, b, c, d, e, f, g, h, i, rfl⟩)
theorem mem1 {α : Type} {P : α → Prop} {a : α} : (∀ v ∈ [a], P v) ↔ P a := by simp
theorem mem2 {α : Type} {P : α → Prop} {a b : α} : (∀ v ∈ [a, b], P v) ↔ P a ∧ P b := by simp
theorem mem3 {α : Type} {P : α → Prop} {a b c : α} : (∀ v ∈ [a, b, c], P v) ↔ P a ∧ P b ∧ P c := by simp
/-- rows of the grid: a whole multiple of the determinant; with one of the same size the same grid -/
theorem det_sub {n : Nat} {R T : List (List Int)} (hR : Sqr n R) (hT : Sqr n T) (h : ∀ v ∈ T, Lat n R v) : (∃ k, detL T = k * detL R) ∧ (detL R ≠ 0 → (detL T).natAbs = (detL R).natAbs → SameL n R T) := by
  rcases hR.cases with ⟨rfl, a, rfl⟩ | ⟨rfl, a, b, c, d, rfl⟩ | ⟨rfl, a, b, c, d, e, f, g, i, j, rfl⟩
  · rcases hT.cases with ⟨_, x, rfl⟩ | ⟨e, _⟩ | ⟨e, _⟩
    · rw [mem1] at h
      obtain ⟨k, rfl⟩ := lat1.mp h
      refine ⟨⟨k, rfl⟩, fun hd he => SameL.of hR.2.2.2 hT.2.2.2 (mem1.mpr (lat1.mpr ?_)) (mem1.mpr h)⟩
      simp only [detL] at hd he
      rw [Int.natAbs_mul] at he
      have hk : k.natAbs = 1 := by
        have : k.natAbs * a.natAbs = 1 * a.natAbs := by omega
        exact Nat.eq_of_mul_eq_mul_right (by omega) this
      refine ⟨k, ?_⟩
      have : k = 1 ∨ k = -1 := by omega
      rcases this with rfl | rfl <;> omega
    · omega
    · omega
  · rcases hT.cases with ⟨e, _⟩ | ⟨_, x, y, z, w, rfl⟩ | ⟨e, _⟩
    · omega
    · rw [mem2] at h
      obtain ⟨h1, h2⟩ := h
      have h1' := h1
      have h2' := h2
      obtain ⟨k1, l1, rfl, rfl⟩ := lat2.mp h1
      obtain ⟨k2, l2, rfl, rfl⟩ := lat2.mp h2
      have e := det_mul2 k1 l1 k2 l2 a b c d
      refine ⟨⟨_, e⟩, fun hd he => SameL.of hR.2.2.2 hT.2.2.2 (mem2.mpr ?_) (mem2.mpr ⟨h1', h2'⟩)⟩
      rw [e, Int.natAbs_mul] at he
      have hk : (detL [[k1, l1], [k2, l2]]).natAbs = 1 := by
        have hh : (detL [[k1, l1], [k2, l2]]).natAbs * (detL [[a, b], [c, d]]).natAbs = 1 * (detL [[a, b], [c, d]]).natAbs := by omega
        exact Nat.eq_of_mul_eq_mul_right (by omega) hh
      obtain ⟨s, hs⟩ : ∃ s : Int, s * detL [[k1, l1], [k2, l2]] = 1 := ⟨detL [[k1, l1], [k2, l2]], by
        have : detL [[k1, l1], [k2, l2]] = 1 ∨ detL [[k1, l1], [k2, l2]] = -1 := by omega
        rcases this with q | q <;> rw [q] <;> rfl⟩
      simp only [detL] at hs
      exact ⟨lat2.mpr ⟨s * l2, - s * l1, by grind, by grind⟩, lat2.mpr ⟨- s * k2, s * k1, by grind, by grind⟩⟩
    · omega
  · rcases hT.cases with ⟨e, _⟩ | ⟨e, _⟩ | ⟨_, x1, y1, z1, x2, y2, z2, x3, y3, z3, rfl⟩
    · omega
    · omega
    · rw [mem3] at h
      obtain ⟨h1, h2, h3⟩ := h
      have h1' := h1
      have h2' := h2
      have h3' := h3
      obtain ⟨k1, l1, m1, rfl, rfl, rfl⟩ := lat3.mp h1
      obtain ⟨k2, l2, m2, rfl, rfl, rfl⟩ := lat3.mp h2
      obtain ⟨k3, l3, m3, rfl, rfl, rfl⟩ := lat3.mp h3
      have e := det_mul3 k1 l1 m1 k2 l2 m2 k3 l3 m3 a b c d e f g i j
      refine ⟨⟨_, e⟩, fun hd he => SameL.of hR.2.2.2 hT.2.2.2 (mem3.mpr ?_) (mem3.mpr ⟨h1', h2', h3'⟩)⟩
      rw [e, Int.natAbs_mul] at he
      have hk : (detL [[k1, l1, m1], [k2, l2, m2], [k3, l3, m3]]).natAbs = 1 := by
        refine Nat.eq_of_mul_eq_mul_right (Nat.pos_of_ne_zero fun q => hd (Int.natAbs_eq_zero.mp q)) (he.trans (Nat.one_mul _).symm)
      obtain ⟨s, hs⟩ : ∃ s : Int, s * detL [[k1, l1, m1], [k2, l2, m2], [k3, l3, m3]] = 1 := ⟨detL [[k1, l1, m1], [k2, l2, m2], [k3, l3, m3]], by
        generalize detL [[k1, l1, m1], [k2, l2, m2], [k3, l3, m3]] = D at hk
        have : D = 1 ∨ D = -1 := by omega
        rcases this with q | q <;> rw [q] <;> rfl⟩
      obtain ⟨a1, a2, a3⟩ := adj3 k1 l1 m1 k2 l2 m2 k3 l3 m3 a d g s hs
      obtain ⟨b1, b2, b3⟩ := adj3 k1 l1 m1 k2 l2 m2 k3 l3 m3 b _ i s hs
      obtain ⟨c1, c2, c3⟩ := adj3 k1 l1 m1 k2 l2 m2 k3 l3 m3 c f j s hs
      exact ⟨lat3.mpr ⟨_, _, _, a1, b1, c1⟩, lat3.mpr ⟨_, _, _, a2, b2, c2⟩, lat3.mpr ⟨_, _, _, a3, b3, c3⟩⟩
/-! #### MG -/
theorem fd_cancel {k d : Int} (hd : d ≠ 0) : (k * d).fdiv d = k := by
  have h := Int.fdiv_mul_add_fmod (k * d) d
  rw [Int.mul_fmod_left] at h
  exact Int.eq_of_mul_eq_mul_right hd (by omega)
theorem sol3 (a b c d e f g h i x y z : Int) : sol [[a, b, c], [d, e, f], [g, h, i]] [x, y, z] = [detL [[x, y, z], [d, e, f], [g, h, i]], detL [[a, b, c], [x, y, z], [g, h, i]], detL [[a, b, c], [d, e, f], [x, y, z]]] := rfl
theorem sol2 (a b c d x y : Int) : sol [[a, b], [c, d]] [x, y] = [detL [[x, y], [c, d]], detL [[a, b], [x, y]]] := rfl
theorem sol1 (a x : Int) : sol [[a]] [x] = [x] := rfl
theorem wc3 {a b c d e f g h i k l m : Int} (hd : detL [[a, b, c], [d, e, f], [g, h, i]] ≠ 0) : wc [[a, b, c], [d, e, f], [g, h, i]] [k * a + l * d + m * g, k * b + l * e + m * h, k * c + l * f + m * i] = [k, l, m] := by
  obtain ⟨e1, e2, e3⟩ := cramB3 a b c d e f g h i k l m
  unfold wc
  rw [sol3, e1, e2, e3]
  simp only [List.map_cons, List.map_nil, fd_cancel hd]
theorem wc2 {a b c d k l : Int} (hd : detL [[a, b], [c, d]] ≠ 0) : wc [[a, b], [c, d]] [k * a + l * c, k * b + l * d] = [k, l] := by
  unfold wc
  have e1 : detL [[k * a + l * c, k * b + l * d], [c, d]] = k * detL [[a, b], [c, d]] := by simp only [detL]; grind
  have e2 : detL [[a, b], [k * a + l * c, k * b + l * d]] = l * detL [[a, b], [c, d]] := by simp only [detL]; grind
  rw [sol2, e1, e2]
  simp only [List.map_cons, List.map_nil, fd_cancel hd]
theorem wc1 {a k : Int} (hd : detL [[a]] ≠ 0) : wc [[a]] [k * a] = [k] := by
  unfold wc
  rw [sol1]
  simp only [List.map_cons, List.map_nil, detL]
  rw [fd_cancel (d := a) hd]
theorem sub_of_same {n : Nat} {R T : List (List Int)} (hT : Len n T) (h : SameL n R T) : ∀ v ∈ T, Lat n R v := fun v hv => (h v).mpr (Lat.of_mem hv (hT v hv))
theorem det_same {n : Nat} {R T : List (List Int)} (hR : Sqr n R) (hT : Sqr n T) (h : SameL n R T) : (detL T).natAbs = (detL R).natAbs := by
  obtain ⟨k, hk⟩ := (det_sub hR hT (sub_of_same hT.2.2.2 h)).1
  obtain ⟨l, hl⟩ := (det_sub hT hR (sub_of_same hR.2.2.2 h.symm)).1
  refine Nat.dvd_antisymm (Int.natAbs_dvd_natAbs.mpr ⟨l, by rw [hl, Int.mul_comm]⟩) (Int.natAbs_dvd_natAbs.mpr ⟨k, by rw [hk, Int.mul_comm]⟩)
/-! ### the normal form of a basis -/
theorem nf_len {n : Nat} {R F : List (List Int)} (h : IsNF n R F) : Len n F := by
  obtain ⟨g, rfl, he⟩ := h
  intro r hr
  obtain ⟨q, hq, e⟩ := mem_rowsOf.mp hr
  exact ((he q hq).2 r e).2.1
theorem nf_same {n : Nat} {R F : List (List Int)} (hR : Len n R) (h : IsNF n R F) : SameL n R F := by
  have hF := nf_len h
  obtain ⟨g, rfl, he⟩ := h
  have key : ∀ k, ∀ v, Lat n R v → zb (n - k) v → Lat n (rowsOf n g) v := by
    intro k
    induction k with
    | zero =>
      intro v hv hz
      have lv := hv.len hR
      have : v = List.replicate n 0 := by
        apply ext_gt (by simp [lv])
        intro i hi
        rw [gt_zero, hz i (by omega)]
      rw [this]; exact .zero
    | succ k ih =>
      intro v hv hz
      by_cases hk : k < n
      · have hq : n - (k + 1) < n := by omega
        have e1 : n - k = n - (k + 1) + 1 := by omega
        obtain ⟨h0, h1⟩ := he _ hq
        cases eg : g (n - (k + 1)) with
        | none =>
          refine ih v hv fun i hi => ?_
          by_cases ei : i = n - (k + 1)
          · rw [ei]; exact h0 eg v hv hz
          · exact hz i (by omega)
        | some f =>
          obtain ⟨f1, f2, f3, f4, f5, _⟩ := h1 f eg
          obtain ⟨c, hc⟩ := f5 v hv hz
          have lv := hv.len hR
          have hm : Lat n (rowsOf n g) f := Lat.of_mem (mem_rowsOf.mpr ⟨_, hq, eg⟩) f2
          have h2 := ih (plusV v (-c) f) (hv.comb hR _ f1) fun i hi => by
            rw [gt_plus (by omega)]
            by_cases ei : i = n - (k + 1)
            · rw [ei, hc]; grind
            · rw [hz i (by omega), f3 i (by omega)]; omega
          have h3 := h2.comb hF c hm
          have l2 : (plusV v (-c) f).length = n := by rw [plus_len (by omega), lv]
          have : plusV (plusV v (-c) f) c f = v := by
            apply ext_gt
            · rw [plus_len (by omega), l2, lv]
            · intro i _
              rw [gt_plus (by omega), gt_plus (by omega)]; grind
          rwa [this] at h3
      · exact ih v hv fun i hi => by omega
  intro v
  refine ⟨fun hv => key n v hv fun i hi => by omega, fun hv => Lat.mono hR (fun r hr => ?_) hv⟩
  obtain ⟨q, hq, e⟩ := mem_rowsOf.mp hr
  exact ((he q hq).2 r e).1
theorem nf_uniq {n : Nat} {R T F G : List (List Int)} (hR : Len n R) (hT : Len n T) (e : SameL n R T) (hF : IsNF n R F) (hG : IsNF n T G) : F = G := by
  obtain ⟨g, rfl, hg⟩ := hF
  obtain ⟨h, rfl, hh⟩ := hG
  exact rowsOf_congr (ech_uniq hR hT e hg hh)
/-! #### MH -/
/-! fractions, the dual rows -/
def dot (u v : List Int) : Int := ((u.zip v).map fun p => p.1 * p.2).sum
/-! rows of fractions -/
def den (fs : List (Int × Int)) : Int := fs.foldl (fun b p => b * p.2) 1
def numP (fs : List (Int × Int)) (v : List Int) : Int := ((fs.zip v).map fun q => q.1.1 * ((den fs).fdiv q.1.2) * q.2).sum
def WP (fs : List (Int × Int)) (v : List Int) : Prop := (numP fs v).fmod (den fs) = 0
instance (fs : List (Int × Int)) (v : List Int) : Decidable (WP fs v) := by unfold WP; exact inferInstance
theorem lenC {α : Type} {l : List α} {n : Nat} (h : l.length = n) (h1 : 1 ≤ n) (h3 : n ≤ 3) : (∃ a, l = [a] ∧ n = 1) ∨ (∃ a b, l = [a, b] ∧ n = 2) ∨ ∃ a b c, l = [a, b, c] ∧ n = 3 := by
  have : n = 1 ∨ n = 2 ∨ n = 3 := by omega
  rcases this with rfl | rfl | rfl
  · obtain ⟨a, rfl⟩ := len1 h; exact .inl ⟨a, rfl, rfl⟩
  · obtain ⟨a, b, rfl⟩ := len2 h; exact .inr (.inl ⟨a, b, rfl, rfl⟩)
  · obtain ⟨a, b, c, rfl⟩ := len3 h; exact .inr (.inr ⟨a, b, c, rfl, rfl⟩)
/-! #### FA -/
local macro_rules | `(tactic| walk_at "wp") => `(tactic| try simp only [z0, z1, z2, z3, z4, z5, z6, z7, z8, z9, z10, z11, z12, z13, z14, z15, z16, z17, z18, z19, z20, z21, z22, z23, z24, z25, z26, z27, z28, z29, z30, z31, z32, z33, z34, z35, z36, z37, z38, z39, z40, z41, z42, z43, z44, z45, z46, z47, z48, z49, z50, z51, z52, z53, z54, z55, z56, z57, z58, z59, z60, z61, z62, z63, z64, z65, z66, z67, z68, z69, z70, z71, z72, z73, z74, z75, z76, z77, z78, z79, z80, z81, z82, z83, zg0, zg1, wVar, wFrz, wC, wNil, wCons, w1, w2, w3, wAp, opD, cmD, oNeg, wB, wNotT, boolW, wAndT, wOrT, wNotV, boolV, wAndV, wOrV, wIte, wNo, wSo, wSl, wTup, wLst, wThw, wLof, wCat, wRep, wIsi, wM0, wM1, wIseq, wR1, wR2, wChr, wZip_eq, wEnum, wYes, wComp, wSkip, wSeq, wExpr, wRet, wCont, wSet, wAsg, wPar, wSub, wIf, wFor, wRaise, wCall, wCall0, seqOf_tup, seqOf_lst, seqOf_scr, lstOf_lst, lstOf_scr, lstX_lst, tupOf_tup, srcOf_tup, srcOf_lst, srcOf_scr, srcOf_han, srcOk_nil, srcOk_cons, oAdd_ii, oAdd_ss, oAdd_tt, oAdd_ll, oSub_ii, oMul_ii, oMul_ti, oDiv_ii, oMod_ii, oPow_ii, oNeg_i, oEq_ii, oNe_ii, oEq_ss, oNe_ss, oI_ii, oIs_n, oIsNot_n, oIs_b, oIsNot_b, isNon_n, isNon_b, isNon_i, isNon_s, isNon_t, isNon_l, isNon_h, oIx_t, oIx_l, oIx_s, oLen_t, oLen_l, oLen_s, oLen_str, oAbs_i, oTuple_l, oTuple_t, oSl_t, oSl_l, oInt_i, oInt_b, compGo_nil, compGo_cons, forGo_nil, forGo_cons, wipeD_nil, wipeD_cons, range_3, range_2, range_1, enumD_nil, enumD_1, enumD_2, enumD_3, zipD_nil, zipD_cons, ctOf, startD, List.map_cons, List.map_nil, List.length_cons, List.length_nil, List.cons_append, List.nil_append, List.append_nil, List.replicate, Nat.reduceAdd, Nat.reduceSub, Nat.sub_self, Nat.zero_add, List.getElem?_cons_zero, List.getElem?_cons_succ, List.getElem?_nil, List.set_cons_zero, List.set_cons_succ, ex_eq, ex_and, Option.some.injEq, exists_eq_left', exists_eq_left, exists_eq_right, D.bl.injEq, D.int.injEq, D.str.injEq, D.tup.injEq, D.lst.injEq, atI_0, atI_1, atI_2, reduceIte, zip_tt, zip_ll, ty_n, ty_b, ty_i, ty_s, ty_t, ty_l, ty_f, kit_ii, kit_ib, kit_bb, kit_bi, kit_it, kit_tt, kit_ti, kit_tb, kit_lt, kit_li, kit_st, kit_si, kit_ss, kit_nt, kit_ni, kit_fi, kit_ft, kit_is, kit_ns, kit_bt, oLen_V, Int.toNat_natCast, cut_t0, cut_t1, cut_t2, cut_f1, cut_f2, cut_f3, m2_0, m2_1, m2_2, List.take_succ_cons, List.take_zero, List.drop_succ_cons, List.drop_zero, List.take_nil, List.drop_nil, decide_true, decide_false, Bool.not_true, Bool.not_false, if_true, if_false, Bool.false_eq_true, Int.cast_ofNat_Int, Int.reduceEq, Int.reduceLT, Int.reduceLE, Int.reduceToNat, Int.reduceNeg, Nat.reduceEqDiff, decide_eq_true_eq, true_and, and_true, List.cons.injEq, and_self, Int.reduceSub, Int.reduceAdd, Int.reduceMul])
local macro_rules | `(tactic| walk_at "wps") => `(tactic| simp only [z0, z1, z2, z3, z4, z5, z6, z7, z8, z9, z10, z11, z12, z13, z14, z15, z16, z17, z18, z19, z20, z21, z22, z23, z24, z25, z26, z27, z28, z29, z30, z31, z32, z33, z34, z35, z36, z37, z38, z39, z40, z41, z42, z43, z44, z45, z46, z47, z48, z49, z50, z51, z52, z53, z54, z55, z56, z57, z58, z59, z60, z61, z62, z63, z64, z65, z66, z67, z68, z69, z70, z71, z72, z73, z74, z75, z76, z77, z78, z79, z80, z81, z82, z83, zg0, zg1, wVar, wFrz, wC, wNil, wCons, w1, w2, w3, wAp, opD, cmD, oNeg, wB, wNotT, boolW, wAndT, wOrT, wNotV, boolV, wAndV, wOrV, wIte, wNo, wSo, wSl, wTup, wLst, wThw, wLof, wCat, wRep, wIsi, wM0, wM1, wIseq, wR1, wR2, wChr, wZip_eq, wEnum, wYes, wComp, wSkip, wSeq, wExpr, wRet, wCont, wSet, wAsg, wPar, wSub, wIf, wFor, wRaise, wCall, wCall0, seqOf_tup, seqOf_lst, seqOf_scr, lstOf_lst, lstOf_scr, lstX_lst, tupOf_tup, srcOf_tup, srcOf_lst, srcOf_scr, srcOf_han, srcOk_nil, srcOk_cons, oAdd_ii, oAdd_ss, oAdd_tt, oAdd_ll, oSub_ii, oMul_ii, oMul_ti, oDiv_ii, oMod_ii, oPow_ii, oNeg_i, oEq_ii, oNe_ii, oEq_ss, oNe_ss, oI_ii, oIs_n, oIsNot_n, oIs_b, oIsNot_b, isNon_n, isNon_b, isNon_i, isNon_s, isNon_t, isNon_l, isNon_h, oIx_t, oIx_l, oIx_s, oLen_t, oLen_l, oLen_s, oLen_str, oAbs_i, oTuple_l, oTuple_t, oSl_t, oSl_l, oInt_i, oInt_b, compGo_nil, compGo_cons, forGo_nil, forGo_cons, wipeD_nil, wipeD_cons, range_3, range_2, range_1, enumD_nil, enumD_1, enumD_2, enumD_3, zipD_nil, zipD_cons, ctOf, startD, List.map_cons, List.map_nil, List.length_cons, List.length_nil, List.cons_append, List.nil_append, List.append_nil, List.replicate, Nat.reduceAdd, Nat.reduceSub, Nat.sub_self, Nat.zero_add, List.getElem?_cons_zero, List.getElem?_cons_succ, List.getElem?_nil, List.set_cons_zero, List.set_cons_succ, ex_eq, ex_and, Option.some.injEq, exists_eq_left', exists_eq_left, exists_eq_right, D.bl.injEq, D.int.injEq, D.str.injEq, D.tup.injEq, D.lst.injEq, atI_0, atI_1, atI_2, reduceIte, zip_tt, zip_ll, ty_n, ty_b, ty_i, ty_s, ty_t, ty_l, ty_f, kit_ii, kit_ib, kit_bb, kit_bi, kit_it, kit_tt, kit_ti, kit_tb, kit_lt, kit_li, kit_st, kit_si, kit_ss, kit_nt, kit_ni, kit_fi, kit_ft, kit_is, kit_ns, kit_bt, oLen_V, Int.toNat_natCast, cut_t0, cut_t1, cut_t2, cut_f1, cut_f2, cut_f3, m2_0, m2_1, m2_2, List.take_succ_cons, List.take_zero, List.drop_succ_cons, List.drop_zero, List.take_nil, List.drop_nil, decide_true, decide_false, Bool.not_true, Bool.not_false, if_true, if_false, Bool.false_eq_true, Int.cast_ofNat_Int, Int.reduceEq, Int.reduceLT, Int.reduceLE, Int.reduceToNat, Int.reduceNeg, Nat.reduceEqDiff, decide_eq_true_eq, true_and, and_true, List.cons.injEq, and_self, Int.reduceSub, Int.reduceAdd, Int.reduceMul, *])
def okD : D → Bool
  | .non | .bl _ | .int _ | .str _ | .flt _ | .tup _ | .lst _ => true
  | _ => false
def isI : D → Bool
  | .int _ => true
  | _ => false
def c_is_integer : Ct := fun ds S Q _ => ∃ d, ds = [d] ∧ okD d = true ∧ Q (.bl (isI d)) S
/-- is_integer -/
def N_is_integer : List Str := ["value"]
def b_is_integer : DB := (DB.cons (DS.ret (DE.bool (DV.cons (DE.isInt (DE.var 0)) (DV.one .And (DE.not (DE.isBool (DE.var 0)))))))
  DB.nil)
theorem w_is_integer {ds : List D} {S : Sto} {Q : QD} {X : XD} (h : c_is_integer ds S Q X) : ctOf N_is_integer.length b_is_integer ds S Q X := by
  obtain ⟨d, rfl, hd, h⟩ := h
  unfold b_is_integer N_is_integer
  cases d <;> simp only [okD, Bool.false_eq_true] at hd <;> walk_at "wp" <;> exact h
def btw (lo hi : Int) : D → Bool
  | .int i => decide (lo ≤ i) && decide (i ≤ hi)
  | _ => false
def c_is_between : Ct := fun ds S Q _ => ∃ d lo hi, ds = [d, .int lo, .int hi] ∧ okD d = true ∧ Q (.bl (btw lo hi d)) S
/-- is_between -/
def N_is_between : List Str := ["value", "low", "high"]
def b_is_between : DB := (DB.cons (DS.ret (DE.bool (DV.cons (DE.call "is_integer" c_is_integer (DA.cons (DE.var 0) DA.nil)) (DV.one .And (DE.chn .LtE .LtE (DE.var 1) (DE.var 0) (DE.var 2))))))
  DB.nil)
theorem w_is_between {ds : List D} {S : Sto} {Q : QD} {X : XD} (h : c_is_between ds S Q X) : ctOf N_is_between.length b_is_between ds S Q X := by
  obtain ⟨d, lo, hi, rfl, hd, h⟩ := h
  unfold b_is_between N_is_between
  walk_at "wp"
  refine ⟨d, rfl, hd, isI d, rfl, ?_⟩
  cases d <;> simp only [okD, Bool.false_eq_true] at hd <;> simp only [isI] <;> walk_at "wp" <;> try exact h
  simp only [btw] at h
  split
  · rename_i q; simpa [q] using h
  · rename_i q; simpa [q] using h
/-! ### the determinant -/
/-- a square of one to three rows, its entries of less than k bits -/
def SqM (k : Nat) (R : List (List Int)) : Prop := 1 ≤ R.length ∧ R.length ≤ 3 ∧ ∀ v ∈ R, v.length = R.length ∧ ∀ x ∈ v, Sm k x
def isM (R : List (List Int)) (d : D) : Prop := d = .tup (R.map VE) ∨ d = .lst (R.map VE)
def c_determinant : Ct := fun ds S Q _ => ∃ R d, ds = [d] ∧ isM R d ∧ SqM 200000 R ∧ Q (.int (detL R)) S
/-! #### FB -/
def lim (x : Int) : Bool := decide (-1000000 ≤ x) && decide (x ≤ 1000000)
def isV (n : Int) (v : List Int) : Bool := decide ((v.length : Int) = n) && v.all lim
def Bas (R : List (List Int)) : Prop := 1 ≤ R.length ∧ R.length ≤ 3 ∧ (∀ v ∈ R, v.length = R.length ∧ ∀ x ∈ v, x.natAbs ≤ 1000000) ∧ detL R ≠ 0
instance : DecidablePred Bas := fun R => by unfold Bas; exact inferInstance
theorem lim_iff {x : Int} : lim x = true ↔ x.natAbs ≤ 1000000 := by
  unfold lim
  simp only [Bool.and_eq_true, decide_eq_true_eq]
  omega
theorem lim_sm {x : Int} (h : x.natAbs ≤ 1000000) : Sm 20 x := Sm.of 20 h (by decide)
theorem Bas.sq {R : List (List Int)} (h : Bas R) : SqM 20 R := ⟨h.1, h.2.1, fun v hv => ⟨(h.2.2.1 v hv).1, fun x hx => lim_sm ((h.2.2.1 v hv).2 x hx)⟩⟩
theorem SqM.mono {j k : Nat} {R : List (List Int)} (h : SqM j R) (hk : j ≤ k) : SqM k R := ⟨h.1, h.2.1, fun v hv => ⟨(h.2.2 v hv).1, fun x hx => ((h.2.2 v hv).2 x hx).mono hk⟩⟩
def okVecD : D → Prop
  | .tup es => es.length ≤ 1000 ∧ ∀ e ∈ es, okD e = true
  | d => okD d = true
def isVD (n : Int) : D → Bool
  | .tup es => decide ((es.length : Int) = n) && es.all (btw (-1000000) 1000000)
  | _ => false
theorem isVD_V (n : Int) (v : List Int) : isVD n (VE v) = isV n v := by
  simp only [VE_eq, isVD, isV, List.length_map, List.all_map]
  rfl
theorem okVec_V {v : List Int} (h : v.length ≤ 1000) : okVecD (VE v) := ⟨by rw [List.length_map]; exact h, fun e he => by
  obtain ⟨x, _, rfl⟩ := List.mem_map.mp he
  rfl⟩
theorem compGo_allD {bd : D → Env → Sto → Option Env} {e : WE} {env : Env} {S : Sto} {Q : QL} (g : D → D) (L : List D)
    (h : ∀ a ∈ L, ∃ env', bd a env S = some env' ∧ (∀ Qd : QD, Qd (g a) S → e env' S Qd noX)) (hq : Q (L.map g) S) : compGo bd wYes e env [] L S [] Q := by
  have := compGo_all0 (bd := bd) (e := e) (env := env) (S := S) (Q := Q) id g L h hq
  rwa [List.map_id] at this
def c_is_vector : Ct := fun ds S Q _ => ∃ n d, ds = [.int n, d] ∧ okVecD d ∧ Q (.bl (isVD n d)) S
/-- is_vector -/
def N_is_vector : List Str := ["n", "value", "entry"]
def b_is_vector : DB := (DB.cons (DS.iff (DT.bool (DW.cons (DT.not (DT.val (DE.isTuple (DE.var 1)))) (DW.one .Or (DT.cmp .NotEq (DE.len (DA.cons (DE.var 1) DA.nil)) (DE.var 0))))) (DB.cons (DS.ret (DE.con (.bl false)))
  DB.nil) DB.nil)
  (DB.cons (DS.ret (DE.all (DA.cons (DE.lst (DL.comp [("entry", 2)] (DG.nm 2) (DI.seq (DE.var 1)) DF.no (DE.call "is_between" c_is_between (DA.cons (DE.var 2) (DA.cons (DE.neg (DE.glo "LIMIT" 1000000)) (DA.cons (DE.glo "LIMIT" 1000000) DA.nil)))))) DA.nil)))
  DB.nil))
theorem w_is_vector {ds : List D} {S : Sto} {Q : QD} {X : XD} (h : c_is_vector ds S Q X) : ctOf N_is_vector.length b_is_vector ds S Q X := by
  obtain ⟨n, d, rfl, hl, h⟩ := h
  unfold b_is_vector N_is_vector
  match d, hl, h with
  | .non, _, h => walk_at "wp"; exact h
  | .bl _, _, h => walk_at "wp"; exact h
  | .int _, _, h => walk_at "wp"; exact h
  | .str _, _, h => walk_at "wp"; exact h
  | .flt _, _, h => walk_at "wp"; exact h
  | .lst _, _, h => walk_at "wp"; exact h
  | .scr _, hd, _ => simp [okVecD, okD] at hd
  | .han _, hd, _ => simp [okVecD, okD] at hd
  | .cst _, hd, _ => simp [okVecD, okD] at hd
  | .exc _, hd, _ => simp [okVecD, okD] at hd
  | .tup es, hl, h =>
    walk_at "wp"
    by_cases e : (es.length : Int) = n
    · simp only [e]
      walk_at "wp"
      refine ⟨szLe (by have := hl.1; omega), compGo_allD (fun x => .bl (btw (-1000000) 1000000 x)) es (fun a ha => ⟨_, rfl, fun Qd hq => ?_⟩) ?_⟩
      · walk_at "wp"
        exact ⟨_, _, _, rfl, hl.2 a ha, hq⟩
      · rw [show es.map (fun x => D.bl (btw (-1000000) 1000000 x)) = (es.map (btw (-1000000) 1000000)).map D.bl by simp]
        refine oAll_l _ _ _ ?_
        simpa [isVD, e, List.all_map] using h
    · simp only [e]
      walk_at "wp"
      simpa [isVD, e] using h
def toI : D → Int
  | .int i => i
  | _ => 0
def toV : D → List Int
  | .tup es => es.map toI
  | _ => []
def okBasD : D → Prop
  | .tup rs => rs.length ≤ 1000 ∧ ∀ r ∈ rs, okVecD r
  | d => okD d = true
def isBasD : D → Bool
  | .tup rs => decide (1 ≤ rs.length) && decide (rs.length ≤ 3) && rs.all (isVD rs.length) && decide (detL (rs.map toV) ≠ 0)
  | _ => false
theorem isVD_inv {n : Int} {d : D} (h : isVD n d = true) : d = VE (toV d) ∧ isV n (toV d) = true := by
  unfold isVD at h
  split at h
  · rename_i es
    simp only [Bool.and_eq_true, decide_eq_true_eq, List.all_eq_true] at h
    have e : es = (es.map toI).map D.int := by
      rw [List.map_map]
      conv => lhs; rw [← List.map_id es]
      apply List.map_congr_left
      intro d hd
      have := h.2 d hd
      cases d <;> simp [btw] at this <;> rfl
    refine ⟨by rw [VE_eq]; exact congrArg D.tup e, ?_⟩
    simp only [isV, toV, List.length_map, Bool.and_eq_true, decide_eq_true_eq, List.all_eq_true]
    refine ⟨h.1, fun x hx => ?_⟩
    obtain ⟨d, hd, rfl⟩ := List.mem_map.mp hx
    have := h.2 d hd
    cases d <;> simp [btw] at this
    simp [toI, lim, this]
  · cases h
theorem toV_V (v : List Int) : toV (VE v) = v := by
  simp only [VE_eq, toV, List.map_map]
  conv => rhs; rw [← List.map_id v]
  rfl
theorem isBasD_M (R : List (List Int)) : isBasD (.tup (R.map VE)) = decide (Bas R) := by
  have e1 : (R.map VE).map toV = R := by
    rw [List.map_map]
    conv => rhs; rw [← List.map_id R]
    apply List.map_congr_left
    intro v _
    exact toV_V v
  rw [Bool.eq_iff_iff]
  simp only [isBasD, e1, List.length_map, Bool.and_eq_true, decide_eq_true_eq, List.all_map, List.all_eq_true, Function.comp_apply, isVD_V]
  unfold Bas
  constructor
  · rintro ⟨⟨⟨h1, h2⟩, h3⟩, h4⟩
    refine ⟨h1, h2, fun v hv => ?_, h4⟩
    have := h3 v hv
    simp only [isV, Bool.and_eq_true, decide_eq_true_eq, List.all_eq_true] at this
    exact ⟨by omega, fun x hx => lim_iff.mp (this.2 x hx)⟩
  · rintro ⟨h1, h2, h3, h4⟩
    refine ⟨⟨⟨h1, h2⟩, fun v hv => ?_⟩, h4⟩
    have := h3 v hv
    simp only [isV, Bool.and_eq_true, decide_eq_true_eq, List.all_eq_true]
    exact ⟨by omega, fun x hx => lim_iff.mpr (this.2 x hx)⟩
theorem okBas_M {R : List (List Int)} (hl : R.length ≤ 1000) (hv : ∀ v ∈ R, v.length ≤ 1000) : okBasD (.tup (R.map VE)) := ⟨by rw [List.length_map]; exact hl, fun r hr => by
  obtain ⟨v, h, rfl⟩ := List.mem_map.mp hr
  exact okVec_V (hv v h)⟩
theorem Bas.ok {R : List (List Int)} (h : Bas R) : okBasD (.tup (R.map VE)) := okBas_M (by have := h.2.1; omega) fun v hv => by have := (h.2.2.1 v hv).1; have := h.2.1; omega
theorem Bas.isD {R : List (List Int)} (h : Bas R) : isBasD (.tup (R.map VE)) = true := by rw [isBasD_M]; exact decide_eq_true h
def onBas (b : D) (S : Sto) (X : XD) (P : List (List Int) → Prop) : Prop := okBasD b ∧ if isBasD b = true then ∀ R, b = .tup (R.map VE) → Bas R → P R else X "InvalidBasis" S
theorem M_inj {R T : List (List Int)} (h : D.tup (R.map VE) = .tup (T.map VE)) : R = T := by
  have key : ∀ u v : List Int, VE u = VE v → u = v := fun u v e => by
    unfold VE at e
    injection e with e
    exact List.map_inj_right (fun a b e => by injection e) |>.mp e
  injection h with h
  exact List.map_inj_right (fun a b e => key a b e) |>.mp h
theorem Bas.on {R : List (List Int)} {S : Sto} {X : XD} {P : List (List Int) → Prop} (h : Bas R) (q : P R) : onBas (.tup (R.map VE)) S X P := by
  refine ⟨h.ok, ?_⟩
  rw [if_pos h.isD]
  intro T e _
  have := M_inj e
  subst this
  exact q
theorem Bas.det {R : List (List Int)} {d : D} {S : Sto} {Q : QD} {X : XD} (h : Bas R) (hd : isM R d) (q : Q (.int (detL R)) S) : c_determinant [d] S Q X :=
  ⟨R, d, rfl, hd, h.sq.mono (by omega), q⟩
def c_plus : Ct := fun ds S Q _ => ∃ u k v, ds = [VE u, .int k, VE v] ∧ u.length ≤ 1000 ∧ (∀ x ∈ v, IntMulOk k x) ∧ Q (VE (plusV u k v)) S
/-- plus -/
def N_plus : List Str := ["one", "factor", "other", "x", "y"]
def b_plus : DB := (DB.cons (DS.ret (DE.tuple (DA.cons (DE.lst (DL.comp [("x", 3), ("y", 4)] (DG.tp (DGs.cons 3 (DGs.cons 4 DGs.nil))) (DI.zip (DE.var 0) (DE.var 2)) DF.no (DE.op .Add (DE.var 3) (DE.op .Mult (DE.var 1) (DE.var 4))))) DA.nil)))
  DB.nil)
theorem w_plus {ds : List D} {S : Sto} {Q : QD} {X : XD} (h : c_plus ds S Q X) : ctOf N_plus.length b_plus ds S Q X := by
  obtain ⟨u, k, v, rfl, hl, hv, h⟩ := h
  unfold b_plus N_plus
  simp only [VE_eq]
  walk_at "wp"
  rw [zipD_map]
  refine ⟨by simp only [List.length_map, List.length_zip]; exact szLe (by omega), compGo_all0 _ (fun p => .int (p.1 + k * p.2)) (u.zip v) (fun a ha => ⟨_, rfl, fun Qd hq => ?_⟩) ?_⟩
  · walk_at "wp"
    exact ⟨hv _ (List.of_mem_zip ha).2, hq⟩
  · walk_at "wp"
    rw [show (u.zip v).map (fun p => D.int (p.1 + k * p.2)) = (plusV u k v).map .int by simp [plusV]]
    exact h
/-! #### FC -/
theorem ix_V {u : List Int} {p : Nat} (h : p < u.length) (S : Sto) (Q : QD) : oIx (VE u) (.int (p : Int)) S Q = Q (.int (gt u p)) S := by
  rw [VE_eq, oIx_t, atI_map, atI_some h, gt_lt h]
  simp
theorem ix_M {R : List (List Int)} {p : Nat} (h : p < R.length) (S : Sto) (Q : QD) : oIx (.tup (R.map VE)) (.int (p : Int)) S Q = Q (VE R[p]) S := by
  rw [oIx_t, atI_map, atI_some h]
  simp
def bt (k : Nat) : Nat → Nat
  | 0 => k
  | p + 1 => 12 * bt k p + 8
theorem bt_up (k p : Nat) : 162 * (2 ^ bt k p) ^ 12 ≤ 2 ^ bt k (p + 1) := by
  show 162 * (2 ^ bt k p) ^ 12 ≤ 2 ^ (12 * bt k p + 8)
  rw [← Nat.pow_mul, Nat.pow_add, Nat.mul_comm (bt k p)]
  have : 2 ^ (12 * bt k p) * 162 ≤ 2 ^ (12 * bt k p) * 2 ^ 8 := Nat.mul_le_mul (Nat.le_refl _) (by decide)
  omega
theorem PInv.mono {m p : Nat} {R : List (List Int)} {E E' : Nat} {found left : List (List Int)} (h : PInv m p R E found left) (e : E ≤ E') : PInv m p R E' found left :=
  ⟨h.fd, h.lf, h.cl, fun u hu => (h.bf u hu).mono e⟩
theorem Bd.sm {b : Nat} {v : List Int} (h : Bd (2 ^ b) v) {x : Int} (hx : x ∈ v) : Sm (b + 1) x := by
  have := h x hx
  unfold Sm
  rw [Nat.pow_succ]
  have : 0 < 2 ^ b := Nat.pow_pos (by omega)
  omega
/-- the first entries of the rows are small -/
def Pv (p : Nat) (F : List (List Int)) : Prop := ∀ u ∈ F, ∀ q, q < p → zb q u → gt u q ≠ 0 → Sm 8889 (gt u q)
theorem Pv.none {m p : Nat} {R : List (List Int)} {E : Nat} {F L : List (List Int)} (P : PInv m p R E F L) (h : Pv p F) : Pv (p + 1) F := fun u hu q hq hz hn => by
  by_cases e : q < p
  · exact h u hu q e hz hn
  · have e : q = p := by omega
    subst e
    obtain ⟨g, hg, he⟩ := P.fd
    rw [hg] at hu
    obtain ⟨r, hr, er⟩ := mem_rowsOf.mp hu
    have := ((he r hr).2 u er).2.2.2.1
    rw [hz r hr] at this
    omega
theorem Pv.some {m p : Nat} {R : List (List Int)} {E : Nat} {F L : List (List Int)} {f : List Int} (P : PInv m p R E F L) (h : Pv p F) (hl : f.length = m) (fz : zb p f) (fs : Sm 8889 (gt f p)) : Pv (p + 1) (F.map (red p f) ++ [f]) := fun u hu q hq hz hn => by
  rcases List.mem_append.mp hu with k | k
  · obtain ⟨w, hw, rfl⟩ := List.mem_map.mp k
    obtain ⟨g, hg, he⟩ := P.fd
    have hw' := hw
    rw [hg] at hw'
    obtain ⟨r, hr, er⟩ := mem_rowsOf.mp hw'
    obtain ⟨_, lw, _, pw, _⟩ := (he r hr).2 w er
    have same : ∀ i, i < p → gt (red p f w) i = gt w i := fun i hi => by rw [red_gt (by omega), fz i hi]; omega
    by_cases e : q < p
    · rw [same q e] at hn ⊢
      exact h w hw q e (fun i hi => by rw [← same i (by omega)]; exact hz i hi) hn
    · have e : q = p := by omega
      subst e
      have := hz r hr
      rw [same r hr] at this
      omega
  · have e0 : u = f := by simpa using k
    subst e0
    by_cases e : q < p
    · exact absurd (fz q e) hn
    · have e : q = p := by omega
      subst e
      exact fs
def c_sifted : Ct := fun ds S Q _ => ∃ (R : List (List Int)) (d : D) (m n k : Nat), ds = [d, .int n] ∧ isM R d ∧ Len m R ∧ n ≤ 3 ∧ n ≤ m ∧ m ≤ 1000 ∧ R.length ≤ 1000 ∧ k ≤ 61 ∧ (∀ u ∈ R, Bd (2 ^ k) u) ∧
  ∀ F Z, PInv m n R (2 ^ bt k n) F Z → (Z.length ≤ R.length ∧ Pv n F) → Q (.tup [.lst (F.map VE), .lst (Z.map VE)]) S
/-- sifted -/
def N_sifted : List Str := ["rows", "n", "left", "found", "place", "some", "rest", "first", "later", "pivot", "row", "entry"]
def b_sifted : DB := (DB.cons (DS.set 2 (DE.lst (DL.lof (DA.cons (DE.var 0) DA.nil))))
  (DB.cons (DS.set 3 (DE.lst (DL.dis DA.nil)))
  (DB.cons (DS.for (DG.nm 4) (DI.range1 (DE.var 1)) (DB.cons (DS.setC 5 [("row", 10)] (DG.nm 10) (DI.seq (DE.var 2)) (DF.one (DT.cmp .NotEq (DE.ix (DE.var 10) (DE.var 4)) (DE.con (.int 0)))) (DE.var 10))
  (DB.cons (DS.setC 6 [("row", 10)] (DG.nm 10) (DI.seq (DE.var 2)) (DF.one (DT.cmp .Eq (DE.ix (DE.var 10) (DE.var 4)) (DE.con (.int 0)))) (DE.var 10))
  (DB.cons (DS.while (DT.cmp .Gt (DE.len (DA.cons (DE.var 5) DA.nil)) (DE.con (.int 1))) (DB.cons (DS.set 5 (DE.lst (DL.srt 4 (DE.var 5))))
  (DB.cons (DS.set 7 (DE.ix (DE.var 5) (DE.con (.int 0))))
  (DB.cons (DS.setC 8 [("row", 10)] (DG.nm 10) (DI.seq (DE.sl (DE.var 5) (DO.so (DE.con (.int 1))) DO.no)) DF.no (DE.call "plus" c_plus (DA.cons (DE.var 10) (DA.cons (DE.neg (DE.op .FloorDiv (DE.ix (DE.var 10) (DE.var 4)) (DE.ix (DE.var 7) (DE.var 4)))) (DA.cons (DE.var 7) DA.nil)))))
  (DB.cons (DS.set 6 (DE.op .Add (DE.var 6) (DE.lst (DL.comp [("row", 10)] (DG.nm 10) (DI.seq (DE.var 8)) (DF.one (DT.cmp .Eq (DE.ix (DE.var 10) (DE.var 4)) (DE.con (.int 0)))) (DE.var 10)))))
  (DB.cons (DS.set 5 (DE.op .Add (DE.lst (DL.dis (DA.cons (DE.var 7) DA.nil))) (DE.lst (DL.comp [("row", 10)] (DG.nm 10) (DI.seq (DE.var 8)) (DF.one (DT.cmp .NotEq (DE.ix (DE.var 10) (DE.var 4)) (DE.con (.int 0)))) (DE.var 10)))))
  DB.nil))))))
  (DB.cons (DS.iff (DT.cmp .NotEq (DE.var 5) (DE.lst (DL.dis DA.nil))) (DB.cons (DS.set 9 (DE.ite (DT.cmp .Gt (DE.ix (DE.ix (DE.var 5) (DE.con (.int 0))) (DE.var 4)) (DE.con (.int 0))) (DE.ix (DE.var 5) (DE.con (.int 0))) (DE.tuple (DA.cons (DE.lst (DL.comp [("entry", 11)] (DG.nm 11) (DI.seq (DE.ix (DE.var 5) (DE.con (.int 0)))) DF.no (DE.neg (DE.var 11)))) DA.nil))))
  (DB.cons (DS.set 3 (DE.op .Add (DE.lst (DL.comp [("row", 10)] (DG.nm 10) (DI.seq (DE.var 3)) DF.no (DE.call "plus" c_plus (DA.cons (DE.var 10) (DA.cons (DE.neg (DE.op .FloorDiv (DE.ix (DE.var 10) (DE.var 4)) (DE.ix (DE.var 9) (DE.var 4)))) (DA.cons (DE.var 9) DA.nil)))))) (DE.lst (DL.dis (DA.cons (DE.var 9) DA.nil)))))
  DB.nil)) DB.nil)
  (DB.cons (DS.set 2 (DE.var 6))
  DB.nil))))))
  (DB.cons (DS.ret (DE.tup (DA.cons (DE.var 3) (DA.cons (DE.var 2) DA.nil))))
  DB.nil))))
theorem lof_M {R : List (List Int)} {d : D} (h : isM R d) (S : Sto) : seqOf S d = some (R.map VE) := by
  rcases h with rfl | rfl <;> rfl
theorem filt_len (p : Nat) (L : List (List Int)) : (L.filter fun u => gt u p != 0).length + (L.filter fun u => gt u p == 0).length = L.length := by
  induction L with
  | nil => rfl
  | cons a r ih =>
    rw [List.filter_cons, List.filter_cons]
    by_cases z : gt a p = 0
    · simp [z] at ih ⊢; omega
    · simp [z] at ih ⊢; omega
theorem gt_neg (v : List Int) (i : Nat) : gt (v.map (fun x => -x)) i = - gt v i := by
  by_cases h : i < v.length
  · rw [gt_lt (by simpa using h), gt_lt h]; simp
  · rw [gt_ge (by simpa using h), gt_ge (by omega)]; rfl
theorem red_ok2 {m p b : Nat} {R F L : List (List Int)} {f0 f u : List Int} {re : List (List Int)} (P : PInv m p R (2 ^ b) F L) (W : WInv m p R (2 ^ b) [f0] re) (hb : b ≤ 8888) (hf : (∀ i, gt f i = gt f0 i) ∨ (∀ i, gt f i = - gt f0 i)) (hu : u ∈ F) : IntDivOk (gt f p) ∧ ∀ x ∈ f, IntMulOk (-((gt u p).fdiv (gt f p))) x := by
  obtain ⟨E, M, b1, b2, b3, b4⟩ := W.bd
  have p2 : 0 < 2 ^ b := Nat.pow_pos (by omega)
  have fn := (W.s1 f0 (by simp)).2.2
  have f1 := b2 f0 (by simp)
  have u1 := (P.bf u (List.mem_append_left _ hu)).at p
  have e1 : (gt f p).natAbs = (gt f0 p).natAbs := by
    rcases hf with q | q
    · rw [q]
    · rw [q, Int.natAbs_neg]
  have fn' : gt f p ≠ 0 := by omega
  have s1 : Sm (b + 1) (gt f p) := by unfold Sm; rw [Nat.pow_succ]; omega
  refine ⟨s1.div fn' (by omega), fun x hx => ?_⟩
  have q : Sm (b + 2) ((gt u p).fdiv (gt f p)) := by
    have := fd_le2 (gt u p) fn'
    unfold Sm; rw [Nat.pow_succ, Nat.pow_succ]; omega
  have sx : Sm (6 * b + 5) x := by
    obtain ⟨i, hi, rfl⟩ := List.getElem_of_mem hx
    have h1 := (W.fin p2 f0 (by simp)).at i
    have h2 := pow9 b
    have e2 : (f[i]).natAbs = (gt f0 i).natAbs := by
      rw [← gt_lt hi]
      rcases hf with q | q
      · rw [q]
      · rw [q, Int.natAbs_neg]
    unfold Sm; rw [Nat.pow_succ (m := 6 * b + 4), e2]
    have : 0 < 2 ^ (6 * b + 4) := Nat.pow_pos (by omega)
    omega
  exact q.neg.ok sx (by omega)
theorem sort_V {p : Nat} {l : List (List Int)} (h : ∀ u ∈ l, p < u.length) : sortD (p : Int) (l.map VE) = (sortV p l).map VE := by
  unfold sortD sortV
  refine (List.map_mergeSort fun a ha b hb => ?_).symm
  have key : ∀ u ∈ l, keyD (p : Int) (VE u) = ((gt u p).natAbs : Int) := fun u hu => by
    show (match atI (u.map D.int) (p : Int) with | some (.int k) => (k.natAbs : Int) | _ => 0) = _
    rw [atI_map, atI_some (h u hu), gt_lt (h u hu)]
    rfl
  rw [key a ha, key b hb]
  simp
theorem bt_le {k p : Nat} (hk : k ≤ 61) (hp : p < 3) : bt k p ≤ 8888 := by
  have : p = 0 ∨ p = 1 ∨ p = 2 := by omega
  rcases this with rfl | rfl | rfl
  · show k ≤ _; omega
  · show 12 * k + 8 ≤ _; omega
  · show 12 * (12 * k + 8) + 8 ≤ _; omega
theorem red_ok {m p b : Nat} {R : List (List Int)} {so re : List (List Int)} (W : WInv m p R (2 ^ b) so re) (hb : b ≤ 8888) {f u : List Int} (hf : f ∈ so) (hu : u ∈ so) : IntDivOk (gt f p) ∧ ∀ x ∈ f, IntMulOk (-((gt u p).fdiv (gt f p))) x := by
  obtain ⟨E, M, b1, b2, b3, b4⟩ := W.bd
  have p2 : 0 < 2 ^ b := Nat.pow_pos (by omega)
  have fn := (W.s1 f hf).2.2
  have f1 := b2 f hf
  have u1 := b2 u hu
  have s1 : Sm (b + 1) (gt f p) := by unfold Sm; rw [Nat.pow_succ]; omega
  refine ⟨s1.div fn (by omega), fun x hx => ?_⟩
  have q : Sm (b + 2) ((gt u p).fdiv (gt f p)) := by
    have := fd_le2 (gt u p) fn
    unfold Sm; rw [Nat.pow_succ, Nat.pow_succ]; omega
  have sx : Sm (6 * b + 5) x := by
    have h1 := W.fin p2 f (List.mem_append_left _ hf) x hx
    have h2 := pow9 b
    unfold Sm; rw [Nat.pow_succ (m := 6 * b + 4)]
    have : 0 < 2 ^ (6 * b + 4) := Nat.pow_pos (by omega)
    omega
  exact q.neg.ok sx (by omega)
theorem w_sifted {ds : List D} {S : Sto} {Q : QD} {X : XD} (h : c_sifted ds S Q X) : ctOf N_sifted.length b_sifted ds S Q X := by
  obtain ⟨R, d, m, n, k, rfl, hd, hR, hn3, hnm, hm, hRl, hk, hB, h⟩ := h
  unfold b_sifted N_sifted
  walk_at "wp"
  refine ⟨_, lof_M hd S, by omega, by omega, ?_⟩
  refine forGo_inv (fun ds env S' => S' = S ∧ ∃ (p : Nat) (F L : List (List Int)) (a4 a5 a6 a7 a8 a9 a10 a11 : Option D), p ≤ n ∧ ds = ((List.range n).drop p).map (fun i => .int (i : Nat)) ∧
    env = [some d, some (.int n), some (.lst (L.map VE)), some (.lst (F.map VE)), a4, a5, a6, a7, a8, a9, a10, a11] ∧ PInv m p R (2 ^ bt k p) F L ∧ (L.length ≤ R.length ∧ Pv p F)) ?_ ?_ _ _ _ ?_
  · rintro d1 ds1 env1 S1 ⟨rfl, p, F, L, a4, a5, a6, a7, a8, a9, a10, a11, hp, hds, rfl, P, hL, hV⟩
    have hpn : p < n := by
      by_cases e : p < n
      · exact e
      · rw [List.drop_eq_nil_of_le (by simpa using e)] at hds; cases hds
    rw [List.drop_eq_getElem_cons (by simpa using hpn)] at hds
    simp only [List.getElem_range, List.map_cons, List.cons.injEq] at hds
    obtain ⟨rfl, rfl⟩ := hds
    refine ⟨trivial, _, rfl, fun nx hnx => ?_⟩
    walk_at "wp"
    have hpm : p < m := by omega
    have lenL : ∀ u ∈ L, p < u.length := fun u hu => by rw [(P.lf u hu).1.len hR]; exact hpm
    refine ⟨by rw [List.length_map]; exact szLe (by omega), compGo_map0 VE (fun u => gt u p != 0) VE L (fun u hu => ⟨_, rfl, fun Qb hq => ?_, fun _ Qd hq => ?_⟩) ?_⟩
    · walk_at "wp"
      rw [ix_V (lenL u hu)]
      walk_at "wp"
      exact hq
    · walk_at "wp"
      exact hq
    walk_at "wp"
    refine ⟨by rw [List.length_map]; exact szLe (by omega), compGo_map0 VE (fun u => gt u p == 0) VE L (fun u hu => ⟨_, rfl, fun Qb hq => ?_, fun _ Qd hq => ?_⟩) ?_⟩
    · walk_at "wp"
      rw [ix_V (lenL u hu)]
      walk_at "wp"
      exact hq
    · walk_at "wp"
      exact hq
    walk_at "wp"
    refine while_inv (fun z env S' => S' = S1 ∧ ∃ (so re : List (List Int)) (a7 a8 a9 a10 a11 : Option D),
      env = [some d, some (.int n), some (.lst (L.map VE)), some (.lst (F.map VE)), some (.int (p : Nat)), some (.lst (so.map VE)), some (.lst (re.map VE)), a7, a8, a9, a10, a11] ∧ WInv m p R (2 ^ bt k p) so re ∧ wsum p so = z ∧ so.length + re.length ≤ R.length) ?_ ⟨rfl, _, _, a7, a8, a9, a10, a11, rfl, P.into hR, rfl, ?_⟩
    rotate_left
    · have e1 := filt_len p L
      omega
    rintro z env2 S2 ⟨rfl, so, re, a7, a8, a9, a10, a11, rfl, W, hz, hl⟩ nx2 hnx2
    walk_at "wp"
    have lenS : ∀ u ∈ so, p < u.length := fun u hu => by rw [(W.s1 u hu).1.len hR]; exact hpm
    have hb := bt_le hk (show p < 3 by omega)
    rw [List.length_map]
    by_cases hgo : (1 : Int) < so.length
    · rw [if_pos hgo]
      refine ⟨.lst (so.map VE), rfl, so.map VE, (p : Int), rfl, rfl, ?_, ?_⟩
      · intro e he
        obtain ⟨u, hu, rfl⟩ := List.mem_map.mp he
        exact ⟨_, gt u p, rfl, by rw [atI_map, atI_some (lenS u hu), gt_lt (lenS u hu)]; rfl⟩
      rw [sort_V lenS]
      have hperm := sortV_perm p so
      have W' := W.perm hR hperm
      have hhd := @sortV_head p so
      revert hperm W' hhd
      generalize sortV p so = sv
      intro hperm W' hhd
      have hlen := hperm.length_eq
      match sv, hlen with
      | [], hlen => simp at hlen; omega
      | [_], hlen => simp at hlen; omega
      | f :: g :: tl, hlen =>
        have lenS' : ∀ u ∈ f :: g :: tl, p < u.length := fun u hu => lenS u (hperm.mem_iff.mp hu)
        have lenE : ∀ u ∈ f :: g :: tl, u.length = m := fun u hu => (W'.s1 u hu).1.len hR
        have hst := W'.step hR (by simp) (hhd rfl)
        simp only [List.length_cons] at hlen
        refine ⟨VE f, atI_0 _ _, ?_, ?_⟩
        · simp only [List.map_cons, List.drop_succ_cons, List.drop_zero, List.length_cons, List.length_map]
          exact szLe (by omega)
        rw [show List.drop 1 (List.map VE (f :: g :: tl)) = (g :: tl).map VE from rfl]
        refine compGo_all0 VE (fun u => VE (red p f u)) (g :: tl) (fun u hu => ⟨_, rfl, fun Qd hq => ?_⟩) ?_
        · walk_at "wp"
          have hu' : u ∈ f :: g :: tl := List.mem_cons_of_mem _ hu
          have ok := red_ok W' hb (f := f) (u := u) (by simp) hu'
          rw [ix_V (lenS' u hu')]
          rw [ix_V (lenS' f (by simp))]
          walk_at "wp"
          exact ⟨ok.1, u, _, f, rfl, by rw [lenE u hu']; omega, ok.2, hq⟩
        rw [show (g :: tl).map (fun u => VE (red p f u)) = ((g :: tl).map (red p f)).map VE by simp]
        have lenR : ∀ u ∈ (g :: tl).map (red p f), p < u.length := fun u hu => by
          obtain ⟨w, hw, rfl⟩ := List.mem_map.mp hu
          have hw' : w ∈ f :: g :: tl := List.mem_cons_of_mem _ hw
          rw [red_len (by rw [lenE w hw', lenE f (by simp)]), lenE w hw']; exact hpm
        have hlR : ((g :: tl).map (red p f)).length = tl.length + 1 := by simp
        have hcount := filt_len p ((g :: tl).map (red p f))
        rw [hlR] at hcount
        revert hst lenR hlR hcount
        generalize (g :: tl).map (red p f) = L'
        intro hst lenR hlR hcount
        refine ⟨by rw [List.length_map]; exact szLe (by omega), compGo_map0 VE (fun u => gt u p == 0) VE L' (fun u hu => ⟨_, rfl, fun Qb hq => ?_, fun _ Qd hq => ?_⟩) ?_⟩
        · walk_at "wp"
          rw [ix_V (lenR u hu)]
          walk_at "wp"
          exact hq
        · walk_at "wp"
          exact hq
        refine ⟨by rw [List.length_map, List.length_map]; exact szLe (by omega), by rw [List.length_map]; exact szLe (by omega), compGo_map0 VE (fun u => gt u p != 0) VE L' (fun u hu => ⟨_, rfl, fun Qb hq => ?_, fun _ Qd hq => ?_⟩) ?_⟩
        · walk_at "wp"
          rw [ix_V (lenR u hu)]
          walk_at "wp"
          exact hq
        · walk_at "wp"
          exact hq
        refine ⟨by rw [List.length_map]; exact szLe (by omega), hnx2 _ ?_ _ _ ⟨rfl, _, _, some (VE f), some (.lst (L'.map VE)), a9, a10, a11, by rw [List.map_append]; rfl, hst.1, rfl, ?_⟩⟩
        · rw [← hz, ← wsum_perm hperm]; exact hst.2
        · simp only [List.length_cons, List.length_append]
          omega
    · rw [if_neg hgo]
      have h2 : 1 ≤ 2 ^ bt k p := Nat.pow_pos (by omega)
      have hFl : F.length ≤ p := by
        obtain ⟨g, hg, _⟩ := P.fd
        rw [hg]
        unfold rowsOf
        refine Nat.le_trans (List.length_filterMap_le _ _) ?_
        simp
      have lenF : ∀ u ∈ F, u.length = m := fun u hu => by
        obtain ⟨g, hg, he⟩ := P.fd
        rw [hg] at hu
        obtain ⟨q, hq, hgq⟩ := mem_rowsOf.mp hu
        exact ((he q hq).2 u hgq).2.1
      refine oNe_Ml so [] _ _ ⟨_, rfl, ?_⟩
      match so, hgo with
      | [], _ =>
        simp only [decide_true, Bool.not_true, Bool.false_eq_true, if_false]
        refine hnx _ _ ⟨rfl, p + 1, F, re, _, _, _, _, _, _, _, _, by omega, rfl, rfl, (PInv.none hR h2 P W).mono (bt_up k p), by simpa using hl, Pv.none P hV⟩
      | _ :: _ :: _, hgo => exact absurd hgo (by simp only [List.length_cons]; omega)
      | [f0], _ =>
        have hf0 := lenS f0 (by simp)
        have hlf0 : f0.length = m := (W.s1 f0 (by simp)).1.len hR
        have hne : f0 :: ([] : List (List Int)) ≠ [] := by simp
        simp only [List.map_cons, List.map_nil, atI_0, Option.some.injEq, exists_eq_left', hne, decide_false, Bool.not_false, if_true]
        rw [ix_V hf0]
        walk_at "wp"
        have fin : ∀ (f : List Int) (aa bb cc dd ee ff gg : Option D) (hfl : f.length = m) (hfp : 0 < gt f p) (hf : (∀ i, gt f i = gt f0 i) ∨ (∀ i, gt f i = - gt f0 i)) , nx [some d, some (D.int ↑n), some (D.lst (List.map VE re)), some (D.lst (F.map (fun u => VE (red p f u)) ++ [VE f])), aa, bb, some (D.lst (List.map VE re)), cc, dd, ee, ff, gg] S2 := fun f aa bb cc dd ee ff gg hfl hfp hf =>
          hnx _ _ ⟨rfl, p + 1, F.map (red p f) ++ [f], re, _, _, _, _, _, _, _, _, by omega, rfl, by simp; exact ⟨rfl, rfl, rfl, rfl, rfl, rfl, rfl, rfl⟩, (PInv.some hR h2 P W hfl hfp hf).mono (bt_up k p), by simp only [List.length_cons, List.length_nil] at hl; omega, Pv.some P hV hfl (fun i hi => by
            have z := (W.s1 f0 (by simp)).2.1 i hi
            rcases hf with q | q
            · rw [q, z]
            · rw [q, z]; rfl) (by
            obtain ⟨E, M, b1, b2, b3, b4⟩ := W.bd
            have f1 := b2 f0 (by simp)
            have e1 : (gt f p).natAbs = (gt f0 p).natAbs := by
              rcases hf with q | q
              · rw [q]
              · rw [q, Int.natAbs_neg]
            have s1 : Sm (bt k p + 1) (gt f p) := by
              unfold Sm; rw [Nat.pow_succ]; omega
            exact s1.mono (by omega))⟩
        by_cases hpos : 0 < gt f0 p
        · rw [if_pos hpos]
          refine ⟨by rw [List.length_map]; exact szLe (by omega), compGo_all0 VE (fun u => VE (red p f0 u)) F (fun u hu => ⟨_, rfl, fun Qd hq => ?_⟩) ?_⟩
          · walk_at "wp"
            have ok := red_ok2 P W hb (f := f0) (.inl fun _ => rfl) hu
            rw [ix_V (by rw [lenF u hu]; exact hpm), ix_V hf0]
            walk_at "wp"
            exact ⟨ok.1, u, _, f0, rfl, by rw [lenF u hu]; omega, ok.2, hq⟩
          · exact ⟨by simp only [List.length_map]; exact szLe (by omega), fin f0 _ _ _ _ _ _ _ hlf0 hpos (.inl fun _ => rfl)⟩
        · rw [if_neg hpos]
          refine ⟨_, rfl, by rw [List.length_map]; exact szLe (by omega), compGo_all0 D.int (fun x => D.int (-x)) f0 (fun x hx => ⟨_, rfl, fun Qd hq => ?_⟩) ?_⟩
          · walk_at "wp"
            exact hq
          rw [show f0.map (fun x => D.int (-x)) = (f0.map (fun x => -x)).map D.int by simp]
          have hfn : ∀ i, gt (f0.map (fun x => -x)) i = - gt f0 i := gt_neg f0
          have hln : (f0.map (fun x => -x)).length = m := by simpa using hlf0
          have hpn' : 0 < gt (f0.map (fun x => -x)) p := by
            rw [hfn]
            have := (W.s1 f0 (by simp)).2.2
            omega
          revert hfn hln hpn'
          generalize f0.map (fun x => -x) = f
          intro hfn hln hpn'
          refine ⟨by rw [List.length_map]; exact szLe (by omega), compGo_all0 VE (fun u => VE (red p f u)) F (fun u hu => ⟨_, rfl, fun Qd hq => ?_⟩) ?_⟩
          · walk_at "wp"
            have ok := red_ok2 P W hb (f := f) (.inr hfn) hu
            have hpf : p < f.length := by rw [hln]; exact hpm
            rw [← VE_eq, ix_V (by rw [lenF u hu]; exact hpm)]
            refine ⟨.int (gt f p), by rw [atI_map, atI_some hpf, gt_lt hpf]; rfl, ?_⟩
            walk_at "wp"
            exact ⟨ok.1, u, _, f, rfl, by rw [lenF u hu]; omega, ok.2, hq⟩
          · exact ⟨by simp only [List.length_map]; exact szLe (by omega), fin f _ _ _ _ _ _ _ hln hpn' (.inr hfn)⟩
  · rintro env1 S1 ⟨rfl, p, F, L, a4, a5, a6, a7, a8, a9, a10, a11, hp, hds, rfl, P, hL⟩
    have hpn : p = n := by
      by_cases e : p < n
      · rw [List.drop_eq_getElem_cons (by simpa using e)] at hds
        cases hds
      · omega
    subst hpn
    refine ⟨trivial, ?_⟩
    walk_at "wp"
    exact h F L P hL
  · refine ⟨rfl, 0, [], R, none, none, none, none, none, none, none, none, by omega, ?_, rfl, PInv.start hR hB, Nat.le_refl _, fun u hu => by simp at hu⟩
    simp [rangeD]
/-! #### FD -/
def c_echelon : Ct := fun ds S Q _ => ∃ (R : List (List Int)) (d : D) (m k : Nat), ds = [d, .int m] ∧ isM R d ∧ Len m R ∧ m ≤ 3 ∧ R.length ≤ 1000 ∧ k ≤ 61 ∧ (∀ u ∈ R, Bd (2 ^ k) u) ∧
  ∀ F, IsNF m R F → ((∀ u ∈ F, Bd (2 ^ bt k m) u) ∧ Pv m F) → Q (.tup (F.map VE)) S
/-- echelon -/
def N_echelon : List Str := ["rows", "n"]
def b_echelon : DB := (DB.cons (DS.ret (DE.tuple (DA.cons (DE.ix (DE.call "sifted" c_sifted (DA.cons (DE.var 0) (DA.cons (DE.var 1) DA.nil))) (DE.con (.int 0))) DA.nil)))
  DB.nil)
theorem w_echelon {ds : List D} {S : Sto} {Q : QD} {X : XD} (h : c_echelon ds S Q X) : ctOf N_echelon.length b_echelon ds S Q X := by
  obtain ⟨R, d, m, k, rfl, hd, hR, hm, hl, hk, hB, h⟩ := h
  unfold b_echelon N_echelon
  walk_at "wp"
  refine ⟨R, d, m, m, k, rfl, hd, hR, hm, Nat.le_refl _, by omega, hl, hk, hB, fun F Z P hz => ?_⟩
  walk_at "wp"
  exact h F P.fd ⟨fun u hu => P.bf u (List.mem_append_left _ hu), hz.2⟩
def VecOk (k n : Nat) (v : List Int) : Prop := v.length = n ∧ ∀ x ∈ v, Sm k x
def Gr (S S' : Sto) : Prop := ∃ J, S' = S ++ J
theorem Gr.refl (S : Sto) : Gr S S := ⟨[], by simp⟩
theorem Gr.trans {S T U : Sto} (h : Gr S T) (g : Gr T U) : Gr S U := by
  obtain ⟨J, rfl⟩ := h
  obtain ⟨K, rfl⟩ := g
  exact ⟨J ++ K, by simp⟩
/-! #### FE -/
def c__law_town : Ct := fun ds S Q _ => ∃ ns : List Int, ds = [.scr (ns.map .int)] ∧ ns.length ≤ 63 ∧ S = [] ∧ Q (.han 0) [.lst (.int 0 :: ns.map .int)]
/-- _law_town -/
def N__law_town : List Str := ["script"]
def b__law_town : DB := (DB.cons (DS.ret (DE.thw (DL.cat (DE.lst (DL.dis (DA.cons (DE.con (.int 0)) DA.nil))) (DE.lst (DL.lof (DA.cons (DE.var 0) DA.nil))))))
  DB.nil)
theorem w__law_town {ds : List D} {S : Sto} {Q : QD} {X : XD} (h : c__law_town ds S Q X) : ctOf N__law_town.length b__law_town ds S Q X := by
  obtain ⟨ns, rfl, hl, rfl, h⟩ := h
  unfold b__law_town N__law_town
  walk_at "wp"
  simp only [List.length_map]
  exact ⟨szLe (by omega), h⟩
/-- the store with the town first -/
abbrev tw (c : Nat) (ts : List Int) (J : Sto) : Sto := .lst (.int (c : Nat) :: ts.map .int) :: J
def c__law_draw : Ct := fun ds S Q _ => ∃ (ns ts : List Int) (c : Nat) (J : Sto) (limit : Int), ds = [.scr (ns.map .int), .han 0, .int limit] ∧ S = tw c ts J ∧ ns.length ≤ 63 ∧ ts.length = ns.length ∧ c < 1000000 ∧ 0 < limit ∧ limit ≤ 1000000000 ∧
  ∀ (r : Int) (ts' : List Int), 0 ≤ r → r < limit → ts'.length = ns.length → Q (.int r) (tw (c + 1) ts' J)
/-- _law_draw -/
def N__law_draw : List Str := ["script", "town", "limit", "at", "left", "number"]
def b__law_draw : DB := (DB.cons (DS.sub (DE.var 1) (DE.con (.int 0)) (DE.op .Add (DE.ix (DE.var 1) (DE.con (.int 0))) (DE.con (.int 1))))
  (DB.cons (DS.iff (DT.cmp .Eq (DE.var 0) (DE.lst (DL.dis DA.nil))) (DB.cons (DS.ret (DE.op .Mod (DE.op .FloorDiv (DE.op .Mult (DE.op .Mult (DE.ix (DE.var 1) (DE.con (.int 0))) (DE.ix (DE.var 1) (DE.con (.int 0)))) (DE.con (.int 7))) (DE.con (.int 3))) (DE.var 2)))
  DB.nil) DB.nil)
  (DB.cons (DS.set 3 (DE.op .Mod (DE.ix (DE.var 1) (DE.con (.int 0))) (DE.len (DA.cons (DE.var 0) DA.nil))))
  (DB.cons (DS.set 4 (DE.ix (DE.var 1) (DE.op .Add (DE.con (.int 1)) (DE.var 3))))
  (DB.cons (DS.iff (DT.bool (DW.cons (DT.cmp .GtE (DE.ix (DE.var 0) (DE.var 3)) (DE.op .Pow (DE.con (.int 10)) (DE.con (.int 18)))) (DW.one .And (DT.cmp .Gt (DE.var 4) (DE.con (.int 0)))))) (DB.cons (DS.sub (DE.var 1) (DE.op .Add (DE.con (.int 1)) (DE.var 3)) (DE.op .FloorDiv (DE.var 4) (DE.var 2)))
  (DB.cons (DS.ret (DE.op .Mod (DE.var 4) (DE.var 2)))
  DB.nil)) DB.nil)
  (DB.cons (DS.set 5 (DE.op .Mod (DE.op .Add (DE.ix (DE.var 0) (DE.var 3)) (DE.op .Mult (DE.con (.int 104729)) (DE.ix (DE.var 1) (DE.con (.int 0))))) (DE.con (.int 4294967291))))
  (DB.cons (DS.set 5 (DE.op .Mod (DE.op .Pow (DE.var 5) (DE.con (.int 5))) (DE.con (.int 4294967279))))
  (DB.cons (DS.ret (DE.op .Mod (DE.op .FloorDiv (DE.op .Mod (DE.op .Add (DE.op .Mult (DE.op .FloorDiv (DE.var 5) (DE.con (.int 64))) (DE.con (.int 69621))) (DE.var 5)) (DE.con (.int 4294967231))) (DE.con (.int 8))) (DE.var 2)))
  DB.nil))))))))
theorem seq_h0 (l : List D) (J : Sto) : seqOf (.lst l :: J) (.han 0) = some l := rfl
theorem oIx_h0 (l : List D) (J : Sto) (i : Int) (Q : QD) : oIx (.han 0) (.int i) (.lst l :: J) Q = ∃ d, atI l i = some d ∧ Q d (.lst l :: J) := by simp [oIx, seq_h0]
theorem ix0 {n : Nat} (h : 0 < n) : ixN n 0 = some 0 := by
  unfold ixN
  rw [if_pos (by omega), if_pos (by omega)]; rfl
theorem oEq_scr (ns : List Int) (S : Sto) (Q : QD) (h : Q (.bl (decide (ns = []))) S) : oEq (.scr (ns.map .int)) (.lst []) S Q := by
  refine ⟨.list (ns.map .int), .list [], ?_, rfl, ?_, rfl, ?_⟩
  · show (pyDs (ns.map D.int)).map PyData.list = _
    rw [show pyDs (ns.map D.int) = some (ns.map PyData.int) from eI.hps ns]; rfl
  · unfold SeqAt.shaped
    have h1 : PyData.canLay0 (.list (ns.map .int)) = true := (eL eI).lay ns
    have h2 : PyData.depth (.list (ns.map .int)) ≤ 1 := (eL eI).dp ns
    rw [h1]; simp; omega
  · rw [show PyData.eqv (.list (ns.map .int)) (.list []) = decide (ns = []) from (eL eI).eq ns []]; exact h
theorem sm_nat {c : Nat} (k : Nat) (h : c < 2 ^ k) : Sm k (c : Int) := by unfold Sm; simpa using h
theorem sm_rng {a : Int} (k : Nat) (h0 : 0 ≤ a) (h : a < 2 ^ k) : Sm k a := by
  unfold Sm
  have e : ((2 ^ k : Nat) : Int) = (2 : Int) ^ k := by simp
  omega
theorem divOk_lit {j : Int} (h0 : 0 < j) (h : j < 2 ^ 40) : IntDivOk j := (sm_rng 40 (by omega) h).div (by omega) (by omega)
theorem w__law_draw {ds : List D} {S : Sto} {Q : QD} {X : XD} (h : c__law_draw ds S Q X) : ctOf N__law_draw.length b__law_draw ds S Q X := by
  obtain ⟨ns, ts, c, J, limit, rfl, rfl, hl, ht, hc, h0, hm, h⟩ := h
  unfold b__law_draw N__law_draw
  walk_at "wp"
  simp only [oIx_h0, atI_0]
  walk_at "wp"
  refine ⟨0, rfl, 0, _, rfl, ix0 (by simp), oEq_scr _ _ _ ⟨_, rfl, ?_⟩⟩
  have ec : (c : Int) + 1 = ((c + 1 : Nat) : Int) := by omega
  have sc : Sm 20 ((c + 1 : Nat) : Int) := sm_nat 20 (by omega)
  simp only [List.set_cons_zero, ec, oIx_h0, atI_0]
  have fin : ∀ (x : Int) (ts' : List Int), ts'.length = ns.length → limit ≠ 0 ∧ Q (.int (x.fmod limit)) (tw (c + 1) ts' J) := fun x ts' hts =>
    ⟨by omega, h _ _ (Int.fmod_nonneg_of_pos _ h0) (Int.fmod_lt_of_pos _ h0) hts⟩
  by_cases hns : ns = []
  · simp only [hns, decide_true, if_true]
    walk_at "wp"
    refine ⟨sc.ok sc (by omega), (sc.mul sc).ok (sm_lit 7 (by decide)) (by omega), divOk_lit (by decide) (by decide), fin _ _ ht⟩
  · simp only [hns, decide_false, Bool.false_eq_true, if_false]
    have hpos : 0 < ns.length := by cases ns with | nil => exact absurd rfl hns | cons a r => simp
    walk_at "wp"
    simp only [List.length_map]
    refine ⟨by omega, ?_⟩
    obtain ⟨a, ha⟩ : ∃ a : Nat, ((c + 1 : Nat) : Int).fmod (ns.length : Int) = (a : Int) := ⟨(((c + 1 : Nat) : Int).fmod (ns.length : Int)).toNat, by
      have := Int.fmod_nonneg_of_pos ((c + 1 : Nat) : Int) (b := (ns.length : Int)) (by omega)
      omega⟩
    have hal : a < ns.length := by
      have := Int.fmod_lt_of_pos ((c + 1 : Nat) : Int) (b := (ns.length : Int)) (by omega)
      omega
    have e1 : (1 : Int) + (a : Int) = ((a + 1 : Nat) : Int) := by omega
    have hts : a + 1 < (D.int ((c + 1 : Nat) : Int) :: ts.map D.int).length := by simp; omega
    have g1 : (D.int ((c + 1 : Nat) : Int) :: ts.map D.int)[a + 1] = D.int (gt ts a) := by
      rw [List.getElem_cons_succ, List.getElem_map, gt_lt (by omega)]
    simp only [ha, e1, oIx_h0, atI_some hts, g1]
    walk_at "wp"
    have hns' : a < (ns.map D.int).length := by simpa using hal
    have g2 : (ns.map D.int)[a] = D.int (gt ns a) := by rw [List.getElem_map, gt_lt hal]
    simp only [atI_some hns', g2]
    walk_at "wp"
    refine ⟨by decide, ?_⟩
    have k1 : IntMulOk 104729 ((c + 1 : Nat) : Int) := (sm_rng 20 (a := 104729) (by decide) (by decide)).ok sc (by omega)
    have k2 : ((gt ns a + 104729 * ((c + 1 : Nat) : Int)).fmod 4294967291).natAbs < 2 ^ 64 := by
      have h1 := Int.fmod_nonneg_of_pos (gt ns a + 104729 * ((c + 1 : Nat) : Int)) (b := 4294967291) (by decide)
      have h2 := Int.fmod_lt_of_pos (gt ns a + 104729 * ((c + 1 : Nat) : Int)) (b := 4294967291) (by decide)
      omega
    have k3 : ∀ y : Int, IntMulOk ((y.fmod 4294967279).fdiv 64) 69621 := fun y => by
      have h1 := Int.fmod_nonneg_of_pos y (b := 4294967279) (by decide)
      have h2 := Int.fmod_lt_of_pos y (b := 4294967279) (by decide)
      generalize y.fmod 4294967279 = z at h1 h2 ⊢
      have h3 := fd_le z (b := 64) (by decide)
      exact (Sm.of 33 (a := z.fdiv 64) (B := 4294967279) (by omega) (by decide)).ok (sm_rng 20 (a := 69621) (by decide) (by decide)) (by omega)
    have d64 : IntDivOk 64 := divOk_lit (by decide) (by decide)
    have d8 : IntDivOk 8 := divOk_lit (by decide) (by decide)
    have dl : IntDivOk limit := divOk_lit h0 (by omega)
    split
    · split
      · refine ⟨dl, 0, rfl, _, _, rfl, by unfold ixN; rw [if_pos (by omega), if_pos (by omega)], ?_⟩
        rw [show ((a + 1 : Nat) : Int).toNat = a + 1 by omega]
        simp only [List.set_cons_zero, List.set_cons_succ]
        rw [show (ts.map D.int).set a (D.int ((gt ts a).fdiv limit)) = (ts.set a ((gt ts a).fdiv limit)).map D.int by rw [List.map_set]]
        exact fin _ _ (by rw [List.length_set]; exact ht)
      · simp only [oIx_h0, atI_0]
        walk_at "wp"
        exact ⟨k1, by decide, k2, by decide, d64, k3 _, by decide, d8, fin _ _ ht⟩
    · simp only [oIx_h0, atI_0]
      walk_at "wp"
      exact ⟨k1, by decide, k2, by decide, d64, k3 _, by decide, d8, fin _ _ ht⟩
/-! #### FF -/
def Tn (ns ts : List Int) (c : Nat) : Prop := ns.length ≤ 63 ∧ ts.length = ns.length ∧ c < 1000000
theorem draw_call {ns ts : List Int} {c : Nat} {J : Sto} {limit : Int} {Q : QD} {X : XD} (t : Tn ns ts c) (h0 : 0 < limit) (hl : limit ≤ 1000000000) (q : ∀ (r : Int) (ts' : List Int), 0 ≤ r → r < limit → ts'.length = ns.length → Q (.int r) (tw (c + 1) ts' J)) : c__law_draw [.scr (ns.map .int), .han 0, .int limit] (tw c ts J) Q X :=
  ⟨ns, ts, c, J, limit, rfl, rfl, t.1, t.2.1, t.2.2, h0, hl, q⟩
/-! #### FG -/
local macro_rules | `(tactic| walk_at "wp") => `(tactic| try simp only [z0, z1, z2, z3, z4, z5, z6, z7, z8, z9, z10, z11, z12, z13, z14, z15, z16, z17, z18, z19, z20, z21, z22, z23, z24, z25, z26, z27, z28, z29, z30, z31, z32, z33, z34, z35, z36, z37, z38, z39, z40, z41, z42, z43, z44, z45, z46, z47, z48, z49, z50, z51, z52, z53, z54, z55, z56, z57, z58, z59, z60, z61, z62, z63, z64, z65, z66, z67, z68, z69, z70, z71, z72, z73, z74, z75, z76, z77, z78, z79, z80, z81, z82, z83, zg0, zg1, y0, y1, y2, y3, y4, y5, y6, y7, y8, y9, y10, y11, y12, y13, y14, sg0, sg1, sg2, sg3, sg4, sn0, sn1, sn2, sn3, sn4, sn5, sn6, sn7, sn8, sn9, sp1, sp4, si0, si1, si2, si3, si4, sl0, sl1, sl2, sl3, sl4, y15, y16, y17, y18, y19, y20, y21, y22, y23, y25a, y25b, y25c, wZipJ_eq, zipJ_tt, zipJ_lt, y26a, y27a, y28a, y28b, y29a, y30a, y31a, wVar, wFrz, wC, wNil, wCons, w1, w2, w3, wAp, opD, cmD, oNeg, wB, wNotT, boolW, wAndT, wOrT, wNotV, boolV, wAndV, wOrV, wIte, wNo, wSo, wSl, wTup, wLst, wThw, wLof, wCat, wRep, wIsi, wM0, wM1, wIseq, wR1, wR2, wChr, wZip_eq, wEnum, wYes, wComp, wSkip, wSeq, wExpr, wRet, wCont, wSet, wAsg, wPar, wSub, wIf, wFor, wRaise, wCall, wCall0, wTry, wIsX, wIsVE, wLofS, wFld, wSetF, wMet, wMet0, wMake, wLenO, wSrtD, wComp2, wPar3, wRev, wCallT, wSrtQ, wSrtS, wDead, wAskT, wLofR, wSub2, setO, wIsLD, seqOf_tup, seqOf_lst, seqOf_scr, lstOf_lst, lstOf_scr, lstX_lst, tupOf_tup, srcOf_tup, srcOf_lst, srcOf_scr, srcOf_han, srcOk_nil, srcOk_cons, oAdd_ii, oAdd_ss, oAdd_tt, oAdd_ll, oSub_ii, oMul_ii, oMul_ti, oMul_si, oDiv_ii, oMod_ii, oPow_ii, oNeg_i, oEq_ii, oNe_ii, oEq_ss, oNe_ss, oI_ii, oIs_n, oIsNot_n, oIs_b, oIsNot_b, isNon_n, isNon_b, isNon_i, isNon_s, isNon_t, isNon_l, isNon_h, oIx_t, oIx_l, oIx_s, oLen_t, oLen_l, oLen_s, oLen_str, oAbs_i, oTuple_l, oTuple_t, oSl_t, oSl_l, oInt_i, oInt_b, compGo_nil, compGo_cons, forGo_nil, forGo_cons, wipeD_nil, wipeD_cons, range_3, range_2, range_1, enumD_nil, enumD_1, enumD_2, enumD_3, zipD_nil, zipD_cons, oMin_ii, oRev_t, oNe_iN, oEq_iN, ctOf, startD, List.map_cons, List.map_nil, List.length_cons, List.length_nil, List.cons_append, List.nil_append, List.append_nil, List.replicate, Nat.reduceAdd, Nat.reduceSub, Nat.sub_self, Nat.zero_add, List.getElem?_cons_zero, List.getElem?_cons_succ, List.getElem?_nil, List.set_cons_zero, List.set_cons_succ, ex_eq, ex_and, Option.some.injEq, exists_eq_left', exists_eq_left, exists_eq_right, D.bl.injEq, D.int.injEq, D.str.injEq, D.tup.injEq, D.lst.injEq, D.han.injEq, O.ins.injEq, O.lst.injEq, atI_0, atI_1, atI_2, reduceIte, zip_tt, zip_ll, ty_n, ty_b, ty_i, ty_s, ty_t, ty_l, ty_f, kit_ii, kit_ib, kit_bb, kit_bi, kit_it, kit_tt, kit_ti, kit_tb, kit_lt, kit_li, kit_st, kit_si, kit_ss, kit_nt, kit_ni, kit_fi, kit_ft, kit_is, kit_ns, kit_bt, oLen_V, Int.toNat_natCast, cut_t0, cut_t1, cut_t2, cut_f1, cut_f2, cut_f3, m2_0, m2_1, m2_2, List.take_succ_cons, List.take_zero, List.drop_succ_cons, List.drop_zero, List.take_nil, List.drop_nil, decide_true, decide_false, Bool.not_true, Bool.not_false, if_true, if_false, Bool.false_eq_true, Int.cast_ofNat_Int, Int.reduceEq, Int.reduceLT, Int.reduceLE, Int.reduceToNat, Int.reduceNeg, Nat.reduceEqDiff, decide_eq_true_eq, true_and, and_true, List.cons.injEq, and_self, Int.reduceSub, Int.reduceAdd, Int.reduceMul])
local macro_rules | `(tactic| walk_at "wps") => `(tactic| simp only [z0, z1, z2, z3, z4, z5, z6, z7, z8, z9, z10, z11, z12, z13, z14, z15, z16, z17, z18, z19, z20, z21, z22, z23, z24, z25, z26, z27, z28, z29, z30, z31, z32, z33, z34, z35, z36, z37, z38, z39, z40, z41, z42, z43, z44, z45, z46, z47, z48, z49, z50, z51, z52, z53, z54, z55, z56, z57, z58, z59, z60, z61, z62, z63, z64, z65, z66, z67, z68, z69, z70, z71, z72, z73, z74, z75, z76, z77, z78, z79, z80, z81, z82, z83, zg0, zg1, y0, y1, y2, y3, y4, y5, y6, y7, y8, y9, y10, y11, y12, y13, y14, sg0, sg1, sg2, sg3, sg4, sn0, sn1, sn2, sn3, sn4, sn5, sn6, sn7, sn8, sn9, sp1, sp4, si0, si1, si2, si3, si4, sl0, sl1, sl2, sl3, sl4, y15, y16, y17, y18, y19, y20, y21, y22, y23, y25a, y25b, y25c, wZipJ_eq, zipJ_tt, zipJ_lt, y26a, y27a, y28a, y28b, y29a, y30a, y31a, wVar, wFrz, wC, wNil, wCons, w1, w2, w3, wAp, opD, cmD, oNeg, wB, wNotT, boolW, wAndT, wOrT, wNotV, boolV, wAndV, wOrV, wIte, wNo, wSo, wSl, wTup, wLst, wThw, wLof, wCat, wRep, wIsi, wM0, wM1, wIseq, wR1, wR2, wChr, wZip_eq, wEnum, wYes, wComp, wSkip, wSeq, wExpr, wRet, wCont, wSet, wAsg, wPar, wSub, wIf, wFor, wRaise, wCall, wCall0, wTry, wIsX, wIsVE, wLofS, wFld, wSetF, wMet, wMet0, wMake, wLenO, wSrtD, wComp2, wPar3, wRev, wCallT, wSrtQ, wSrtS, wDead, wAskT, wLofR, wSub2, setO, wIsLD, seqOf_tup, seqOf_lst, seqOf_scr, lstOf_lst, lstOf_scr, lstX_lst, tupOf_tup, srcOf_tup, srcOf_lst, srcOf_scr, srcOf_han, srcOk_nil, srcOk_cons, oAdd_ii, oAdd_ss, oAdd_tt, oAdd_ll, oSub_ii, oMul_ii, oMul_ti, oMul_si, oDiv_ii, oMod_ii, oPow_ii, oNeg_i, oEq_ii, oNe_ii, oEq_ss, oNe_ss, oI_ii, oIs_n, oIsNot_n, oIs_b, oIsNot_b, isNon_n, isNon_b, isNon_i, isNon_s, isNon_t, isNon_l, isNon_h, oIx_t, oIx_l, oIx_s, oLen_t, oLen_l, oLen_s, oLen_str, oAbs_i, oTuple_l, oTuple_t, oSl_t, oSl_l, oInt_i, oInt_b, compGo_nil, compGo_cons, forGo_nil, forGo_cons, wipeD_nil, wipeD_cons, range_3, range_2, range_1, enumD_nil, enumD_1, enumD_2, enumD_3, zipD_nil, zipD_cons, oMin_ii, oRev_t, oNe_iN, oEq_iN, ctOf, startD, List.map_cons, List.map_nil, List.length_cons, List.length_nil, List.cons_append, List.nil_append, List.append_nil, List.replicate, Nat.reduceAdd, Nat.reduceSub, Nat.sub_self, Nat.zero_add, List.getElem?_cons_zero, List.getElem?_cons_succ, List.getElem?_nil, List.set_cons_zero, List.set_cons_succ, ex_eq, ex_and, Option.some.injEq, exists_eq_left', exists_eq_left, exists_eq_right, D.bl.injEq, D.int.injEq, D.str.injEq, D.tup.injEq, D.lst.injEq, D.han.injEq, O.ins.injEq, O.lst.injEq, atI_0, atI_1, atI_2, reduceIte, zip_tt, zip_ll, ty_n, ty_b, ty_i, ty_s, ty_t, ty_l, ty_f, kit_ii, kit_ib, kit_bb, kit_bi, kit_it, kit_tt, kit_ti, kit_tb, kit_lt, kit_li, kit_st, kit_si, kit_ss, kit_nt, kit_ni, kit_fi, kit_ft, kit_is, kit_ns, kit_bt, oLen_V, Int.toNat_natCast, cut_t0, cut_t1, cut_t2, cut_f1, cut_f2, cut_f3, m2_0, m2_1, m2_2, List.take_succ_cons, List.take_zero, List.drop_succ_cons, List.drop_zero, List.take_nil, List.drop_nil, decide_true, decide_false, Bool.not_true, Bool.not_false, if_true, if_false, Bool.false_eq_true, Int.cast_ofNat_Int, Int.reduceEq, Int.reduceLT, Int.reduceLE, Int.reduceToNat, Int.reduceNeg, Nat.reduceEqDiff, decide_eq_true_eq, true_and, and_true, List.cons.injEq, and_self, Int.reduceSub, Int.reduceAdd, Int.reduceMul, *])
local macro_rules | `(tactic| walk_at "wpf") => `(tactic| try simp only [z0, z1, z2, z3, z4, z5, z6, z7, z8, z9, z10, z11, z12, z13, z14, z15, z16, z17, z18, z19, z20, z21, z22, z23, z24, z25, z26, z27, z28, z29, z30, z31, z32, z33, z34, z35, z36, z37, z38, z39, z40, z41, z42, z43, z44, z45, z46, z47, z48, z49, z50, z51, z52, z53, z54, z55, z56, z57, z58, z59, z60, z61, z62, z63, z64, z65, z66, z67, z68, z69, z70, z71, z72, z73, z74, z75, z76, z77, z78, z79, z80, z81, z82, z83, zg0, zg1, y0, y1, y2, y3, y4, y5, y6, y7, y8, y9, y10, y11, y12, y13, y14, sg0, sg1, sg2, sg3, sg4, sn0, sn1, sn2, sn3, sn4, sn5, sn6, sn7, sn8, sn9, sp1, sp4, si0, si1, si2, si3, si4, sl0, sl1, sl2, sl3, sl4, y15, y16, y17, y18, y19, y20, y21, y22, y23, y25a, y25b, y25c, wZipJ_eq, zipJ_tt, zipJ_lt, y26a, y27a, y28a, y28b, y29a, y30a, y31a, wVar, wFrz, wC, wNil, wCons, w1, w2, w3, wAp, opD, cmD, oNeg, wB, wNotT, boolW, wAndT, wOrT, wNotV, boolV, wAndV, wOrV, wIte, wNo, wSo, wSl, wTup, wLst, wThw, wLof, wCat, wRep, wIsi, wM0, wM1, wIseq, wR1, wR2, wChr, wZip_eq, wEnum, wYes, wComp, wSkip, wSeq, wExpr, wRet, wCont, wSet, wAsg, wPar, wSub, wIf, wFor, wRaise, wCall, wCall0, wTry, wIsX, wIsVE, wLofS, wFld, wSetF, wMet, wMet0, wMake, wLenO, wSrtD, wComp2, wPar3, wRev, wCallT, wSrtQ, wSrtS, wDead, wAskT, wLofR, wSub2, setO, wIsLD, seqOf_tup, seqOf_lst, seqOf_scr, lstOf_lst, lstOf_scr, lstX_lst, tupOf_tup, srcOf_tup, srcOf_lst, srcOf_scr, srcOf_han, srcOk_nil, srcOk_cons, oAdd_ii, oAdd_ss, oAdd_tt, oAdd_ll, oSub_ii, oMul_ii, oMul_ti, oMul_si, oDiv_ii, oMod_ii, oPow_ii, oNeg_i, oEq_ii, oNe_ii, oEq_ss, oNe_ss, oI_ii, oIs_n, oIsNot_n, oIs_b, oIsNot_b, isNon_n, isNon_b, isNon_i, isNon_s, isNon_t, isNon_l, isNon_h, oIx_t, oIx_l, oIx_s, oLen_t, oLen_l, oLen_s, oLen_str, oAbs_i, oTuple_l, oTuple_t, oSl_t, oSl_l, oInt_i, oInt_b, compGo_nil, compGo_cons, wipeD_nil, wipeD_cons, range_3, range_2, range_1, enumD_nil, enumD_1, enumD_2, enumD_3, zipD_nil, zipD_cons, oMin_ii, oRev_t, oNe_iN, oEq_iN, ctOf, startD, List.map_cons, List.map_nil, List.length_cons, List.length_nil, List.cons_append, List.nil_append, List.append_nil, List.replicate, Nat.reduceAdd, Nat.reduceSub, Nat.sub_self, Nat.zero_add, List.getElem?_cons_zero, List.getElem?_cons_succ, List.getElem?_nil, List.set_cons_zero, List.set_cons_succ, ex_eq, ex_and, Option.some.injEq, exists_eq_left', exists_eq_left, exists_eq_right, D.bl.injEq, D.int.injEq, D.str.injEq, D.tup.injEq, D.lst.injEq, D.han.injEq, O.ins.injEq, O.lst.injEq, atI_0, atI_1, atI_2, reduceIte, zip_tt, zip_ll, ty_n, ty_b, ty_i, ty_s, ty_t, ty_l, ty_f, kit_ii, kit_ib, kit_bb, kit_bi, kit_it, kit_tt, kit_ti, kit_tb, kit_lt, kit_li, kit_st, kit_si, kit_ss, kit_nt, kit_ni, kit_fi, kit_ft, kit_is, kit_ns, kit_bt, oLen_V, Int.toNat_natCast, cut_t0, cut_t1, cut_t2, cut_f1, cut_f2, cut_f3, m2_0, m2_1, m2_2, List.take_succ_cons, List.take_zero, List.drop_succ_cons, List.drop_zero, List.take_nil, List.drop_nil, decide_true, decide_false, Bool.not_true, Bool.not_false, if_true, if_false, Bool.false_eq_true, Int.cast_ofNat_Int, Int.reduceEq, Int.reduceLT, Int.reduceLE, Int.reduceToNat, Int.reduceNeg, Nat.reduceEqDiff, decide_eq_true_eq, true_and, and_true, List.cons.injEq, and_self, Int.reduceSub, Int.reduceAdd, Int.reduceMul])
local macro_rules | `(tactic| walk_at "wpe") => `(tactic| simp only [z0, z1, z2, z3, z4, z5, z6, z7, z8, z9, z10, z11, z12, z13, z14, z15, z16, z17, z18, z19, z20, z21, z22, z23, z24, z25, z26, z27, z28, z29, z30, z31, z32, z33, z34, z35, z36, z37, z38, z39, z40, z41, z42, z43, z44, z45, z46, z47, z48, z49, z50, z51, z52, z53, z54, z55, z56, z57, z58, z59, z60, z61, z62, z63, z64, z65, z66, z67, z68, z69, z70, z71, z72, z73, z74, z75, z76, z77, z78, z79, z80, z81, z82, z83, zg0, zg1, y0, y1, y2, y3, y4, y5, y6, y7, y8, y9, y10, y11, y12, y13, y14, sg0, sg1, sg2, sg3, sg4, sn0, sn1, sn2, sn3, sn4, sn5, sn6, sn7, sn8, sn9, sp1, sp4, si0, si1, si2, si3, si4, sl0, sl1, sl2, sl3, sl4, y15, y16, y17, y18, y19, y20, y21, y22, y23, y25a, y25b, y25c, wZipJ_eq, zipJ_tt, zipJ_lt, y26a, y27a, y28a, y28b, y29a, y30a, y31a, wVar, wFrz, wC, wNil, wCons, w1, w2, w3, wAp, opD, cmD, oNeg, wB, wNotT, boolW, wAndT, wOrT, wNotV, boolV, wAndV, wOrV, wIte, wNo, wSo, wSl, wTup, wLst, wThw, wLof, wCat, wRep, wIsi, wM0, wM1, wIseq, wR1, wR2, wChr, wZip_eq, wEnum, wYes, wComp, wSkip, wSeq, wExpr, wRet, wCont, wSet, wAsg, wPar, wSub, wIf, wFor, wRaise, wCall, wCall0, wTry, wIsX, wIsVE, wLofS, wFld, wSetF, wMet, wMet0, wMake, wLenO, wSrtD, wComp2, wPar3, wRev, wCallT, wSrtQ, wSrtS, wDead, wAskT, wLofR, wSub2, setO, wIsLD, seqOf_tup, seqOf_lst, seqOf_scr, lstOf_lst, lstOf_scr, lstX_lst, tupOf_tup, srcOf_tup, srcOf_lst, srcOf_scr, srcOf_han, srcOk_nil, srcOk_cons, oAdd_ii, oAdd_ss, oAdd_tt, oAdd_ll, oSub_ii, oMul_ii, oMul_ti, oMul_si, oDiv_ii, oMod_ii, oPow_ii, oNeg_i, oEq_ii, oNe_ii, oEq_ss, oNe_ss, oI_ii, oIs_n, oIsNot_n, oIs_b, oIsNot_b, isNon_n, isNon_b, isNon_i, isNon_s, isNon_t, isNon_l, isNon_h, oIx_t, oIx_l, oIx_s, oLen_t, oLen_l, oLen_s, oLen_str, oAbs_i, oTuple_l, oTuple_t, oSl_t, oSl_l, oInt_i, oInt_b, compGo_nil, compGo_cons, wipeD_nil, wipeD_cons, range_3, range_2, range_1, enumD_nil, enumD_1, enumD_2, enumD_3, zipD_nil, zipD_cons, oMin_ii, oRev_t, oNe_iN, oEq_iN, ctOf, startD, List.map_cons, List.map_nil, List.length_cons, List.length_nil, List.cons_append, List.nil_append, List.append_nil, List.replicate, Nat.reduceAdd, Nat.reduceSub, Nat.sub_self, Nat.zero_add, List.getElem?_cons_zero, List.getElem?_cons_succ, List.getElem?_nil, List.set_cons_zero, List.set_cons_succ, ex_eq, ex_and, Option.some.injEq, exists_eq_left', exists_eq_left, exists_eq_right, D.bl.injEq, D.int.injEq, D.str.injEq, D.tup.injEq, D.lst.injEq, D.han.injEq, O.ins.injEq, O.lst.injEq, atI_0, atI_1, atI_2, reduceIte, zip_tt, zip_ll, ty_n, ty_b, ty_i, ty_s, ty_t, ty_l, ty_f, kit_ii, kit_ib, kit_bb, kit_bi, kit_it, kit_tt, kit_ti, kit_tb, kit_lt, kit_li, kit_st, kit_si, kit_ss, kit_nt, kit_ni, kit_fi, kit_ft, kit_is, kit_ns, kit_bt, oLen_V, Int.toNat_natCast, cut_t0, cut_t1, cut_t2, cut_f1, cut_f2, cut_f3, m2_0, m2_1, m2_2, List.take_succ_cons, List.take_zero, List.drop_succ_cons, List.drop_zero, List.take_nil, List.drop_nil, decide_true, decide_false, Bool.not_true, Bool.not_false, if_true, if_false, Bool.false_eq_true, Int.cast_ofNat_Int, Int.reduceEq, Int.reduceLT, Int.reduceLE, Int.reduceToNat, Int.reduceNeg, Nat.reduceEqDiff, decide_eq_true_eq, true_and, and_true, List.cons.injEq, and_self, Int.reduceSub, Int.reduceAdd, Int.reduceMul])
local macro_rules | `(tactic| walk_at "wpc") => `(tactic| try simp only [z0, z1, z2, z3, z4, z5, z6, z7, z8, z9, z10, z11, z12, z13, z14, z15, z16, z17, z18, z19, z20, z21, z22, z23, z24, z25, z26, z27, z28, z29, z30, z31, z32, z33, z34, z35, z36, z37, z38, z39, z40, z41, z42, z43, z44, z45, z46, z47, z48, z49, z50, z51, z52, z53, z54, z55, z56, z57, z58, z59, z60, z61, z62, z63, z64, z65, z66, z67, z68, z69, z70, z71, z72, z73, z74, z75, z76, z77, z78, z79, z80, z81, z82, z83, zg0, zg1, y0, y1, y2, y3, y4, y5, y6, y7, y8, y9, y10, y11, y12, y13, y14, sg0, sg1, sg2, sg3, sg4, sn0, sn1, sn2, sn3, sn4, sn5, sn6, sn7, sn8, sn9, sp1, sp4, si0, si1, si2, si3, si4, sl0, sl1, sl2, sl3, sl4, y15, y16, y17, y18, y19, y20, y21, y22, y23, y25a, y25b, y25c, wZipJ_eq, zipJ_tt, zipJ_lt, y26a, y27a, y28a, y28b, y29a, y30a, y31a, wVar, wFrz, wC, wNil, wCons, w1, w2, w3, wAp, opD, cmD, oNeg, wB, wNotT, boolW, wAndT, wOrT, wNotV, boolV, wAndV, wOrV, wIte, wNo, wSo, wSl, wTup, wLst, wThw, wLof, wCat, wRep, wIsi, wM0, wM1, wIseq, wR1, wR2, wChr, wZip_eq, wEnum, wYes, wComp, wSkip, wSeq, wExpr, wRet, wCont, wSet, wAsg, wPar, wSub, wIf, wFor, wRaise, wCall, wCall0, wTry, wIsX, wIsVE, wLofS, wFld, wSetF, wMet, wMet0, wMake, wLenO, wSrtD, wComp2, wPar3, wRev, wCallT, wSrtQ, wSrtS, wDead, wAskT, wLofR, wSub2, setO, wIsLD, seqOf_tup, seqOf_lst, seqOf_scr, lstOf_lst, lstOf_scr, lstX_lst, tupOf_tup, srcOf_tup, srcOf_lst, srcOf_scr, srcOf_han, srcOk_nil, srcOk_cons, oAdd_ii, oAdd_ss, oAdd_tt, oAdd_ll, oSub_ii, oMul_ii, oMul_ti, oMul_si, oDiv_ii, oMod_ii, oPow_ii, oNeg_i, oEq_ii, oNe_ii, oEq_ss, oNe_ss, oI_ii, oIs_n, oIsNot_n, oIs_b, oIsNot_b, isNon_n, isNon_b, isNon_i, isNon_s, isNon_t, isNon_l, isNon_h, oIx_t, oIx_l, oIx_s, oLen_t, oLen_l, oLen_s, oLen_str, oAbs_i, oTuple_l, oTuple_t, oSl_t, oSl_l, oInt_i, oInt_b, wipeD_nil, wipeD_cons, range_3, range_2, range_1, enumD_nil, enumD_1, enumD_2, enumD_3, zipD_nil, zipD_cons, oMin_ii, oRev_t, oNe_iN, oEq_iN, ctOf, startD, List.map_cons, List.map_nil, List.length_cons, List.length_nil, List.cons_append, List.nil_append, List.append_nil, List.replicate, Nat.reduceAdd, Nat.reduceSub, Nat.sub_self, Nat.zero_add, List.getElem?_cons_zero, List.getElem?_cons_succ, List.getElem?_nil, List.set_cons_zero, List.set_cons_succ, ex_eq, ex_and, Option.some.injEq, exists_eq_left', exists_eq_left, exists_eq_right, D.bl.injEq, D.int.injEq, D.str.injEq, D.tup.injEq, D.lst.injEq, D.han.injEq, O.ins.injEq, O.lst.injEq, atI_0, atI_1, atI_2, reduceIte, zip_tt, zip_ll, ty_n, ty_b, ty_i, ty_s, ty_t, ty_l, ty_f, kit_ii, kit_ib, kit_bb, kit_bi, kit_it, kit_tt, kit_ti, kit_tb, kit_lt, kit_li, kit_st, kit_si, kit_ss, kit_nt, kit_ni, kit_fi, kit_ft, kit_is, kit_ns, kit_bt, oLen_V, Int.toNat_natCast, cut_t0, cut_t1, cut_t2, cut_f1, cut_f2, cut_f3, m2_0, m2_1, m2_2, List.take_succ_cons, List.take_zero, List.drop_succ_cons, List.drop_zero, List.take_nil, List.drop_nil, decide_true, decide_false, Bool.not_true, Bool.not_false, if_true, if_false, Bool.false_eq_true, Int.cast_ofNat_Int, Int.reduceEq, Int.reduceLT, Int.reduceLE, Int.reduceToNat, Int.reduceNeg, Nat.reduceEqDiff, decide_eq_true_eq, true_and, and_true, List.cons.injEq, and_self, Int.reduceSub, Int.reduceAdd, Int.reduceMul])
/-! #### FH -/
local macro_rules | `(tactic| walk_at "wp") => `(tactic| try simp only [z0, z1, z2, z3, z4, z5, z6, z7, z8, z9, z10, z11, z12, z13, z14, z15, z16, z17, z18, z19, z20, z21, z22, z23, z24, z25, z26, z27, z28, z29, z30, z31, z32, z33, z34, z35, z36, z37, z38, z39, z40, z41, z42, z43, z44, z45, z46, z47, z48, z49, z50, z51, z52, z53, z54, z55, z56, z57, z58, z59, z60, z61, z62, z63, z64, z65, z66, z67, z68, z69, z70, z71, z72, z73, z74, z75, z76, z77, z78, z79, z80, z81, z82, z83, zg0, zg1, wVar, wFrz, wC, wNil, wCons, w1, w2, w3, wAp, opD, cmD, oNeg, wB, wNotT, boolW, wAndT, wOrT, wNotV, boolV, wAndV, wOrV, wIte, wNo, wSo, wSl, wTup, wLst, wThw, wLof, wCat, wRep, wIsi, wM0, wM1, wIseq, wR1, wR2, wChr, wZip_eq, wEnum, wYes, wComp, wSkip, wSeq, wExpr, wRet, wCont, wSet, wAsg, wPar, wSub, wIf, wFor, wRaise, wCall, wCall0, seqOf_tup, seqOf_lst, seqOf_scr, lstOf_lst, lstOf_scr, lstX_lst, tupOf_tup, srcOf_tup, srcOf_lst, srcOf_scr, srcOf_han, srcOk_nil, srcOk_cons, oAdd_ii, oAdd_ss, oAdd_tt, oAdd_ll, oSub_ii, oMul_ii, oMul_ti, oDiv_ii, oMod_ii, oPow_ii, oNeg_i, oEq_ii, oNe_ii, oEq_ss, oNe_ss, oI_ii, oIs_n, oIsNot_n, oIs_b, oIsNot_b, isNon_n, isNon_b, isNon_i, isNon_s, isNon_t, isNon_l, isNon_h, oIx_t, oIx_l, oIx_s, oLen_t, oLen_l, oLen_s, oLen_str, oAbs_i, oTuple_l, oTuple_t, oSl_t, oSl_l, oInt_i, oInt_b, compGo_nil, compGo_cons, forGo_nil, forGo_cons, wipeD_nil, wipeD_cons, range_3, range_2, range_1, enumD_nil, enumD_1, enumD_2, enumD_3, zipD_nil, zipD_cons, ctOf, startD, List.map_cons, List.map_nil, List.length_cons, List.length_nil, List.cons_append, List.nil_append, List.append_nil, List.replicate, Nat.reduceAdd, Nat.reduceSub, Nat.sub_self, Nat.zero_add, List.getElem?_cons_zero, List.getElem?_cons_succ, List.getElem?_nil, List.set_cons_zero, List.set_cons_succ, ex_eq, ex_and, Option.some.injEq, exists_eq_left', exists_eq_left, exists_eq_right, D.bl.injEq, D.int.injEq, D.str.injEq, D.tup.injEq, D.lst.injEq, atI_0, atI_1, atI_2, reduceIte, zip_tt, zip_ll, ty_n, ty_b, ty_i, ty_s, ty_t, ty_l, ty_f, kit_ii, kit_ib, kit_bb, kit_bi, kit_it, kit_tt, kit_ti, kit_tb, kit_lt, kit_li, kit_st, kit_si, kit_ss, kit_nt, kit_ni, kit_fi, kit_ft, kit_is, kit_ns, kit_bt, oLen_V, Int.toNat_natCast, cut_t0, cut_t1, cut_t2, cut_f1, cut_f2, cut_f3, m2_0, m2_1, m2_2, List.take_succ_cons, List.take_zero, List.drop_succ_cons, List.drop_zero, List.take_nil, List.drop_nil, decide_true, decide_false, Bool.not_true, Bool.not_false, if_true, if_false, Bool.false_eq_true, Int.cast_ofNat_Int, Int.reduceEq, Int.reduceLT, Int.reduceLE, Int.reduceToNat, Int.reduceNeg, Nat.reduceEqDiff, decide_eq_true_eq, true_and, and_true, List.cons.injEq, and_self, Int.reduceSub, Int.reduceAdd, Int.reduceMul])
local macro_rules | `(tactic| walk_at "wps") => `(tactic| simp only [z0, z1, z2, z3, z4, z5, z6, z7, z8, z9, z10, z11, z12, z13, z14, z15, z16, z17, z18, z19, z20, z21, z22, z23, z24, z25, z26, z27, z28, z29, z30, z31, z32, z33, z34, z35, z36, z37, z38, z39, z40, z41, z42, z43, z44, z45, z46, z47, z48, z49, z50, z51, z52, z53, z54, z55, z56, z57, z58, z59, z60, z61, z62, z63, z64, z65, z66, z67, z68, z69, z70, z71, z72, z73, z74, z75, z76, z77, z78, z79, z80, z81, z82, z83, zg0, zg1, wVar, wFrz, wC, wNil, wCons, w1, w2, w3, wAp, opD, cmD, oNeg, wB, wNotT, boolW, wAndT, wOrT, wNotV, boolV, wAndV, wOrV, wIte, wNo, wSo, wSl, wTup, wLst, wThw, wLof, wCat, wRep, wIsi, wM0, wM1, wIseq, wR1, wR2, wChr, wZip_eq, wEnum, wYes, wComp, wSkip, wSeq, wExpr, wRet, wCont, wSet, wAsg, wPar, wSub, wIf, wFor, wRaise, wCall, wCall0, seqOf_tup, seqOf_lst, seqOf_scr, lstOf_lst, lstOf_scr, lstX_lst, tupOf_tup, srcOf_tup, srcOf_lst, srcOf_scr, srcOf_han, srcOk_nil, srcOk_cons, oAdd_ii, oAdd_ss, oAdd_tt, oAdd_ll, oSub_ii, oMul_ii, oMul_ti, oDiv_ii, oMod_ii, oPow_ii, oNeg_i, oEq_ii, oNe_ii, oEq_ss, oNe_ss, oI_ii, oIs_n, oIsNot_n, oIs_b, oIsNot_b, isNon_n, isNon_b, isNon_i, isNon_s, isNon_t, isNon_l, isNon_h, oIx_t, oIx_l, oIx_s, oLen_t, oLen_l, oLen_s, oLen_str, oAbs_i, oTuple_l, oTuple_t, oSl_t, oSl_l, oInt_i, oInt_b, compGo_nil, compGo_cons, forGo_nil, forGo_cons, wipeD_nil, wipeD_cons, range_3, range_2, range_1, enumD_nil, enumD_1, enumD_2, enumD_3, zipD_nil, zipD_cons, ctOf, startD, List.map_cons, List.map_nil, List.length_cons, List.length_nil, List.cons_append, List.nil_append, List.append_nil, List.replicate, Nat.reduceAdd, Nat.reduceSub, Nat.sub_self, Nat.zero_add, List.getElem?_cons_zero, List.getElem?_cons_succ, List.getElem?_nil, List.set_cons_zero, List.set_cons_succ, ex_eq, ex_and, Option.some.injEq, exists_eq_left', exists_eq_left, exists_eq_right, D.bl.injEq, D.int.injEq, D.str.injEq, D.tup.injEq, D.lst.injEq, atI_0, atI_1, atI_2, reduceIte, zip_tt, zip_ll, ty_n, ty_b, ty_i, ty_s, ty_t, ty_l, ty_f, kit_ii, kit_ib, kit_bb, kit_bi, kit_it, kit_tt, kit_ti, kit_tb, kit_lt, kit_li, kit_st, kit_si, kit_ss, kit_nt, kit_ni, kit_fi, kit_ft, kit_is, kit_ns, kit_bt, oLen_V, Int.toNat_natCast, cut_t0, cut_t1, cut_t2, cut_f1, cut_f2, cut_f3, m2_0, m2_1, m2_2, List.take_succ_cons, List.take_zero, List.drop_succ_cons, List.drop_zero, List.take_nil, List.drop_nil, decide_true, decide_false, Bool.not_true, Bool.not_false, if_true, if_false, Bool.false_eq_true, Int.cast_ofNat_Int, Int.reduceEq, Int.reduceLT, Int.reduceLE, Int.reduceToNat, Int.reduceNeg, Nat.reduceEqDiff, decide_eq_true_eq, true_and, and_true, List.cons.injEq, and_self, Int.reduceSub, Int.reduceAdd, Int.reduceMul, *])
/-! #### FI -/
theorem szLt {n : Nat} (h : n < 16777216) : n < sizeLine := by rw [sizeLine_eq]; omega
/-- rows of length n, entries up to B -/
def Mat (n : Nat) (B : Nat) (R : List (List Int)) : Prop := R.length = n ∧ ∀ v ∈ R, v.length = n ∧ Bd B v
theorem Mat.sq {n B k : Nat} {R : List (List Int)} (h : Mat n B R) (h1 : 1 ≤ n) (h3 : n ≤ 3) (hB : B < 2 ^ k) : SqM k R :=
  ⟨by rw [h.1]; exact h1, by rw [h.1]; exact h3, fun v hv => ⟨by rw [(h.2 v hv).1, h.1], fun x hx => Sm.of k ((h.2 v hv).2 x hx) hB⟩⟩
def c__law_basis : Ct := fun ds S Q _ => ∃ (ns ts : List Int) (c : Nat) (J : Sto) (most : Nat), ds = [.scr (ns.map .int), .han 0, .int most] ∧ S = tw c ts J ∧ Tn ns ts (c + 30) ∧ 1 ≤ most ∧ most ≤ 1000000 ∧
  ∀ (n : Nat) (R : List (List Int)) (c' : Nat) (ts' : List Int) (J' : Sto), 1 ≤ n → n ≤ 3 → Mat n most R → detL R ≠ 0 → c' ≤ c + 10 → ts'.length = ns.length → Q (.tup (R.map VE)) (tw c' ts' (J ++ J'))
/-! #### FJ -/
def c__law_other : Ct := fun ds S Q _ => ∃ (ns ts : List Int) (c : Nat) (J : Sto) (n B : Nat) (R : List (List Int)), ds = [.scr (ns.map .int), .han 0, .tup (R.map VE)] ∧ S = tw c ts J ∧ Tn ns ts (c + 60) ∧ 1 ≤ n ∧ n ≤ 3 ∧ Mat n B R ∧ B ≤ 1000 ∧
  ∀ (T : List (List Int)) (c' : Nat) (ts' : List Int) (J' : Sto), Mat n (729 * B) T → SameL n R T → c' ≤ c + 25 → ts'.length = ns.length → Q (.tup (T.map VE)) (tw c' ts' (J ++ J'))
theorem Mat.len {n B : Nat} {T : List (List Int)} (h : Mat n B T) : Len n T := fun r hr => (h.2 r hr).1
theorem Mat.set {n B : Nat} {T : List (List Int)} (h : Mat n B T) {w : List Int} (hw : w.length = n ∧ Bd B w) (i : Nat) : Mat n B (T.set i w) :=
  ⟨by rw [List.length_set, h.1], fun v hv => by
    rcases List.mem_or_eq_of_mem_set hv with q | rfl
    · exact h.2 v q
    · exact hw⟩
theorem Mat.mono {n B B' : Nat} {T : List (List Int)} (h : Mat n B T) (e : B ≤ B') : Mat n B' T := ⟨h.1, fun v hv => ⟨(h.2 v hv).1, (h.2 v hv).2.mono e⟩⟩
/-! #### FL -/
local macro_rules | `(tactic| walk_at "wp") => `(tactic| try simp only [z0, z1, z2, z3, z4, z5, z6, z7, z8, z9, z10, z11, z12, z13, z14, z15, z16, z17, z18, z19, z20, z21, z22, z23, z24, z25, z26, z27, z28, z29, z30, z31, z32, z33, z34, z35, z36, z37, z38, z39, z40, z41, z42, z43, z44, z45, z46, z47, z48, z49, z50, z51, z52, z53, z54, z55, z56, z57, z58, z59, z60, z61, z62, z63, z64, z65, z66, z67, z68, z69, z70, z71, z72, z73, z74, z75, z76, z77, z78, z79, z80, z81, z82, z83, zg0, zg1, y0, y1, y2, y3, y4, y5, y6, y7, y8, y9, y10, y11, y12, y13, y14, sg0, sg1, sg2, sg3, sg4, sn0, sn1, sn2, sn3, sn4, sn5, sn6, sn7, sn8, sn9, sp1, sp4, si0, si1, si2, si3, si4, sl0, sl1, sl2, sl3, sl4, y15, y16, y17, y18, y19, y20, y21, y22, y23, y25a, y25b, y25c, wZipJ_eq, zipJ_tt, zipJ_lt, y26a, y27a, y28a, y28b, y29a, y30a, y31a, wVar, wFrz, wC, wNil, wCons, w1, w2, w3, wAp, opD, cmD, oNeg, wB, wNotT, boolW, wAndT, wOrT, wNotV, boolV, wAndV, wOrV, wIte, wNo, wSo, wSl, wTup, wLst, wThw, wLof, wCat, wRep, wIsi, wM0, wM1, wIseq, wR1, wR2, wChr, wZip_eq, wEnum, wYes, wComp, wSkip, wSeq, wExpr, wRet, wCont, wSet, wAsg, wPar, wSub, wIf, wFor, wRaise, wCall, wCall0, wTry, wIsX, wIsVE, wLofS, wFld, wSetF, wMet, wMet0, wMake, wLenO, wSrtD, wComp2, wPar3, wRev, wCallT, wSrtQ, wSrtS, wDead, wAskT, wLofR, wSub2, setO, wIsLD, seqOf_tup, seqOf_lst, seqOf_scr, lstOf_lst, lstOf_scr, lstX_lst, tupOf_tup, srcOf_tup, srcOf_lst, srcOf_scr, srcOf_han, srcOk_nil, srcOk_cons, oAdd_ii, oAdd_ss, oAdd_tt, oAdd_ll, oSub_ii, oMul_ii, oMul_ti, oMul_si, oDiv_ii, oMod_ii, oPow_ii, oNeg_i, oEq_ii, oNe_ii, oEq_ss, oNe_ss, oI_ii, oIs_n, oIsNot_n, oIs_b, oIsNot_b, isNon_n, isNon_b, isNon_i, isNon_s, isNon_t, isNon_l, isNon_h, oIx_t, oIx_l, oIx_s, oLen_t, oLen_l, oLen_s, oLen_str, oAbs_i, oTuple_l, oTuple_t, oSl_t, oSl_l, oInt_i, oInt_b, compGo_nil, compGo_cons, forGo_nil, forGo_cons, wipeD_nil, wipeD_cons, range_3, range_2, range_1, enumD_nil, enumD_1, enumD_2, enumD_3, zipD_nil, zipD_cons, oMin_ii, oRev_t, oNe_iN, oEq_iN, ctOf, startD, List.map_cons, List.map_nil, List.length_cons, List.length_nil, List.cons_append, List.nil_append, List.append_nil, List.replicate, Nat.reduceAdd, Nat.reduceSub, Nat.sub_self, Nat.zero_add, List.getElem?_cons_zero, List.getElem?_cons_succ, List.getElem?_nil, List.set_cons_zero, List.set_cons_succ, ex_eq, ex_and, Option.some.injEq, exists_eq_left', exists_eq_left, exists_eq_right, D.bl.injEq, D.int.injEq, D.str.injEq, D.tup.injEq, D.lst.injEq, D.han.injEq, O.ins.injEq, O.lst.injEq, atI_0, atI_1, atI_2, reduceIte, zip_tt, zip_ll, ty_n, ty_b, ty_i, ty_s, ty_t, ty_l, ty_f, kit_ii, kit_ib, kit_bb, kit_bi, kit_it, kit_tt, kit_ti, kit_tb, kit_lt, kit_li, kit_st, kit_si, kit_ss, kit_nt, kit_ni, kit_fi, kit_ft, kit_is, kit_ns, kit_bt, oLen_V, Int.toNat_natCast, cut_t0, cut_t1, cut_t2, cut_f1, cut_f2, cut_f3, m2_0, m2_1, m2_2, List.take_succ_cons, List.take_zero, List.drop_succ_cons, List.drop_zero, List.take_nil, List.drop_nil, decide_true, decide_false, Bool.not_true, Bool.not_false, if_true, if_false, Bool.false_eq_true, Int.cast_ofNat_Int, Int.reduceEq, Int.reduceLT, Int.reduceLE, Int.reduceToNat, Int.reduceNeg, Nat.reduceEqDiff, decide_eq_true_eq, true_and, and_true, List.cons.injEq, and_self, Int.reduceSub, Int.reduceAdd, Int.reduceMul])
local macro_rules | `(tactic| walk_at "wps") => `(tactic| simp only [z0, z1, z2, z3, z4, z5, z6, z7, z8, z9, z10, z11, z12, z13, z14, z15, z16, z17, z18, z19, z20, z21, z22, z23, z24, z25, z26, z27, z28, z29, z30, z31, z32, z33, z34, z35, z36, z37, z38, z39, z40, z41, z42, z43, z44, z45, z46, z47, z48, z49, z50, z51, z52, z53, z54, z55, z56, z57, z58, z59, z60, z61, z62, z63, z64, z65, z66, z67, z68, z69, z70, z71, z72, z73, z74, z75, z76, z77, z78, z79, z80, z81, z82, z83, zg0, zg1, y0, y1, y2, y3, y4, y5, y6, y7, y8, y9, y10, y11, y12, y13, y14, sg0, sg1, sg2, sg3, sg4, sn0, sn1, sn2, sn3, sn4, sn5, sn6, sn7, sn8, sn9, sp1, sp4, si0, si1, si2, si3, si4, sl0, sl1, sl2, sl3, sl4, y15, y16, y17, y18, y19, y20, y21, y22, y23, y25a, y25b, y25c, wZipJ_eq, zipJ_tt, zipJ_lt, y26a, y27a, y28a, y28b, y29a, y30a, y31a, wVar, wFrz, wC, wNil, wCons, w1, w2, w3, wAp, opD, cmD, oNeg, wB, wNotT, boolW, wAndT, wOrT, wNotV, boolV, wAndV, wOrV, wIte, wNo, wSo, wSl, wTup, wLst, wThw, wLof, wCat, wRep, wIsi, wM0, wM1, wIseq, wR1, wR2, wChr, wZip_eq, wEnum, wYes, wComp, wSkip, wSeq, wExpr, wRet, wCont, wSet, wAsg, wPar, wSub, wIf, wFor, wRaise, wCall, wCall0, wTry, wIsX, wIsVE, wLofS, wFld, wSetF, wMet, wMet0, wMake, wLenO, wSrtD, wComp2, wPar3, wRev, wCallT, wSrtQ, wSrtS, wDead, wAskT, wLofR, wSub2, setO, wIsLD, seqOf_tup, seqOf_lst, seqOf_scr, lstOf_lst, lstOf_scr, lstX_lst, tupOf_tup, srcOf_tup, srcOf_lst, srcOf_scr, srcOf_han, srcOk_nil, srcOk_cons, oAdd_ii, oAdd_ss, oAdd_tt, oAdd_ll, oSub_ii, oMul_ii, oMul_ti, oMul_si, oDiv_ii, oMod_ii, oPow_ii, oNeg_i, oEq_ii, oNe_ii, oEq_ss, oNe_ss, oI_ii, oIs_n, oIsNot_n, oIs_b, oIsNot_b, isNon_n, isNon_b, isNon_i, isNon_s, isNon_t, isNon_l, isNon_h, oIx_t, oIx_l, oIx_s, oLen_t, oLen_l, oLen_s, oLen_str, oAbs_i, oTuple_l, oTuple_t, oSl_t, oSl_l, oInt_i, oInt_b, compGo_nil, compGo_cons, forGo_nil, forGo_cons, wipeD_nil, wipeD_cons, range_3, range_2, range_1, enumD_nil, enumD_1, enumD_2, enumD_3, zipD_nil, zipD_cons, oMin_ii, oRev_t, oNe_iN, oEq_iN, ctOf, startD, List.map_cons, List.map_nil, List.length_cons, List.length_nil, List.cons_append, List.nil_append, List.append_nil, List.replicate, Nat.reduceAdd, Nat.reduceSub, Nat.sub_self, Nat.zero_add, List.getElem?_cons_zero, List.getElem?_cons_succ, List.getElem?_nil, List.set_cons_zero, List.set_cons_succ, ex_eq, ex_and, Option.some.injEq, exists_eq_left', exists_eq_left, exists_eq_right, D.bl.injEq, D.int.injEq, D.str.injEq, D.tup.injEq, D.lst.injEq, D.han.injEq, O.ins.injEq, O.lst.injEq, atI_0, atI_1, atI_2, reduceIte, zip_tt, zip_ll, ty_n, ty_b, ty_i, ty_s, ty_t, ty_l, ty_f, kit_ii, kit_ib, kit_bb, kit_bi, kit_it, kit_tt, kit_ti, kit_tb, kit_lt, kit_li, kit_st, kit_si, kit_ss, kit_nt, kit_ni, kit_fi, kit_ft, kit_is, kit_ns, kit_bt, oLen_V, Int.toNat_natCast, cut_t0, cut_t1, cut_t2, cut_f1, cut_f2, cut_f3, m2_0, m2_1, m2_2, List.take_succ_cons, List.take_zero, List.drop_succ_cons, List.drop_zero, List.take_nil, List.drop_nil, decide_true, decide_false, Bool.not_true, Bool.not_false, if_true, if_false, Bool.false_eq_true, Int.cast_ofNat_Int, Int.reduceEq, Int.reduceLT, Int.reduceLE, Int.reduceToNat, Int.reduceNeg, Nat.reduceEqDiff, decide_eq_true_eq, true_and, and_true, List.cons.injEq, and_self, Int.reduceSub, Int.reduceAdd, Int.reduceMul, *])
local macro_rules | `(tactic| walk_at "wpf") => `(tactic| try simp only [z0, z1, z2, z3, z4, z5, z6, z7, z8, z9, z10, z11, z12, z13, z14, z15, z16, z17, z18, z19, z20, z21, z22, z23, z24, z25, z26, z27, z28, z29, z30, z31, z32, z33, z34, z35, z36, z37, z38, z39, z40, z41, z42, z43, z44, z45, z46, z47, z48, z49, z50, z51, z52, z53, z54, z55, z56, z57, z58, z59, z60, z61, z62, z63, z64, z65, z66, z67, z68, z69, z70, z71, z72, z73, z74, z75, z76, z77, z78, z79, z80, z81, z82, z83, zg0, zg1, y0, y1, y2, y3, y4, y5, y6, y7, y8, y9, y10, y11, y12, y13, y14, sg0, sg1, sg2, sg3, sg4, sn0, sn1, sn2, sn3, sn4, sn5, sn6, sn7, sn8, sn9, sp1, sp4, si0, si1, si2, si3, si4, sl0, sl1, sl2, sl3, sl4, y15, y16, y17, y18, y19, y20, y21, y22, y23, y25a, y25b, y25c, wZipJ_eq, zipJ_tt, zipJ_lt, y26a, y27a, y28a, y28b, y29a, y30a, y31a, wVar, wFrz, wC, wNil, wCons, w1, w2, w3, wAp, opD, cmD, oNeg, wB, wNotT, boolW, wAndT, wOrT, wNotV, boolV, wAndV, wOrV, wIte, wNo, wSo, wSl, wTup, wLst, wThw, wLof, wCat, wRep, wIsi, wM0, wM1, wIseq, wR1, wR2, wChr, wZip_eq, wEnum, wYes, wComp, wSkip, wSeq, wExpr, wRet, wCont, wSet, wAsg, wPar, wSub, wIf, wFor, wRaise, wCall, wCall0, wTry, wIsX, wIsVE, wLofS, wFld, wSetF, wMet, wMet0, wMake, wLenO, wSrtD, wComp2, wPar3, wRev, wCallT, wSrtQ, wSrtS, wDead, wAskT, wLofR, wSub2, setO, wIsLD, seqOf_tup, seqOf_lst, seqOf_scr, lstOf_lst, lstOf_scr, lstX_lst, tupOf_tup, srcOf_tup, srcOf_lst, srcOf_scr, srcOf_han, srcOk_nil, srcOk_cons, oAdd_ii, oAdd_ss, oAdd_tt, oAdd_ll, oSub_ii, oMul_ii, oMul_ti, oMul_si, oDiv_ii, oMod_ii, oPow_ii, oNeg_i, oEq_ii, oNe_ii, oEq_ss, oNe_ss, oI_ii, oIs_n, oIsNot_n, oIs_b, oIsNot_b, isNon_n, isNon_b, isNon_i, isNon_s, isNon_t, isNon_l, isNon_h, oIx_t, oIx_l, oIx_s, oLen_t, oLen_l, oLen_s, oLen_str, oAbs_i, oTuple_l, oTuple_t, oSl_t, oSl_l, oInt_i, oInt_b, compGo_nil, compGo_cons, wipeD_nil, wipeD_cons, range_3, range_2, range_1, enumD_nil, enumD_1, enumD_2, enumD_3, zipD_nil, zipD_cons, oMin_ii, oRev_t, oNe_iN, oEq_iN, ctOf, startD, List.map_cons, List.map_nil, List.length_cons, List.length_nil, List.cons_append, List.nil_append, List.append_nil, List.replicate, Nat.reduceAdd, Nat.reduceSub, Nat.sub_self, Nat.zero_add, List.getElem?_cons_zero, List.getElem?_cons_succ, List.getElem?_nil, List.set_cons_zero, List.set_cons_succ, ex_eq, ex_and, Option.some.injEq, exists_eq_left', exists_eq_left, exists_eq_right, D.bl.injEq, D.int.injEq, D.str.injEq, D.tup.injEq, D.lst.injEq, D.han.injEq, O.ins.injEq, O.lst.injEq, atI_0, atI_1, atI_2, reduceIte, zip_tt, zip_ll, ty_n, ty_b, ty_i, ty_s, ty_t, ty_l, ty_f, kit_ii, kit_ib, kit_bb, kit_bi, kit_it, kit_tt, kit_ti, kit_tb, kit_lt, kit_li, kit_st, kit_si, kit_ss, kit_nt, kit_ni, kit_fi, kit_ft, kit_is, kit_ns, kit_bt, oLen_V, Int.toNat_natCast, cut_t0, cut_t1, cut_t2, cut_f1, cut_f2, cut_f3, m2_0, m2_1, m2_2, List.take_succ_cons, List.take_zero, List.drop_succ_cons, List.drop_zero, List.take_nil, List.drop_nil, decide_true, decide_false, Bool.not_true, Bool.not_false, if_true, if_false, Bool.false_eq_true, Int.cast_ofNat_Int, Int.reduceEq, Int.reduceLT, Int.reduceLE, Int.reduceToNat, Int.reduceNeg, Nat.reduceEqDiff, decide_eq_true_eq, true_and, and_true, List.cons.injEq, and_self, Int.reduceSub, Int.reduceAdd, Int.reduceMul])
local macro_rules | `(tactic| walk_at "wpe") => `(tactic| simp only [z0, z1, z2, z3, z4, z5, z6, z7, z8, z9, z10, z11, z12, z13, z14, z15, z16, z17, z18, z19, z20, z21, z22, z23, z24, z25, z26, z27, z28, z29, z30, z31, z32, z33, z34, z35, z36, z37, z38, z39, z40, z41, z42, z43, z44, z45, z46, z47, z48, z49, z50, z51, z52, z53, z54, z55, z56, z57, z58, z59, z60, z61, z62, z63, z64, z65, z66, z67, z68, z69, z70, z71, z72, z73, z74, z75, z76, z77, z78, z79, z80, z81, z82, z83, zg0, zg1, y0, y1, y2, y3, y4, y5, y6, y7, y8, y9, y10, y11, y12, y13, y14, sg0, sg1, sg2, sg3, sg4, sn0, sn1, sn2, sn3, sn4, sn5, sn6, sn7, sn8, sn9, sp1, sp4, si0, si1, si2, si3, si4, sl0, sl1, sl2, sl3, sl4, y15, y16, y17, y18, y19, y20, y21, y22, y23, y25a, y25b, y25c, wZipJ_eq, zipJ_tt, zipJ_lt, y26a, y27a, y28a, y28b, y29a, y30a, y31a, wVar, wFrz, wC, wNil, wCons, w1, w2, w3, wAp, opD, cmD, oNeg, wB, wNotT, boolW, wAndT, wOrT, wNotV, boolV, wAndV, wOrV, wIte, wNo, wSo, wSl, wTup, wLst, wThw, wLof, wCat, wRep, wIsi, wM0, wM1, wIseq, wR1, wR2, wChr, wZip_eq, wEnum, wYes, wComp, wSkip, wSeq, wExpr, wRet, wCont, wSet, wAsg, wPar, wSub, wIf, wFor, wRaise, wCall, wCall0, wTry, wIsX, wIsVE, wLofS, wFld, wSetF, wMet, wMet0, wMake, wLenO, wSrtD, wComp2, wPar3, wRev, wCallT, wSrtQ, wSrtS, wDead, wAskT, wLofR, wSub2, setO, wIsLD, seqOf_tup, seqOf_lst, seqOf_scr, lstOf_lst, lstOf_scr, lstX_lst, tupOf_tup, srcOf_tup, srcOf_lst, srcOf_scr, srcOf_han, srcOk_nil, srcOk_cons, oAdd_ii, oAdd_ss, oAdd_tt, oAdd_ll, oSub_ii, oMul_ii, oMul_ti, oMul_si, oDiv_ii, oMod_ii, oPow_ii, oNeg_i, oEq_ii, oNe_ii, oEq_ss, oNe_ss, oI_ii, oIs_n, oIsNot_n, oIs_b, oIsNot_b, isNon_n, isNon_b, isNon_i, isNon_s, isNon_t, isNon_l, isNon_h, oIx_t, oIx_l, oIx_s, oLen_t, oLen_l, oLen_s, oLen_str, oAbs_i, oTuple_l, oTuple_t, oSl_t, oSl_l, oInt_i, oInt_b, compGo_nil, compGo_cons, wipeD_nil, wipeD_cons, range_3, range_2, range_1, enumD_nil, enumD_1, enumD_2, enumD_3, zipD_nil, zipD_cons, oMin_ii, oRev_t, oNe_iN, oEq_iN, ctOf, startD, List.map_cons, List.map_nil, List.length_cons, List.length_nil, List.cons_append, List.nil_append, List.append_nil, List.replicate, Nat.reduceAdd, Nat.reduceSub, Nat.sub_self, Nat.zero_add, List.getElem?_cons_zero, List.getElem?_cons_succ, List.getElem?_nil, List.set_cons_zero, List.set_cons_succ, ex_eq, ex_and, Option.some.injEq, exists_eq_left', exists_eq_left, exists_eq_right, D.bl.injEq, D.int.injEq, D.str.injEq, D.tup.injEq, D.lst.injEq, D.han.injEq, O.ins.injEq, O.lst.injEq, atI_0, atI_1, atI_2, reduceIte, zip_tt, zip_ll, ty_n, ty_b, ty_i, ty_s, ty_t, ty_l, ty_f, kit_ii, kit_ib, kit_bb, kit_bi, kit_it, kit_tt, kit_ti, kit_tb, kit_lt, kit_li, kit_st, kit_si, kit_ss, kit_nt, kit_ni, kit_fi, kit_ft, kit_is, kit_ns, kit_bt, oLen_V, Int.toNat_natCast, cut_t0, cut_t1, cut_t2, cut_f1, cut_f2, cut_f3, m2_0, m2_1, m2_2, List.take_succ_cons, List.take_zero, List.drop_succ_cons, List.drop_zero, List.take_nil, List.drop_nil, decide_true, decide_false, Bool.not_true, Bool.not_false, if_true, if_false, Bool.false_eq_true, Int.cast_ofNat_Int, Int.reduceEq, Int.reduceLT, Int.reduceLE, Int.reduceToNat, Int.reduceNeg, Nat.reduceEqDiff, decide_eq_true_eq, true_and, and_true, List.cons.injEq, and_self, Int.reduceSub, Int.reduceAdd, Int.reduceMul])
local macro_rules | `(tactic| walk_at "wpc") => `(tactic| try simp only [z0, z1, z2, z3, z4, z5, z6, z7, z8, z9, z10, z11, z12, z13, z14, z15, z16, z17, z18, z19, z20, z21, z22, z23, z24, z25, z26, z27, z28, z29, z30, z31, z32, z33, z34, z35, z36, z37, z38, z39, z40, z41, z42, z43, z44, z45, z46, z47, z48, z49, z50, z51, z52, z53, z54, z55, z56, z57, z58, z59, z60, z61, z62, z63, z64, z65, z66, z67, z68, z69, z70, z71, z72, z73, z74, z75, z76, z77, z78, z79, z80, z81, z82, z83, zg0, zg1, y0, y1, y2, y3, y4, y5, y6, y7, y8, y9, y10, y11, y12, y13, y14, sg0, sg1, sg2, sg3, sg4, sn0, sn1, sn2, sn3, sn4, sn5, sn6, sn7, sn8, sn9, sp1, sp4, si0, si1, si2, si3, si4, sl0, sl1, sl2, sl3, sl4, y15, y16, y17, y18, y19, y20, y21, y22, y23, y25a, y25b, y25c, wZipJ_eq, zipJ_tt, zipJ_lt, y26a, y27a, y28a, y28b, y29a, y30a, y31a, wVar, wFrz, wC, wNil, wCons, w1, w2, w3, wAp, opD, cmD, oNeg, wB, wNotT, boolW, wAndT, wOrT, wNotV, boolV, wAndV, wOrV, wIte, wNo, wSo, wSl, wTup, wLst, wThw, wLof, wCat, wRep, wIsi, wM0, wM1, wIseq, wR1, wR2, wChr, wZip_eq, wEnum, wYes, wComp, wSkip, wSeq, wExpr, wRet, wCont, wSet, wAsg, wPar, wSub, wIf, wFor, wRaise, wCall, wCall0, wTry, wIsX, wIsVE, wLofS, wFld, wSetF, wMet, wMet0, wMake, wLenO, wSrtD, wComp2, wPar3, wRev, wCallT, wSrtQ, wSrtS, wDead, wAskT, wLofR, wSub2, setO, wIsLD, seqOf_tup, seqOf_lst, seqOf_scr, lstOf_lst, lstOf_scr, lstX_lst, tupOf_tup, srcOf_tup, srcOf_lst, srcOf_scr, srcOf_han, srcOk_nil, srcOk_cons, oAdd_ii, oAdd_ss, oAdd_tt, oAdd_ll, oSub_ii, oMul_ii, oMul_ti, oMul_si, oDiv_ii, oMod_ii, oPow_ii, oNeg_i, oEq_ii, oNe_ii, oEq_ss, oNe_ss, oI_ii, oIs_n, oIsNot_n, oIs_b, oIsNot_b, isNon_n, isNon_b, isNon_i, isNon_s, isNon_t, isNon_l, isNon_h, oIx_t, oIx_l, oIx_s, oLen_t, oLen_l, oLen_s, oLen_str, oAbs_i, oTuple_l, oTuple_t, oSl_t, oSl_l, oInt_i, oInt_b, wipeD_nil, wipeD_cons, range_3, range_2, range_1, enumD_nil, enumD_1, enumD_2, enumD_3, zipD_nil, zipD_cons, oMin_ii, oRev_t, oNe_iN, oEq_iN, ctOf, startD, List.map_cons, List.map_nil, List.length_cons, List.length_nil, List.cons_append, List.nil_append, List.append_nil, List.replicate, Nat.reduceAdd, Nat.reduceSub, Nat.sub_self, Nat.zero_add, List.getElem?_cons_zero, List.getElem?_cons_succ, List.getElem?_nil, List.set_cons_zero, List.set_cons_succ, ex_eq, ex_and, Option.some.injEq, exists_eq_left', exists_eq_left, exists_eq_right, D.bl.injEq, D.int.injEq, D.str.injEq, D.tup.injEq, D.lst.injEq, D.han.injEq, O.ins.injEq, O.lst.injEq, atI_0, atI_1, atI_2, reduceIte, zip_tt, zip_ll, ty_n, ty_b, ty_i, ty_s, ty_t, ty_l, ty_f, kit_ii, kit_ib, kit_bb, kit_bi, kit_it, kit_tt, kit_ti, kit_tb, kit_lt, kit_li, kit_st, kit_si, kit_ss, kit_nt, kit_ni, kit_fi, kit_ft, kit_is, kit_ns, kit_bt, oLen_V, Int.toNat_natCast, cut_t0, cut_t1, cut_t2, cut_f1, cut_f2, cut_f3, m2_0, m2_1, m2_2, List.take_succ_cons, List.take_zero, List.drop_succ_cons, List.drop_zero, List.take_nil, List.drop_nil, decide_true, decide_false, Bool.not_true, Bool.not_false, if_true, if_false, Bool.false_eq_true, Int.cast_ofNat_Int, Int.reduceEq, Int.reduceLT, Int.reduceLE, Int.reduceToNat, Int.reduceNeg, Nat.reduceEqDiff, decide_eq_true_eq, true_and, and_true, List.cons.injEq, and_self, Int.reduceSub, Int.reduceAdd, Int.reduceMul])
/-! ### numbers -/
def isFr : D → Bool
  | .tup [.int a, .int b] => decide (0 < b) && decide (Int.gcd a b = 1)
  | _ => false
/-! ### vectors -/
def c_check_vector : Ct := fun ds S Q X => ∃ (n : Int) (d : D), ds = [.int n, d] ∧ okVecD d ∧ if isVD n d = true then Q .non S else X "InvalidVector" S
/-- check_vector -/
def N_check_vector : List Str := ["n", "value"]
def b_check_vector : DB := (DB.cons (DS.iff (DT.not (DT.val (DE.call "is_vector" c_is_vector (DA.cons (DE.var 0) (DA.cons (DE.var 1) DA.nil))))) (DB.cons (DS.raise "InvalidVector")
  DB.nil) DB.nil)
  DB.nil)
theorem w_check_vector {ds : List D} {S : Sto} {Q : QD} {X : XD} (h : c_check_vector ds S Q X) : ctOf N_check_vector.length b_check_vector ds S Q X := by
  obtain ⟨n, d, rfl, hl, h⟩ := h
  unfold b_check_vector N_check_vector
  walk_at "wp"
  refine ⟨n, d, rfl, hl, ?_⟩
  walk_at "wp"
  by_cases e : isVD n d = true
  · simpa [e] using h
  · simpa [e] using h
theorem isV_ok {n : Nat} {v : List Int} (h : isV n v = true) : VecOk 20 n v := by
  simp only [isV, Bool.and_eq_true, decide_eq_true_eq, List.all_eq_true] at h
  exact ⟨by omega, fun x hx => lim_sm (lim_iff.mp (h.2 x hx))⟩
theorem VecOk.mono {j k n : Nat} {v : List Int} (h : VecOk j n v) (e : j ≤ k) : VecOk k n v := ⟨h.1, fun x hx => (h.2 x hx).mono e⟩
/-! ### the dual rows -/
/-! #### FM -/
theorem Bas.sqr {R : List (List Int)} (h : Bas R) : Sqr R.length R := ⟨h.1, h.2.1, rfl, fun v hv => (h.2.2.1 v hv).1⟩
def FrOk (n : Nat) (fs : List (Int × Int)) : Prop := fs.length = n ∧ ∀ p ∈ fs, 0 < p.2 ∧ Sm 100 p.1 ∧ Sm 100 p.2
def toFr : D → Int × Int
  | .tup [.int a, .int b] => (a, b)
  | _ => (0, 1)
def isT (R : List (List Int)) (v : List Int) : D → Bool
  | .tup ds => decide (ds.length = R.length) && ds.all isFr && R.all (fun u => decide (WP (ds.map toFr) u)) && !decide (WP (ds.map toFr) v)
  | _ => false
/-! #### FN -/
theorem Mat.sqr {n B : Nat} {R : List (List Int)} (h : Mat n B R) (h1 : 1 ≤ n) (h3 : n ≤ 3) : Sqr n R := ⟨h1, h3, h.1, h.len⟩
theorem Mat.bas {n B : Nat} {R : List (List Int)} (h : Mat n B R) (h1 : 1 ≤ n) (h3 : n ≤ 3) (hB : B ≤ 1000000) (hd : detL R ≠ 0) : Bas R :=
  ⟨by rw [h.1]; exact h1, by rw [h.1]; exact h3, fun v hv => ⟨by rw [(h.2 v hv).1, h.1], fun x hx => Nat.le_trans ((h.2 v hv).2 x hx) hB⟩, hd⟩
/-! ### the town, with some draws left -/
def Tw (ns : List Int) (k : Nat) (S : Sto) : Prop := ∃ (c : Nat) (ts : List Int) (J : Sto), S = tw c ts J ∧ ns.length ≤ 63 ∧ ts.length = ns.length ∧ c + k < 1000000
theorem Tw.draw {ns : List Int} {k : Nat} {S : Sto} {limit : Int} {Q : QD} {X : XD} (t : Tw ns (k + 1) S) (h0 : 0 < limit) (hl : limit ≤ 1000000000) (q : ∀ (r : Int) (S' : Sto), 0 ≤ r → r < limit → Tw ns k S' → Q (.int r) S') : c__law_draw [.scr (ns.map .int), .han 0, .int limit] S Q X := by
  obtain ⟨c, ts, J, rfl, a, b, e⟩ := t
  exact draw_call ⟨a, b, by omega⟩ h0 hl fun r ts' r0 r1 h => q r _ r0 r1 ⟨c + 1, ts', J, rfl, a, h, by omega⟩
theorem Tw.gr {ns : List Int} {k : Nat} {S S' : Sto} (t : Tw ns k S) (g : Gr S S') : Tw ns k S' := by
  obtain ⟨c, ts, J, rfl, a, b, e⟩ := t
  obtain ⟨K, rfl⟩ := g
  exact ⟨c, ts, J ++ K, rfl, a, b, e⟩
theorem Tw.mono {ns : List Int} {k j : Nat} {S : Sto} (t : Tw ns k S) (h : j ≤ k) : Tw ns j S := by
  obtain ⟨c, ts, J, rfl, a, b, e⟩ := t
  exact ⟨c, ts, J, rfl, a, b, by omega⟩
theorem Tw.town {ns : List Int} {Q : QD} {X : XD} (hl : ns.length ≤ 63) (q : ∀ S, Tw ns 999999 S → Q (.han 0) S) : c__law_town [.scr (ns.map .int)] [] Q X :=
  ⟨ns, rfl, hl, rfl, q _ ⟨0, ns, [], rfl, hl, rfl, by omega⟩⟩
theorem Tw.basis {ns : List Int} {k : Nat} {S : Sto} {most : Nat} {Q : QD} {X : XD} (t : Tw ns (k + 31) S) (h0 : 1 ≤ most) (hl : most ≤ 1000000) (q : ∀ (n : Nat) (R : List (List Int)) (S' : Sto), 1 ≤ n → n ≤ 3 → Mat n most R → detL R ≠ 0 → Tw ns k S' → Q (.tup (R.map VE)) S') : c__law_basis [.scr (ns.map .int), .han 0, .int most] S Q X := by
  obtain ⟨c, ts, J, rfl, a, b, e⟩ := t
  exact ⟨ns, ts, c, J, most, rfl, rfl, ⟨a, b, by omega⟩, h0, hl, fun n R c2 ts2 J2 n1 n3 M hd hc hts => q n R _ n1 n3 M hd ⟨c2, ts2, _, rfl, a, hts, by omega⟩⟩
theorem Tw.other {ns : List Int} {k : Nat} {S : Sto} {n B : Nat} {R : List (List Int)} {Q : QD} {X : XD} (t : Tw ns (k + 61) S) (hn1 : 1 ≤ n) (hn3 : n ≤ 3) (hM : Mat n B R) (hB : B ≤ 1000) (q : ∀ (T : List (List Int)) (S' : Sto), Mat n (729 * B) T → SameL n R T → Tw ns k S' → Q (.tup (T.map VE)) S') : c__law_other [.scr (ns.map .int), .han 0, .tup (R.map VE)] S Q X := by
  obtain ⟨c, ts, J, rfl, a, b, e⟩ := t
  exact ⟨ns, ts, c, J, n, B, R, rfl, rfl, ⟨a, b, by omega⟩, hn1, hn3, hM, hB, fun T c2 ts2 J2 M hs hc hts => q T _ M hs ⟨c2, ts2, _, rfl, a, hts, by omega⟩⟩
inductive All2 {α β : Type} (P : α → β → Prop) : List α → List β → Prop
  | nil : All2 P [] []
  | cons {a : α} {b : β} {l : List α} {m : List β} : P a b → All2 P l m → All2 P (a :: l) (b :: m)
theorem All2.len {α β : Type} {P : α → β → Prop} {l : List α} {m : List β} (h : All2 P l m) : m.length = l.length := by
  induction h with
  | nil => rfl
  | cons _ _ ih => simp [ih]
theorem All2.mem {α β : Type} {P : α → β → Prop} {l : List α} {m : List β} (h : All2 P l m) : ∀ b ∈ m, ∃ a ∈ l, P a b := by
  induction h with
  | nil => simp
  | cons p _ ih =>
    intro b hb
    rcases List.mem_cons.mp hb with rfl | hb
    · exact ⟨_, List.mem_cons_self, p⟩
    · obtain ⟨a, ha, q⟩ := ih b hb
      exact ⟨a, List.mem_cons_of_mem _ ha, q⟩
/-! ### the law's own judges -/
theorem FrOk.ne {n : Nat} {fs : List (Int × Int)} (h : FrOk n fs) : ∀ p ∈ fs, p.2 ≠ 0 := fun p hp => by have := (h.2 p hp).1; omega
theorem lstX_last (T : Sto) (l : List D) : lstX (T ++ [.lst l]) (.han T.length) = some l := by
  unfold lstX
  simp
theorem Bd.vec {n : Nat} {v : List Int} {B k : Nat} (hl : v.length = n) (h : Bd B v) (hk : B < 2 ^ k) : VecOk k n v := ⟨hl, fun x hx => Sm.of k (h x hx) hk⟩
/-! #### MI -/
/-! products, the dual grid -/
theorem dot_nil (v : List Int) : dot [] v = 0 := rfl
theorem dot_cons (a b : Int) (u v : List Int) : dot (a :: u) (b :: v) = a * b + dot u v := by simp [dot]
theorem dot_nil_r (u : List Int) : dot u [] = 0 := by simp [dot]
theorem dot_comm : ∀ (u v : List Int), dot u v = dot v u
  | [], v => by rw [dot_nil, dot_nil_r]
  | a :: u, [] => by rw [dot_nil, dot_nil_r]
  | a :: u, b :: v => by rw [dot_cons, dot_cons, dot_comm u v, Int.mul_comm]
theorem plusV_cons (a b k : Int) (u v : List Int) : plusV (a :: u) k (b :: v) = (a + k * b) :: plusV u k v := rfl
theorem dot_plus : ∀ (b u v : List Int) (k : Int), u.length = v.length → dot b (plusV u k v) = dot b u + k * dot b v
  | [], u, v, k, _ => by simp [dot_nil]
  | b :: bs, [], [], k, _ => by simp [plusV, dot_nil_r]
  | b :: bs, x :: u, y :: v, k, h => by
    rw [plusV_cons, dot_cons, dot_cons, dot_cons, dot_plus bs u v k (by simpa using h)]
    grind
theorem mem_row {R : List (List Int)} {r : List Int} : r ∈ R ↔ ∃ i, i < R.length ∧ r = row R i := by
  constructor
  · intro h
    obtain ⟨i, hi, rfl⟩ := List.getElem_of_mem h
    exact ⟨i, hi, (row_lt hi).symm⟩
  · rintro ⟨i, hi, rfl⟩
    rw [row_lt hi]; exact List.getElem_mem hi
/-! #### MJ -/
/-! counting classes -/
theorem sub_len {α : Type} [DecidableEq α] : ∀ {X Y : List α}, X.Nodup → (∀ x ∈ X, x ∈ Y) → X.length ≤ Y.length
  | [], _, _, _ => Nat.zero_le _
  | x :: X, Y, hn, h => by
    have hx := h x List.mem_cons_self
    rw [List.nodup_cons] at hn
    have := sub_len (X := X) (Y := Y.erase x) hn.2 (fun y hy => by
      have ne : y ≠ x := fun e => hn.1 (e ▸ hy)
      exact (List.mem_erase_of_ne ne).mpr (h y (List.mem_cons_of_mem _ hy)))
    rw [List.length_erase_of_mem hx] at this
    have : 0 < Y.length := List.length_pos_of_mem hx
    rw [List.length_cons]
    omega
theorem nodup_map {α β : Type} {f : α → β} {X : List α} (hn : X.Nodup) (hi : ∀ a ∈ X, ∀ b ∈ X, f a = f b → a = b) : (X.map f).Nodup := by
  unfold List.Nodup at *
  rw [List.pairwise_map]
  exact hn.imp_of_mem fun ha hb hne e => hne (hi _ ha _ hb e)
theorem len_fm {α β γ : Type} (f : α → β → γ) (Y : List β) : ∀ X : List α, (X.flatMap fun a => Y.map (f a)).length = X.length * Y.length
  | [] => by simp
  | x :: X => by rw [List.flatMap_cons, List.length_append, len_fm f Y X, List.length_map, List.length_cons, Nat.add_mul]; omega
/-- all vectors with entries from 0 to below the given ones -/
def bx : List Nat → List (List Int)
  | [] => [[]]
  | p :: ps => (List.range p).flatMap fun (a : Nat) => (bx ps).map fun v => (a : Int) :: v
theorem bx_mem : ∀ (ps : List Nat) (v : List Int), v ∈ bx ps ↔ v.length = ps.length ∧ ∀ i, i < ps.length → 0 ≤ gt v i ∧ gt v i < ps.getD i 0
  | [], v => by
    simp only [bx, List.mem_singleton, List.length_nil, Nat.not_lt_zero, false_imp_iff, implies_true, and_true]
    exact List.length_eq_zero_iff.symm
  | p :: ps, [] => by
    simp [bx]
  | p :: ps, x :: v => by
    simp only [bx, List.mem_flatMap, List.mem_range, List.mem_map, List.cons.injEq, List.length_cons, Nat.add_right_cancel_iff]
    constructor
    · rintro ⟨a, ha, w, hw, rfl, rfl⟩
      obtain ⟨l, h⟩ := (bx_mem ps w).mp hw
      refine ⟨l, fun i hi => ?_⟩
      cases i with
      | zero => simp [gt]; omega
      | succ i => simpa [gt] using h i (by omega)
    · rintro ⟨l, h⟩
      have h0 := h 0 (by omega)
      simp [gt] at h0
      refine ⟨x.toNat, by omega, v, (bx_mem ps v).mpr ⟨l, fun i hi => ?_⟩, by omega, rfl⟩
      simpa [gt] using h (i + 1) (by omega)
def pv (F : List (List Int)) : List Nat := (List.range F.length).map fun i => (gt (row F i) i).toNat
theorem box_mem {n : Nat} {F : List (List Int)} (hF : Sqr n F) (h : NFs F) (v : List Int) : v ∈ bx (pv F) ↔ v.length = n ∧ ∀ i, i < n → 0 ≤ gt v i ∧ gt v i < gt (row F i) i := by
  have lF := hF.2.2.1
  rw [bx_mem]
  have lp : (pv F).length = n := by simp [pv, lF]
  rw [lp]
  refine and_congr_right fun _ => forall_congr' fun i => forall_congr' fun hi => ?_
  have e : (pv F).getD i 0 = (gt (row F i) i).toNat := by simp [pv, lF, hi]
  have := (h i (by omega)).2.1
  rw [e]
  omega
/-! the rest of a vector by a normal form -/
def rstep (F : List (List Int)) (w : List Int) (p : Nat) : List Int := plusV w (-((gt w p).fdiv (gt (row F p) p))) (row F p)
def restV (F : List (List Int)) (v : List Int) : List Int := (List.range F.length).foldl (rstep F) v
def sub (v w : List Int) : List Int := plusV v (-1) w
theorem sub_gt {v w : List Int} (h : v.length = w.length) (i : Nat) : gt (sub v w) i = gt v i - gt w i := by
  unfold sub; rw [gt_plus h]; omega
theorem sub_length {v w : List Int} (h : v.length = w.length) : (sub v w).length = v.length := plus_len h
theorem rest_go {n : Nat} {F : List (List Int)} (hF : Sqr n F) (h : NFs F) {v : List Int} (hv : v.length = n) : ∀ p, p ≤ n →
    ((List.range p).foldl (rstep F) v).length = n ∧ (∀ i, i < p → 0 ≤ gt ((List.range p).foldl (rstep F) v) i ∧ gt ((List.range p).foldl (rstep F) v) i < gt (row F i) i) ∧ Lat n F (sub v ((List.range p).foldl (rstep F) v))
  | 0, _ => by
    refine ⟨hv, fun i hi => by omega, ?_⟩
    have : sub v v = List.replicate n 0 := by
      apply ext_gt (by rw [sub_length rfl]; simpa using hv)
      intro i _
      rw [sub_gt rfl, gt_zero]; omega
    show Lat n F (sub v v)
    rw [this]; exact .zero
  | p + 1, hp => by
    obtain ⟨l, r, m⟩ := rest_go hF h hv p (by omega)
    have lF := hF.2.2.1
    rw [List.range_succ, List.foldl_append, List.foldl_cons, List.foldl_nil]
    revert l r m
    generalize (List.range p).foldl (rstep F) v = w
    intro l r m
    have hrow : row F p ∈ F := mem_row.mpr ⟨p, by omega, rfl⟩
    have lr := hF.2.2.2 _ hrow
    obtain ⟨z, pos, _⟩ := h p (by omega)
    have eg : ∀ i, gt (rstep F w p) i = gt w i + -((gt w p).fdiv (gt (row F p) p)) * gt (row F p) i := fun i => by
      unfold rstep; rw [gt_plus (by omega)]
    have ll : (rstep F w p).length = n := by unfold rstep; rw [plus_len (by omega), l]
    refine ⟨ll, fun i hi => ?_, ?_⟩
    · rw [eg]
      by_cases e : i = p
      · subst e
        have f := fm_pos (gt w i) pos
        have := Int.mul_fdiv_add_fmod (gt w i) (gt (row F i) i)
        have e2 : gt w i + -((gt w i).fdiv (gt (row F i) i)) * gt (row F i) i = (gt w i).fmod (gt (row F i) i) := by grind
        rw [e2]; exact f
      · rw [z i (by omega)]
        have := r i (by omega)
        omega
    · have : sub v (rstep F w p) = plusV (sub v w) ((gt w p).fdiv (gt (row F p) p)) (row F p) := by
        have l1 : (sub v w).length = n := by rw [sub_length (by omega), hv]
        apply ext_gt
        · rw [sub_length (by omega), plus_len (by omega), l1, hv]
        · intro i _
          rw [sub_gt (by omega), gt_plus (by omega), sub_gt (by omega), eg]
          grind
      rw [this]
      exact .add _ m hrow
theorem rest_spec {n : Nat} {F : List (List Int)} (hF : Sqr n F) (h : NFs F) {v : List Int} (hv : v.length = n) : restV F v ∈ bx (pv F) ∧ Lat n F (sub v (restV F v)) := by
  have := rest_go hF h hv n (Nat.le_refl _)
  unfold restV
  rw [hF.2.2.1]
  exact ⟨(box_mem hF h _).mpr ⟨this.1, this.2.1⟩, this.2.2⟩
/-- a normal form of full dimension -/
structure NFull (n : Nat) (R F : List (List Int)) : Prop where
  len : Len n R
  nf : IsNF n R F
  sq : Sqr n F
  sh : NFs F
theorem NFull.same {n : Nat} {R F : List (List Int)} (h : NFull n R F) : SameL n R F := nf_same h.len h.nf
theorem NFull.rest {n : Nat} {R F : List (List Int)} (h : NFull n R F) {v : List Int} (hv : v.length = n) : restV F v ∈ bx (pv F) ∧ Lat n R (sub v (restV F v)) :=
  ⟨(rest_spec h.sq h.sh hv).1, (h.same _).mpr (rest_spec h.sq h.sh hv).2⟩
/-! #### MK -/
/-! each grid has a normal form -/
/-! the grid of all vectors in both -/
section
variable {n : Nat} {R T B : List (List Int)} (hR : Sqr n R) (hT : Sqr n T) (d1 : detL R ≠ 0) (d2 : detL T ≠ 0)
end
/-! #### ML -/
/-! the scaled dual -/
section
variable {n : Nat} {R : List (List Int)} (hR : Sqr n R) (hd : detL R ≠ 0)
end
/-! #### MM -/
/-! Is a vector generated by rows in normal form? -/
/-- the place of the first entry that is not 0 -/
def lead : List Int → Nat
  | [] => 0
  | x :: r => if x ≠ 0 then 0 else lead r + 1
theorem lead_at : ∀ {v : List Int} {p : Nat}, zb p v → gt v p ≠ 0 → lead v = p
  | [], p, _, h => absurd (gt_ge (Nat.zero_le _)) h
  | x :: r, 0, _, h => by
    have : x ≠ 0 := h
    simp [lead, this]
  | x :: r, p + 1, z, h => by
    have h0 : x = 0 := z 0 (Nat.succ_pos _)
    have zr : zb p r := fun i hi => z (i + 1) (Nat.succ_lt_succ hi)
    have := lead_at zr (show gt r p ≠ 0 from h)
    simp [lead, h0, this]
def redStep (v f : List Int) : List Int := plusV v (-(gt v (lead f)).fdiv (gt f (lead f))) f
def redV (F : List (List Int)) (v : List Int) : List Int := F.foldl redStep v
theorem redStep_len {v f : List Int} (h : v.length = f.length) : (redStep v f).length = v.length := plus_len h
theorem redV_len {n : Nat} : ∀ {F : List (List Int)} {v : List Int}, Len n F → v.length = n → (redV F v).length = n
  | [], v, _, h => h
  | f :: F, v, hF, h => by
    have hf := hF f (by simp)
    exact redV_len (F := F) (v := redStep v f) (fun r hr => hF r (List.mem_cons_of_mem _ hr)) (by rw [redStep_len (by omega), h])
theorem plus_back {n : Nat} {v f : List Int} (hv : v.length = n) (hf : f.length = n) (k : Int) : plusV (plusV v k f) (-k) f = v := by
  have l1 : (plusV v k f).length = n := by rw [plus_len (by omega), hv]
  apply ext_gt
  · rw [plus_len (by omega), l1, hv]
  · intro i _
    rw [gt_plus (by omega), gt_plus (by omega)]
    rw [Int.neg_mul]; omega
theorem gen_lat {n : Nat} {R : List (List Int)} (hR : Len n R) : ∀ {F : List (List Int)} {v : List Int}, (∀ f ∈ F, Lat n R f) → v.length = n → (Lat n R (redV F v) ↔ Lat n R v)
  | [], v, _, _ => Iff.rfl
  | f :: F, v, hF, hv => by
    have lf := hF f (by simp)
    have hf : f.length = n := lf.len hR
    have step : (redStep v f).length = n := by rw [redStep_len (by omega), hv]
    refine (gen_lat hR (F := F) (v := redStep v f) (fun r hr => hF r (List.mem_cons_of_mem _ hr)) step).trans ⟨fun h => ?_, fun h => ?_⟩
    · have := Lat.comb hR h (-(-(gt v (lead f)).fdiv (gt f (lead f)))) lf
      unfold redStep at this
      rwa [plus_back hv hf] at this
    · exact Lat.comb hR h _ lf
theorem rowsOf_suc (p : Nat) (g : Nat → Option (List Int)) : rowsOf (p + 1) g = rowsOf p g ++ (g p).toList := by
  unfold rowsOf
  rw [List.range_succ, List.filterMap_append]
  cases h : g p <;> simp [h]
theorem redV_app (F G : List (List Int)) (v : List Int) : redV (F ++ G) v = redV G (redV F v) := List.foldl_append
theorem gen_zb {n : Nat} {R : List (List Int)} (hR : Len n R) {g : Nat → Option (List Int)} (hg : EchP n n (Lat n R) g) {v : List Int} (hv : Lat n R v) : ∀ p, p ≤ n → Lat n R (redV (rowsOf p g) v) ∧ zb p (redV (rowsOf p g) v)
  | 0, _ => ⟨hv, fun i hi => absurd hi (Nat.not_lt_zero _)⟩
  | p + 1, hp => by
    obtain ⟨lw, zw⟩ := gen_zb hR hg hv p (by omega)
    obtain ⟨g0, g1⟩ := hg p (by omega)
    rw [rowsOf_suc, redV_app]
    generalize redV (rowsOf p g) v = w at lw zw
    cases e : g p with
    | none =>
      refine ⟨lw, fun i hi => ?_⟩
      rcases Nat.lt_succ_iff_lt_or_eq.mp hi with q | q
      · exact zw i q
      · rw [q]; exact g0 e w lw zw
    | some f =>
      obtain ⟨lf, hf, zf, pf, dv, _⟩ := g1 f e
      have hw := lw.len hR
      have ld : lead f = p := lead_at zf (by omega)
      show Lat n R (redStep w f) ∧ zb (p + 1) (redStep w f)
      refine ⟨Lat.comb hR lw _ lf, fun i hi => ?_⟩
      unfold redStep
      rw [gt_plus (by omega), ld]
      rcases Nat.lt_succ_iff_lt_or_eq.mp hi with q | q
      · rw [zw i q, zf i q]; simp
      · subst q
        obtain ⟨c, hc⟩ := dv w lw zw
        rw [hc, Int.mul_fdiv_cancel_left _ (by omega)]
        rw [Int.neg_mul, Int.mul_comm c]; omega
/-- a vector is in the grid just if it is reduced to 0 -/
theorem gen_iff {n : Nat} {R F : List (List Int)} (hR : Len n R) (h : IsNF n R F) {v : List Int} (hv : v.length = n) : (redV F v).all (· == 0) = true ↔ Lat n R v := by
  obtain ⟨g, rfl, hg⟩ := h
  have hF : ∀ f ∈ rowsOf n g, Lat n R f := fun f hf => by
    obtain ⟨q, hq, e⟩ := List.mem_filterMap.mp hf
    exact ((hg q (List.mem_range.mp hq)).2 f e).1
  have hl : (redV (rowsOf n g) v).length = n := redV_len (fun f hf => (hF f hf).len hR) hv
  constructor
  · intro z
    refine (gen_lat hR hF hv).mp ?_
    have : redV (rowsOf n g) v = List.replicate n 0 := by
      refine List.eq_replicate_iff.mpr ⟨hl, fun x hx => ?_⟩
      simpa using List.all_eq_true.mp z x hx
    rw [this]; exact .zero
  · intro z
    obtain ⟨_, zb'⟩ := gen_zb hR hg z n (Nat.le_refl _)
    rw [List.all_eq_true]
    intro x hx
    obtain ⟨i, hi, e⟩ := List.getElem_of_mem hx
    have := zb' i (by omega)
    rw [gt_lt hi, e] at this
    simpa using this
/-! #### FS -/
/-! ### sessions -/
structure SV where
  n : Nat
  cur : List (List Int)
  er : List D
  dn : List D
  un : List D
  e : Nat
  d : Nat
  u : Nat
structure Ses (S : Sto) (i : Nat) (s : SV) : Prop where
  ins : S[i]? = some (.ins "Session" (sesF (.int s.n) (.tup (s.cur.map VE)) (.han s.e) (.han s.d) (.han s.u)))
  her : S[s.e]? = some (.lst s.er)
  hdn : S[s.d]? = some (.lst s.dn)
  hun : S[s.u]? = some (.lst s.un)
  ed : s.e ≠ s.d
  eu : s.e ≠ s.u
  du : s.d ≠ s.u
/-- all but the places L stand as they were -/
def Frm (L : List Nat) (S S' : Sto) : Prop := S.length ≤ S'.length ∧ ∀ j, j < S.length → j ∉ L → S'[j]? = S[j]?
def c_Session_generators : Ct := fun ds S Q _ => ∃ i s, ds = [.han i] ∧ Ses S i s ∧ Q (.tup (s.cur.map VE)) S
/-- Session_generators -/
def N_Session_generators : List Str := ["self"]
def b_Session_generators : DB := (DB.cons (DS.ret (DE.fld "Session" (DE.var 0) "current"))
  DB.nil)
theorem w_Session_generators {ds : List D} {S : Sto} {Q : QD} {X : XD} (h : c_Session_generators ds S Q X) : ctOf N_Session_generators.length b_Session_generators ds S Q X := by
  obtain ⟨i, s, rfl, hs, h⟩ := h
  unfold b_Session_generators N_Session_generators
  walk_at "wp"
  exact ⟨_, hs.ins, _, sg1 _ _ _ _ _, h⟩
def c_Session_perform : Ct := fun ds S Q _ => ∃ i s new op, ds = [.han i, .tup (new.map VE), op] ∧ Ses S i s ∧ s.er.length ≤ 1000 ∧ s.dn.length ≤ 1000 ∧
  ∀ S', Ses S' i ⟨s.n, new, s.er ++ [.tup (s.cur.map VE)], s.dn ++ [op], [], s.e, s.d, S.length⟩ → Frm [i, s.e, s.d] S S' → Q .non S'
/-- Session_perform -/
def N_Session_perform : List Str := ["self", "vectors", "operation"]
def b_Session_perform : DB := (DB.cons (DS.expr (DE.append (DE.fld "Session" (DE.var 0) "earlier") (DE.fld "Session" (DE.var 0) "current")))
  (DB.cons (DS.fld "Session" (DE.var 0) "current" (DE.var 1))
  (DB.cons (DS.expr (DE.append (DE.fld "Session" (DE.var 0) "done") (DE.var 2)))
  (DB.cons (DS.fld "Session" (DE.var 0) "undone" (DE.thw (DL.dis DA.nil)))
  DB.nil))))
theorem w_Session_perform {ds : List D} {S : Sto} {Q : QD} {X : XD} (h : c_Session_perform ds S Q X) : ctOf N_Session_perform.length b_Session_perform ds S Q X := by
  obtain ⟨i, s, new, op, rfl, hs, h1, h2, h⟩ := h
  have a1 := hs.ins; have a2 := hs.her; have a3 := hs.hdn; have a4 := hs.hun
  have n1 : i ≠ s.e := fun e => by rw [e, a2] at a1; cases a1
  have n2 : i ≠ s.d := fun e => by rw [e, a3] at a1; cases a1
  have l1 : i < S.length := (List.getElem?_eq_some_iff.mp a1).1
  have l2 : s.e < S.length := (List.getElem?_eq_some_iff.mp a2).1
  have l3 : s.d < S.length := (List.getElem?_eq_some_iff.mp a3).1
  have l4 : s.u < S.length := (List.getElem?_eq_some_iff.mp a4).1
  have n3 := hs.ed
  unfold b_Session_perform N_Session_perform
  walk_at "wp"
  refine ⟨_, a1, _, sg2 _ _ _ _ _, by simp [recD, a2], _, a1, _, sg1 _ _ _ _ _, _, a2, by rw [sizeLine_eq]; omega, ?_⟩
  have b1 : (S.set s.e (.lst (s.er ++ [.tup (s.cur.map VE)])))[i]? = some (.ins "Session" (sesF (.int s.n) (.tup (s.cur.map VE)) (.han s.e) (.han s.d) (.han s.u))) := by
    rw [List.getElem?_set_ne (Ne.symm n1)]; exact a1
  refine ⟨_, b1, by rw [sl0]; omega, ?_⟩
  walk_at "wp"
  generalize hT : (S.set s.e (.lst (s.er ++ [.tup (s.cur.map VE)]))).set i (.ins "Session" (sesF (.int s.n) (.tup (new.map VE)) (.han s.e) (.han s.d) (.han s.u))) = T
  have t0 : T.length = S.length := by rw [← hT]; simp
  have t1 : T[i]? = some (.ins "Session" (sesF (.int s.n) (.tup (new.map VE)) (.han s.e) (.han s.d) (.han s.u))) := by
    rw [← hT, List.getElem?_set_self (by simpa using l1)]
  have t2 : T[s.e]? = some (.lst (s.er ++ [.tup (s.cur.map VE)])) := by
    rw [← hT, List.getElem?_set_ne n1, List.getElem?_set_self l2]
  have t3 : T[s.d]? = some (.lst s.dn) := by
    rw [← hT, List.getElem?_set_ne n2, List.getElem?_set_ne n3]; exact a3
  have t4 : ∀ j, j ≠ i → j ≠ s.e → T[j]? = S[j]? := fun j h1 h2 => by
    rw [← hT, List.getElem?_set_ne (Ne.symm h1), List.getElem?_set_ne (Ne.symm h2)]
  clear hT
  refine ⟨_, t1, _, sg3 _ _ _ _ _, by simp [recD, t3], _, t3, by rw [sizeLine_eq]; omega, ?_⟩
  have g : ∀ j, j < S.length → (T.set s.d (.lst (s.dn ++ [op])) ++ [.lst []])[j]? = (T.set s.d (.lst (s.dn ++ [op])))[j]? := fun j hj => List.getElem?_append_left (by simpa [t0] using hj)
  refine ⟨_, (g i l1).trans (by rw [List.getElem?_set_ne (Ne.symm n2)]; exact t1), by rw [sl0]; omega, ?_⟩
  rw [sp4, show (T.set s.d (.lst (s.dn ++ [op]))).length = S.length by simp [t0]]
  refine h _ ⟨?_, ?_, ?_, ?_, n3, by show s.e ≠ S.length; omega, by show s.d ≠ S.length; omega⟩ ⟨by simp [t0], fun j hj nj => ?_⟩
  · rw [List.getElem?_set_self (by simp [t0]; omega)]
  · show (_ : Sto)[s.e]? = _
    rw [List.getElem?_set_ne n1, g _ l2, List.getElem?_set_ne (Ne.symm n3)]; exact t2
  · show (_ : Sto)[s.d]? = _
    rw [List.getElem?_set_ne n2, g _ l3, List.getElem?_set_self (by omega)]
  · show (_ : Sto)[S.length]? = _
    rw [List.getElem?_set_ne (by omega), List.getElem?_append_right (by simp [t0])]
    simp [t0]
  · simp only [List.mem_cons, List.not_mem_nil, or_false, not_or] at nj
    rw [List.getElem?_set_ne (Ne.symm nj.1), g _ hj, List.getElem?_set_ne (Ne.symm nj.2.2)]
    exact t4 j nj.1 nj.2.1
/-- what is always so -/
structure SOk (s : SV) : Prop where
  n1 : 1 ≤ s.n
  n3 : s.n ≤ 3
  len : Len s.n s.cur
  bd : ∀ u ∈ s.cur, Bd 1000000 u
  few : s.cur.length ≤ 8
  er : s.er.length ≤ 900
  dn : s.dn.length ≤ 900
def c_Session_rows : Ct := fun ds S Q _ => ∃ i s, ds = [.han i] ∧ Ses S i s ∧ SOk s ∧ ∀ F, IsNF s.n s.cur F → ((∀ u ∈ F, Bd (2 ^ bt 20 s.n) u) ∧ Pv s.n F) → Q (.tup (F.map VE)) S
/-- Session_rows -/
def N_Session_rows : List Str := ["self"]
def b_Session_rows : DB := (DB.cons (DS.ret (DE.call "echelon" c_echelon (DA.cons (DE.fld "Session" (DE.var 0) "current") (DA.cons (DE.fld "Session" (DE.var 0) "size") DA.nil))))
  DB.nil)
theorem w_Session_rows {ds : List D} {S : Sto} {Q : QD} {X : XD} (h : c_Session_rows ds S Q X) : ctOf N_Session_rows.length b_Session_rows ds S Q X := by
  obtain ⟨i, s, rfl, hs, ok, h⟩ := h
  unfold b_Session_rows N_Session_rows
  walk_at "wp"
  refine ⟨_, hs.ins, _, sg1 _ _ _ _ _, _, hs.ins, _, sg0 _ _ _ _ _, ?_⟩
  exact ⟨s.cur, _, s.n, 20, rfl, .inl rfl, ok.len, ok.n3, by have := ok.few; omega, by omega, fun u hu => (ok.bd u hu).mono (by decide), h⟩
def c_Session___init__ : Ct := fun ds S Q X => ∃ i x, ds = [.han i, x] ∧ okD x = true ∧ S[i]? = some (.ins "Session" []) ∧
  if btw 1 3 x = true then ∀ n : Nat, x = .int n → ∀ S', Ses S' i ⟨n, [], [], [], [], S.length, S.length + 1, S.length + 2⟩ → Frm [i] S S' → Q .non S' else X "InvalidDimension" S
/-- Session___init__ -/
def N_Session___init__ : List Str := ["self", "n"]
def b_Session___init__ : DB := (DB.cons (DS.iff (DT.not (DT.val (DE.call "is_between" c_is_between (DA.cons (DE.var 1) (DA.cons (DE.con (.int 1)) (DA.cons (DE.con (.int 3)) DA.nil)))))) (DB.cons (DS.raise "InvalidDimension")
  DB.nil) DB.nil)
  (DB.cons (DS.fld "Session" (DE.var 0) "size" (DE.var 1))
  (DB.cons (DS.fld "Session" (DE.var 0) "current" (DE.tup DA.nil))
  (DB.cons (DS.fld "Session" (DE.var 0) "earlier" (DE.thw (DL.dis DA.nil)))
  (DB.cons (DS.fld "Session" (DE.var 0) "done" (DE.thw (DL.dis DA.nil)))
  (DB.cons (DS.fld "Session" (DE.var 0) "undone" (DE.thw (DL.dis DA.nil)))
  DB.nil))))))
theorem w_Session___init__ {ds : List D} {S : Sto} {Q : QD} {X : XD} (h : c_Session___init__ ds S Q X) : ctOf N_Session___init__.length b_Session___init__ ds S Q X := by
  obtain ⟨i, x, rfl, hx, hi, h⟩ := h
  unfold b_Session___init__ N_Session___init__
  walk_at "wp"
  refine ⟨x, 1, 3, rfl, hx, ?_⟩
  walk_at "wp"
  by_cases hb : btw 1 3 x = true
  · rw [if_pos hb] at h
    rw [if_neg (by simp [hb])]
    obtain ⟨n, rfl⟩ : ∃ n : Nat, x = .int n := by
      cases x with
      | int m =>
        have : 1 ≤ m := by simp [btw] at hb; omega
        exact ⟨m.toNat, by rw [Int.toNat_of_nonneg (by omega)]⟩
      | _ => simp [btw] at hb
    have l : i < S.length := (List.getElem?_eq_some_iff.mp hi).1
    have k2 : ∀ (a b : O) (L : List O), (S.set i a ++ L).set i b = S.set i b ++ L := fun a b L => by
      rw [List.set_append_left _ _ (by simpa using l), List.set_set]
    have k3 : ∀ a : O, (S.set i a)[i]? = some a := fun a => List.getElem?_set_self l
    have k4 : ∀ (a : O) (L : List O), (S.set i a ++ L)[i]? = some a := fun a L => by
      rw [List.getElem?_append_left (by simpa using l)]; exact k3 a
    simp only [hi, List.set_set, k2, k3, k4, Option.some.injEq, O.ins.injEq, true_and, exists_eq_left', si0, si1, si2, si3, si4, sl1, sl2, sl3, sl4, List.length_nil, List.length_set, List.length_append, List.length_cons, List.append_assoc, List.cons_append, List.nil_append]
    refine ⟨by omega, by omega, by omega, by omega, by omega, ?_⟩
    refine h n rfl _ ⟨k4 _ _, ?_, ?_, ?_, ?_, ?_, ?_⟩ ⟨by simp, fun j hj nj => ?_⟩
    · simp
    · simp
    · simp
    · simp
    · simp
    · simp
    · have nj' : j ≠ i := by simpa using nj
      rw [List.getElem?_append_left (by simpa using hj), List.getElem?_set_ne (Ne.symm nj')]
  · rw [if_neg hb] at h
    rw [if_pos (by simp [hb])]
    exact h
def c_is_generated : Ct := fun ds S Q _ => ∃ (n : Nat) (F : List (List Int)) (v : List Int), ds = [.tup (F.map VE), VE v] ∧ Len n F ∧ v.length = n ∧ n ≤ 3 ∧ F.length ≤ 3 ∧ (∀ f ∈ F, ∃ p, zb p f ∧ gt f p ≠ 0 ∧ Sm 8889 (gt f p)) ∧
  (∀ f ∈ F, ∀ x ∈ f, Sm 40000 x) ∧ (∀ x ∈ v, Sm 21 x) ∧ Q (.bl ((redV F v).all (· == 0))) S
/-- is_generated -/
def N_is_generated : List Str := ["rows", "vector", "row", "place", "entry"]
def b_is_generated : DB := (DB.cons (DS.for (DG.nm 2) (DI.seq (DE.var 0)) (DB.cons (DS.set 3 (DE.index (DE.lst (DL.comp [("entry", 4)] (DG.nm 4) (DI.seq (DE.var 2)) DF.no (DE.cmp .NotEq (DE.var 4) (DE.con (.int 0))))) (DE.con (.bl true))))
  (DB.cons (DS.set 1 (DE.call "plus" c_plus (DA.cons (DE.var 1) (DA.cons (DE.neg (DE.op .FloorDiv (DE.ix (DE.var 1) (DE.var 3)) (DE.ix (DE.var 2) (DE.var 3)))) (DA.cons (DE.var 2) DA.nil)))))
  DB.nil)))
  (DB.cons (DS.ret (DE.all (DA.cons (DE.lst (DL.comp [("entry", 4)] (DG.nm 4) (DI.seq (DE.var 1)) DF.no (DE.cmp .Eq (DE.var 4) (DE.con (.int 0))))) DA.nil)))
  DB.nil))
theorem w_is_generated {ds : List D} {S : Sto} {Q : QD} {X : XD} (h : c_is_generated ds S Q X) : ctOf N_is_generated.length b_is_generated ds S Q X := by
  obtain ⟨n, F, v, rfl, hF, hv, hn, hl, hp, hb, hvb, h⟩ := h
  unfold b_is_generated N_is_generated
  walk_at "wpf"
  refine forGo_inv (fun ds env T => ∃ (post : List (List Int)) (w : List Int) (a2 a3 a4 : Option D) (j : Nat), ds = post.map VE ∧ env = [some (.tup (F.map VE)), some (VE w), a2, a3, a4] ∧ T = S ∧ redV post w = redV F v ∧ (∀ f ∈ post, f ∈ F) ∧ w.length = n ∧ j + post.length ≤ 3 ∧ ∀ x ∈ w, Sm (9000 + 60000 * j) x) ?_ ?_ _ _ _ ⟨F, v, none, none, none, 0, rfl, rfl, rfl, rfl, fun _ h => h, hv, by omega, fun x hx => (hvb x hx).mono (by omega)⟩
  · rintro d1 ds1 env1 S1 ⟨post, w, a2, a3, a4, j, hds, rfl, rfl, hr, hm, hw, hj, hs⟩
    match post, hds with
    | f :: post, hds =>
      simp only [List.map_cons, List.cons.injEq] at hds
      obtain ⟨rfl, rfl⟩ := hds
      refine ⟨trivial, _, rfl, fun nx hnx => ?_⟩
      have hf := hm f (by simp)
      obtain ⟨p, zp, gp, sp⟩ := hp f hf
      have lf := hF f hf
      have pl : p < f.length := by
        rcases Nat.lt_or_ge p f.length with q | q
        · exact q
        · exact absurd (gt_ge q) gp
      have jl : j ≤ 2 := by simp only [List.length_cons] at hj; omega
      walk_at "wpf"
      refine ⟨f.map .int, rfl, by rw [List.length_map]; exact szLe (by omega), compGo_all0 D.int (fun x => .bl (!decide (x = 0))) f (fun x hx => ⟨_, rfl, fun Qd hq => ?_⟩) ?_⟩
      · walk_at "wpf"
        exact hq
      refine ⟨rfl, f.map (fun x => !decide (x = 0)), p, by simp [lstOf], ?_, fun m hmp => ?_, ?_⟩
      · rw [List.getElem?_map, List.getElem?_eq_getElem pl]
        rw [gt_lt pl] at gp
        simp [gp]
      · have hm2 : m < f.length := by omega
        rw [List.getElem?_map, List.getElem?_eq_getElem hm2]
        have := zp m hmp
        rw [gt_lt hm2] at this
        simp [this]
      dsimp only
      rw [ix_V (by omega), ix_V pl, oDiv_ii]
      refine ⟨sp.div gp (by omega), ?_⟩
      have s1 : Sm (9000 + 60000 * j) (gt w p) := by
        rw [gt_lt (by omega)]; exact hs _ (List.getElem_mem _)
      have s2 : Sm (9001 + 60000 * j) (-(gt w p).fdiv (gt f p)) := by
        refine Sm.neg ?_
        have h1 := fd_le2 (gt w p) gp
        have h2 := sp.mono (show 8889 ≤ 9000 + 60000 * j by omega)
        unfold Sm at s1 h2 ⊢
        rw [show 9001 + 60000 * j = (9000 + 60000 * j) + 1 by omega, Nat.pow_succ]
        omega
      refine ⟨w, _, f, rfl, by omega, fun x hx => s2.ok (hb f hf x hx) (by omega), ?_⟩
      refine hnx _ _ ⟨post, _, _, _, _, j + 1, rfl, rfl, rfl, ?_, fun g hg => hm g (List.mem_cons_of_mem _ hg), by rw [plus_len (by omega)]; exact hw, by simp only [List.length_cons] at hj; omega, fun x hx => ?_⟩
      · rw [← hr]
        show _ = redV post (redStep w f)
        unfold redStep
        rw [lead_at zp gp]
      · obtain ⟨a, ha, b, hb', rfl⟩ := mem_plus hx
        exact ((hs a ha).add (s2.mul (hb f hf b hb'))).mono (by omega)
  · rintro env1 S1 ⟨post, w, a2, a3, a4, j, hds, rfl, rfl, hr, hm, hw, hj, hs⟩
    have : post = [] := by simpa using hds.symm
    subst this
    refine ⟨trivial, ?_⟩
    walk_at "wpf"
    refine ⟨w.map .int, rfl, by rw [List.length_map]; exact szLe (by omega), compGo_all0 D.int (fun x => .bl (decide (x = 0))) w (fun x hx => ⟨_, rfl, fun Qd hq => ?_⟩) ?_⟩
    · walk_at "wpf"
      exact hq
    have e : (w.map fun x => D.bl (decide (x = 0))) = (w.map fun x => decide (x = 0)).map .bl := by simp
    rw [e]
    refine oAll_l _ _ _ ?_
    have hr' : w = redV F v := hr
    rw [← hr'] at h
    have e2 : (w.map fun x => decide (x = 0)).all id = w.all (fun x => x == 0) := by
      rw [List.all_map]; rfl
    rw [e2]; exact h
/-! ### the methods that change -/
theorem nf_gen {n : Nat} {R F : List (List Int)} (hR : Len n R) (hn : n ≤ 3) (h : IsNF n R F) (hb : (∀ u ∈ F, Bd (2 ^ bt 20 n) u) ∧ Pv n F) : Len n F ∧ F.length ≤ 3 ∧ (∀ f ∈ F, ∃ p, zb p f ∧ gt f p ≠ 0 ∧ Sm 8889 (gt f p)) ∧ ∀ f ∈ F, ∀ x ∈ f, Sm 40000 x := by
  have hb1 := hb.1
  have hb2 := hb.2
  refine ⟨nf_len h, ?_, fun f hf => ?_, fun f hf x hx => ((hb1 f hf).sm hx).mono ?_⟩
  · obtain ⟨g, rfl, _⟩ := h
    have := List.length_filterMap_le g (List.range n)
    unfold rowsOf
    rw [List.length_range] at this
    omega
  · obtain ⟨g, rfl, hg⟩ := h
    obtain ⟨q, hq, e⟩ := mem_rowsOf.mp hf
    obtain ⟨_, _, z, p, _⟩ := (hg q hq).2 f e
    exact ⟨q, z, by omega, hb2 f hf q hq z (by omega)⟩
  · have : n = 0 ∨ n = 1 ∨ n = 2 ∨ n = 3 := by omega
    rcases this with rfl | rfl | rfl | rfl <;> simp [bt]
theorem gen_call {n : Nat} {R F : List (List Int)} {v : List Int} {S : Sto} {Q : QD} {X : XD} (hR : Len n R) (hn : n ≤ 3) (h : IsNF n R F) (hb : (∀ u ∈ F, Bd (2 ^ bt 20 n) u) ∧ Pv n F) (hv : isV n v = true)
    (q : ∀ b : Bool, (b = true ↔ Lat n R v) → Q (.bl b) S) : c_is_generated [.tup (F.map VE), VE v] S Q X := by
  obtain ⟨h1, h2, h3, h4⟩ := nf_gen hR hn h hb
  obtain ⟨l, m⟩ := isV_ok hv
  exact ⟨n, F, v, rfl, h1, l, hn, h2, h3, h4, fun x hx => (m x hx).mono (by omega), q _ (gen_iff hR h l)⟩
def addOp (v : List Int) : D := .tup [.str "add", VE v]
def remOp (j : Nat) : D := .tup [.str "remove", .int (j : Nat)]
def c_Session_contains : Ct := fun ds S Q X => ∃ i s d, ds = [.han i, d] ∧ Ses S i s ∧ SOk s ∧ okVecD d ∧
  if isVD s.n d = true then ∀ v, d = VE v → ∀ b : Bool, (b = true ↔ Lat s.n s.cur v) → Q (.bl b) S else X "InvalidVector" S
def c_Session_add : Ct := fun ds S Q X => ∃ i s d, ds = [.han i, d] ∧ Ses S i s ∧ SOk s ∧ okVecD d ∧
  if isVD s.n d = true then if s.cur.length = 8 then X "TooMany" S else ∀ v, d = VE v → isV s.n v = true → ∀ b : Bool, (b = false ↔ Lat s.n s.cur v) → ∀ S', Ses S' i ⟨s.n, s.cur ++ [v], s.er ++ [.tup (s.cur.map VE)], s.dn ++ [addOp v], [], s.e, s.d, S.length⟩ → Frm [i, s.e, s.d] S S' → Q (.bl b) S'
  else X "InvalidVector" S
/-- Session_add -/
def N_Session_add : List Str := ["self", "vector", "is_new"]
def b_Session_add : DB := (DB.cons (DS.expr (DE.call "check_vector" c_check_vector (DA.cons (DE.fld "Session" (DE.var 0) "size") (DA.cons (DE.var 1) DA.nil))))
  (DB.cons (DS.iff (DT.cmp .Eq (DE.len (DA.cons (DE.fld "Session" (DE.var 0) "current") DA.nil)) (DE.con (.int 8))) (DB.cons (DS.raise "TooMany")
  DB.nil) DB.nil)
  (DB.cons (DS.set 2 (DE.not (DE.call "is_generated" c_is_generated (DA.cons (DE.met0 "Session" "rows" c_Session_rows (DE.var 0)) (DA.cons (DE.var 1) DA.nil)))))
  (DB.cons (DS.expr (DE.met "Session" "perform" c_Session_perform (DE.var 0) (DA.cons (DE.op .Add (DE.fld "Session" (DE.var 0) "current") (DE.tup (DA.cons (DE.var 1) DA.nil))) (DA.cons (DE.tup (DA.cons (DE.con (.str "add")) (DA.cons (DE.var 1) DA.nil))) DA.nil))))
  (DB.cons (DS.ret (DE.var 2))
  DB.nil)))))
theorem w_Session_add {ds : List D} {S : Sto} {Q : QD} {X : XD} (h : c_Session_add ds S Q X) : ctOf N_Session_add.length b_Session_add ds S Q X := by
  obtain ⟨i, s, d, rfl, hs, ok, hd, h⟩ := h
  unfold b_Session_add N_Session_add
  walk_at "wp"
  refine ⟨_, hs.ins, _, sg0 _ _ _ _ _, s.n, d, rfl, hd, ?_⟩
  by_cases e : isVD s.n d = true
  · rw [if_pos e] at h ⊢
    obtain ⟨e1, e2⟩ := isVD_inv e
    refine ⟨_, hs.ins, _, sg1 _ _ _ _ _, ?_⟩
    walk_at "wp"
    rw [List.length_map]
    by_cases e8 : s.cur.length = 8
    · rw [if_pos e8] at h
      rw [if_pos (by omega)]
      exact h
    · rw [if_neg e8] at h
      rw [if_neg (by omega)]
      refine ⟨_, hs.ins, rfl, i, s, rfl, hs, ok, fun F hF hb => ?_⟩
      rw [e1]
      refine gen_call ok.len ok.n3 hF hb e2 fun b hb => ⟨b, rfl, _, hs.ins, rfl, _, hs.ins, _, sg1 _ _ _ _ _, ?_⟩
      have few := ok.few
      refine ⟨by simp only [List.length_map, List.length_singleton]; exact szLe (by omega), i, s, s.cur ++ [toV d], addOp (toV d), ?_, hs, by have := ok.er; omega, by have := ok.dn; omega, fun S' h1 h2 => ?_⟩
      · rw [List.map_append]; rfl
      · refine h _ e1 e2 (!b) ?_ S' h1 h2
        rw [← hb]
        cases b <;> simp
  · rw [if_neg e] at h ⊢
    exact h
theorem erase_take {α : Type} (l : List α) (j : Nat) : l.take j ++ l.drop (j + 1) = l.eraseIdx j := (List.eraseIdx_eq_take_drop_succ l j).symm
def c_Session_remove : Ct := fun ds S Q X => ∃ i s x, ds = [.han i, x] ∧ Ses S i s ∧ SOk s ∧ okD x = true ∧
  if btw 0 (s.cur.length - 1) x = true then ∀ (j : Nat) (hj : j < s.cur.length), x = .int (j : Nat) → ∀ S', Ses S' i ⟨s.n, s.cur.eraseIdx j, s.er ++ [.tup (s.cur.map VE)], s.dn ++ [remOp j], [], s.e, s.d, S.length⟩ → Frm [i, s.e, s.d] S S' → Q (VE s.cur[j]) S'
  else X "InvalidNumber" S
/-- Session_remove -/
def N_Session_remove : List Str := ["self", "number", "vector"]
def b_Session_remove : DB := (DB.cons (DS.iff (DT.not (DT.val (DE.call "is_between" c_is_between (DA.cons (DE.var 1) (DA.cons (DE.con (.int 0)) (DA.cons (DE.op .Sub (DE.len (DA.cons (DE.fld "Session" (DE.var 0) "current") DA.nil)) (DE.con (.int 1))) DA.nil)))))) (DB.cons (DS.raise "InvalidNumber")
  DB.nil) DB.nil)
  (DB.cons (DS.set 2 (DE.ix (DE.fld "Session" (DE.var 0) "current") (DE.var 1)))
  (DB.cons (DS.expr (DE.met "Session" "perform" c_Session_perform (DE.var 0) (DA.cons (DE.op .Add (DE.sl (DE.fld "Session" (DE.var 0) "current") DO.no (DO.so (DE.var 1))) (DE.sl (DE.fld "Session" (DE.var 0) "current") (DO.so (DE.op .Add (DE.var 1) (DE.con (.int 1)))) DO.no)) (DA.cons (DE.tup (DA.cons (DE.con (.str "remove")) (DA.cons (DE.var 1) DA.nil))) DA.nil))))
  (DB.cons (DS.ret (DE.var 2))
  DB.nil))))
theorem w_Session_remove {ds : List D} {S : Sto} {Q : QD} {X : XD} (h : c_Session_remove ds S Q X) : ctOf N_Session_remove.length b_Session_remove ds S Q X := by
  obtain ⟨i, s, x, rfl, hs, ok, hx, h⟩ := h
  unfold b_Session_remove N_Session_remove
  walk_at "wp"
  refine ⟨_, hs.ins, _, sg1 _ _ _ _ _, ?_⟩
  walk_at "wp"
  rw [List.length_map]
  refine ⟨x, 0, _, rfl, hx, ?_⟩
  by_cases e : btw 0 (s.cur.length - 1) x = true
  · rw [if_pos e] at h
    obtain ⟨j, hj, rfl⟩ : ∃ j : Nat, j < s.cur.length ∧ x = .int (j : Nat) := by
      cases x with
      | int m =>
        simp only [btw, Bool.and_eq_true, decide_eq_true_eq] at e
        exact ⟨m.toNat, by omega, by rw [Int.toNat_of_nonneg e.1]⟩
      | _ => simp [btw] at e
    refine ⟨_, rfl, ?_⟩
    rw [if_neg (by simp [e])]
    refine ⟨_, hs.ins, _, sg1 _ _ _ _ _, ?_⟩
    rw [ix_M hj]
    refine ⟨_, hs.ins, rfl, _, hs.ins, _, sg1 _ _ _ _ _, _, rfl, _, hs.ins, _, sg1 _ _ _ _ _, ?_⟩
    rw [oAdd_ii]
    refine ⟨_, rfl, ?_⟩
    rw [oSl_t, cut_to, show ((j : Int) + 1) = ((j + 1 : Nat) : Int) by omega, cut_from, oAdd_tt]
    have few := ok.few
    refine ⟨by rw [← List.map_take, ← List.map_drop]; simp only [List.length_map, List.length_take, List.length_drop]; exact szLe (by omega), ?_⟩
    refine ⟨i, s, s.cur.eraseIdx j, remOp j, ?_, hs, by have := ok.er; omega, by have := ok.dn; omega, fun S' h1 h2 => ?_⟩
    · rw [← List.map_take, ← List.map_drop, ← List.map_append, erase_take]; rfl
    · exact h j hj rfl S' h1 h2
  · rw [if_neg e] at h
    refine ⟨_, rfl, ?_⟩
    rw [if_pos (by simp [e])]
    exact h
/-! #### FX -/
/-! ### what a call ends with -/
inductive Oc (α : Type) where
  | ret (a : α)
  | rai (k : Int)
deriving DecidableEq
theorem eqv2 (a b : Str) (P Q : PyData) : PyData.eqv (.tuple [.str a, P]) (.tuple [.str b, Q]) = ((a == b) && PyData.eqv P Q) := by
  simp only [PyData.eqv, PyData.eqvAll, Bool.and_true]
theorem sok1 : PyData.strOk "returned" = true := by decide +kernel
theorem sok2 : PyData.strOk "raised" = true := by decide +kernel
def eO {α : Type} [DecidableEq α] (E : Enc α) : Enc (Oc α) where
  e o := match o with
    | .ret a => .tup [.str "returned", E.e a]
    | .rai k => .tup [.str "raised", .int k]
  p o := match o with
    | .ret a => .tuple [.str "returned", E.p a]
    | .rai k => .tuple [.str "raised", .int k]
  n := E.n + 1
  hp o := by
    cases o with
    | ret a => simp [pyD, pyDs, E.hp]
    | rai k => simp [pyD, pyDs]
  lay o := by
    cases o with
    | ret a => simp [PyData.canLay0, PyData.canLayAll0, E.lay, sok1]
    | rai k => simp [PyData.canLay0, PyData.canLayAll0, sok2]
  dp o := by
    cases o with
    | ret a => have := E.dp a; simp only [PyData.depth, PyData.depthAll]; omega
    | rai k => simp only [PyData.depth, PyData.depthAll]; omega
  eq a b := by
    have e1 : (("returned" : Str) == ("raised" : Str)) = false := by decide
    have e2 : (("raised" : Str) == ("returned" : Str)) = false := by decide
    cases a with
    | ret a =>
      cases b with
      | ret b => rw [eqv2, E.eq, beq_self_eq_true, Bool.true_and]; simp
      | rai k => rw [eqv2, e1, Bool.false_and]; simp
    | rai j =>
      cases b with
      | ret b => rw [eqv2, e2, Bool.false_and]; simp
      | rai k =>
        rw [eqv2, beq_self_eq_true, Bool.true_and]
        have := eI.eq j k
        rw [show PyData.eqv (.int j) (.int k) = decide (j = k) from this]
        simp
theorem Enc.shp {α : Type} [DecidableEq α] (E : Enc α) (hn : E.n ≤ 60) (a : α) : SeqAt.shaped (E.p a) = true := by
  unfold SeqAt.shaped
  rw [E.lay]
  have := E.dp a
  simp
  omega
theorem oNe_O {α : Type} [DecidableEq α] (E : Enc α) (hn : E.n ≤ 50) (a b : Oc α) (S : Sto) (Q : QD) (h : Q (.bl (!decide (a = b))) S) : oNe ((eO E).e a) ((eO E).e b) S Q := by
  have hn' : (eO E).n ≤ 60 := by show E.n + 1 ≤ 60; omega
  have h1 := (eO E).hp a
  have h2 := (eO E).hp b
  rw [← (eO E).eq] at h
  cases a <;> cases b <;> exact ⟨_, _, h1, h2, (eO E).shp hn' _, (eO E).shp hn' _, h⟩
/-! ### the class of an exception -/
def exIx (x : Str) : Nat := exNs.idxOf x
theorem ex_key : ∀ x ∈ exNs, (exNs.map (fun y => decide (x = y))).count true = 1 ∧ (exNs.map (fun y => decide (x = y)))[exIx x]? = some true ∧ ∀ m, m < exIx x → (exNs.map (fun y => decide (x = y)))[m]? ≠ some true := by
  decide +kernel
def c__law_name : Ct := fun ds S Q _ => ∃ x, ds = [.exc x] ∧ x ∈ exNs ∧ Q (.int (exIx x : Nat)) S
/-- _law_name -/
def N__law_name : List Str := ["caught", "found"]
def b__law_name : DB := (DB.cons (DS.iff (DT.not (DT.val (DE.isVE (DE.var 0)))) (DB.cons (DS.ret (DE.neg (DE.con (.int 1))))
  DB.nil) DB.nil)
  (DB.cons (DS.set 1 (DE.lst (DL.dis (DA.cons (DE.isX "InvalidBasis" (DE.var 0)) (DA.cons (DE.isX "InvalidVector" (DE.var 0)) DA.nil)))))
  (DB.cons (DS.set 1 (DE.op .Add (DE.var 1) (DE.lst (DL.dis (DA.cons (DE.isX "InvalidLength" (DE.var 0)) (DA.cons (DE.isX "InvalidPoint" (DE.var 0)) DA.nil))))))
  (DB.cons (DS.set 1 (DE.op .Add (DE.var 1) (DE.lst (DL.dis (DA.cons (DE.isX "InvalidDimension" (DE.var 0)) (DA.cons (DE.isX "InvalidNumber" (DE.var 0)) DA.nil))))))
  (DB.cons (DS.set 1 (DE.op .Add (DE.var 1) (DE.lst (DL.dis (DA.cons (DE.isX "InvalidText" (DE.var 0)) (DA.cons (DE.isX "Unlike" (DE.var 0)) DA.nil))))))
  (DB.cons (DS.set 1 (DE.op .Add (DE.var 1) (DE.lst (DL.dis (DA.cons (DE.isX "NotPart" (DE.var 0)) (DA.cons (DE.isX "TooMany" (DE.var 0)) DA.nil))))))
  (DB.cons (DS.set 1 (DE.op .Add (DE.var 1) (DE.lst (DL.dis (DA.cons (DE.isX "TooLarge" (DE.var 0)) (DA.cons (DE.isX "NothingToUndo" (DE.var 0)) DA.nil))))))
  (DB.cons (DS.ret (DE.ite (DT.cmp .Eq (DE.count (DE.var 1) (DE.con (.bl true))) (DE.con (.int 1))) (DE.index (DE.var 1) (DE.con (.bl true))) (DE.neg (DE.con (.int 1)))))
  DB.nil))))))))
theorem w__law_name {ds : List D} {S : Sto} {Q : QD} {X : XD} (h : c__law_name ds S Q X) : ctOf N__law_name.length b__law_name ds S Q X := by
  obtain ⟨x, rfl, hx, h⟩ := h
  unfold b__law_name N__law_name
  walk_at "wp"
  refine ⟨x, rfl, hx, ?_⟩
  walk_at "wp"
  obtain ⟨k1, k2, k3⟩ := ex_key x hx
  refine ⟨x, rfl, hx, x, rfl, hx, x, rfl, hx, x, rfl, hx, szLe (by omega), x, rfl, hx, x, rfl, hx, szLe (by omega), x, rfl, hx, x, rfl, hx, szLe (by omega), x, rfl, hx, x, rfl, hx, szLe (by omega), x, rfl, hx, x, rfl, hx, szLe (by omega), ?_⟩
  refine ⟨rfl, exNs.map (fun y => decide (x = y)), rfl, ?_⟩
  rw [k1]
  walk_at "wp"
  exact ⟨rfl, exNs.map (fun y => decide (x = y)), exIx x, rfl, k2, k3, h⟩
def lawNs : List Str := ["basis", "vector", "length", "point", "dimension", "number", "text", "unlike", "part", "many", "large", "undo"]
def c__law_raises : Ct := fun ds S Q _ => ∃ (s : Str) (j : Nat), ds = [.str s] ∧ lawNs[j]? = some s ∧ (∀ m, m < j → lawNs[m]? ≠ some s) ∧ Q (.tup [.str "raised", .int (j : Nat)]) S
/-- _law_raises -/
def N__law_raises : List Str := ["name", "names"]
def b__law_raises : DB := (DB.cons (DS.set 1 (DE.lst (DL.dis (DA.cons (DE.con (.str "basis")) (DA.cons (DE.con (.str "vector")) (DA.cons (DE.con (.str "length")) (DA.cons (DE.con (.str "point")) (DA.cons (DE.con (.str "dimension")) (DA.cons (DE.con (.str "number")) DA.nil)))))))))
  (DB.cons (DS.set 1 (DE.op .Add (DE.var 1) (DE.lst (DL.dis (DA.cons (DE.con (.str "text")) (DA.cons (DE.con (.str "unlike")) (DA.cons (DE.con (.str "part")) (DA.cons (DE.con (.str "many")) (DA.cons (DE.con (.str "large")) (DA.cons (DE.con (.str "undo")) DA.nil))))))))))
  (DB.cons (DS.ret (DE.tup (DA.cons (DE.con (.str "raised")) (DA.cons (DE.index (DE.var 1) (DE.var 0)) DA.nil))))
  DB.nil)))
theorem w__law_raises {ds : List D} {S : Sto} {Q : QD} {X : XD} (h : c__law_raises ds S Q X) : ctOf N__law_raises.length b__law_raises ds S Q X := by
  obtain ⟨s, j, rfl, hj, hm, h⟩ := h
  unfold b__law_raises N__law_raises
  walk_at "wp"
  exact ⟨szLe (by simp), rfl, lawNs, j, rfl, hj, hm, h⟩
/-! #### HQ -/
local macro_rules | `(tactic| walk_at "wp") => `(tactic| try simp only [z0, z1, z2, z3, z4, z5, z6, z7, z8, z9, z10, z11, z12, z13, z14, z15, z16, z17, z18, z19, z20, z21, z22, z23, z24, z25, z26, z27, z28, z29, z30, z31, z32, z33, z34, z35, z36, z37, z38, z39, z40, z41, z42, z43, z44, z45, z46, z47, z48, z49, z50, z51, z52, z53, z54, z55, z56, z57, z58, z59, z60, z61, z62, z63, z64, z65, z66, z67, z68, z69, z70, z71, z72, z73, z74, z75, z76, z77, z78, z79, z80, z81, z82, z83, zg0, zg1, wVar, wFrz, wC, wNil, wCons, w1, w2, w3, wAp, opD, cmD, oNeg, wB, wNotT, boolW, wAndT, wOrT, wNotV, boolV, wAndV, wOrV, wIte, wNo, wSo, wSl, wTup, wLst, wThw, wLof, wCat, wRep, wIsi, wM0, wM1, wIseq, wR1, wR2, wChr, wZip_eq, wEnum, wYes, wComp, wSkip, wSeq, wExpr, wRet, wCont, wSet, wAsg, wPar, wSub, wIf, wFor, wRaise, wCall, wCall0, seqOf_tup, seqOf_lst, seqOf_scr, lstOf_lst, lstOf_scr, lstX_lst, tupOf_tup, srcOf_tup, srcOf_lst, srcOf_scr, srcOf_han, srcOk_nil, srcOk_cons, oAdd_ii, oAdd_ss, oAdd_tt, oAdd_ll, oSub_ii, oMul_ii, oMul_ti, oDiv_ii, oMod_ii, oPow_ii, oNeg_i, oEq_ii, oNe_ii, oEq_ss, oNe_ss, oI_ii, oIs_n, oIsNot_n, oIs_b, oIsNot_b, isNon_n, isNon_b, isNon_i, isNon_s, isNon_t, isNon_l, isNon_h, oIx_t, oIx_l, oIx_s, oLen_t, oLen_l, oLen_s, oLen_str, oAbs_i, oTuple_l, oTuple_t, oSl_t, oSl_l, oInt_i, oInt_b, compGo_nil, compGo_cons, forGo_nil, forGo_cons, wipeD_nil, wipeD_cons, range_3, range_2, range_1, enumD_nil, enumD_1, enumD_2, enumD_3, zipD_nil, zipD_cons, ctOf, startD, List.map_cons, List.map_nil, List.length_cons, List.length_nil, List.cons_append, List.nil_append, List.append_nil, List.replicate, Nat.reduceAdd, Nat.reduceSub, Nat.sub_self, Nat.zero_add, List.getElem?_cons_zero, List.getElem?_cons_succ, List.getElem?_nil, List.set_cons_zero, List.set_cons_succ, ex_eq, ex_and, Option.some.injEq, exists_eq_left', exists_eq_left, exists_eq_right, D.bl.injEq, D.int.injEq, D.str.injEq, D.tup.injEq, D.lst.injEq, atI_0, atI_1, atI_2, reduceIte, zip_tt, zip_ll, ty_n, ty_b, ty_i, ty_s, ty_t, ty_l, ty_f, kit_ii, kit_ib, kit_bb, kit_bi, kit_it, kit_tt, kit_ti, kit_tb, kit_lt, kit_li, kit_st, kit_si, kit_ss, kit_nt, kit_ni, kit_fi, kit_ft, kit_is, kit_ns, kit_bt, oLen_V, Int.toNat_natCast, cut_t0, cut_t1, cut_t2, cut_f1, cut_f2, cut_f3, m2_0, m2_1, m2_2, List.take_succ_cons, List.take_zero, List.drop_succ_cons, List.drop_zero, List.take_nil, List.drop_nil, decide_true, decide_false, Bool.not_true, Bool.not_false, if_true, if_false, Bool.false_eq_true, Int.cast_ofNat_Int, Int.reduceEq, Int.reduceLT, Int.reduceLE, Int.reduceToNat, Int.reduceNeg, Nat.reduceEqDiff, decide_eq_true_eq, true_and, and_true, List.cons.injEq, and_self, Int.reduceSub, Int.reduceAdd, Int.reduceMul])
local macro_rules | `(tactic| walk_at "wps") => `(tactic| simp only [z0, z1, z2, z3, z4, z5, z6, z7, z8, z9, z10, z11, z12, z13, z14, z15, z16, z17, z18, z19, z20, z21, z22, z23, z24, z25, z26, z27, z28, z29, z30, z31, z32, z33, z34, z35, z36, z37, z38, z39, z40, z41, z42, z43, z44, z45, z46, z47, z48, z49, z50, z51, z52, z53, z54, z55, z56, z57, z58, z59, z60, z61, z62, z63, z64, z65, z66, z67, z68, z69, z70, z71, z72, z73, z74, z75, z76, z77, z78, z79, z80, z81, z82, z83, zg0, zg1, wVar, wFrz, wC, wNil, wCons, w1, w2, w3, wAp, opD, cmD, oNeg, wB, wNotT, boolW, wAndT, wOrT, wNotV, boolV, wAndV, wOrV, wIte, wNo, wSo, wSl, wTup, wLst, wThw, wLof, wCat, wRep, wIsi, wM0, wM1, wIseq, wR1, wR2, wChr, wZip_eq, wEnum, wYes, wComp, wSkip, wSeq, wExpr, wRet, wCont, wSet, wAsg, wPar, wSub, wIf, wFor, wRaise, wCall, wCall0, seqOf_tup, seqOf_lst, seqOf_scr, lstOf_lst, lstOf_scr, lstX_lst, tupOf_tup, srcOf_tup, srcOf_lst, srcOf_scr, srcOf_han, srcOk_nil, srcOk_cons, oAdd_ii, oAdd_ss, oAdd_tt, oAdd_ll, oSub_ii, oMul_ii, oMul_ti, oDiv_ii, oMod_ii, oPow_ii, oNeg_i, oEq_ii, oNe_ii, oEq_ss, oNe_ss, oI_ii, oIs_n, oIsNot_n, oIs_b, oIsNot_b, isNon_n, isNon_b, isNon_i, isNon_s, isNon_t, isNon_l, isNon_h, oIx_t, oIx_l, oIx_s, oLen_t, oLen_l, oLen_s, oLen_str, oAbs_i, oTuple_l, oTuple_t, oSl_t, oSl_l, oInt_i, oInt_b, compGo_nil, compGo_cons, forGo_nil, forGo_cons, wipeD_nil, wipeD_cons, range_3, range_2, range_1, enumD_nil, enumD_1, enumD_2, enumD_3, zipD_nil, zipD_cons, ctOf, startD, List.map_cons, List.map_nil, List.length_cons, List.length_nil, List.cons_append, List.nil_append, List.append_nil, List.replicate, Nat.reduceAdd, Nat.reduceSub, Nat.sub_self, Nat.zero_add, List.getElem?_cons_zero, List.getElem?_cons_succ, List.getElem?_nil, List.set_cons_zero, List.set_cons_succ, ex_eq, ex_and, Option.some.injEq, exists_eq_left', exists_eq_left, exists_eq_right, D.bl.injEq, D.int.injEq, D.str.injEq, D.tup.injEq, D.lst.injEq, atI_0, atI_1, atI_2, reduceIte, zip_tt, zip_ll, ty_n, ty_b, ty_i, ty_s, ty_t, ty_l, ty_f, kit_ii, kit_ib, kit_bb, kit_bi, kit_it, kit_tt, kit_ti, kit_tb, kit_lt, kit_li, kit_st, kit_si, kit_ss, kit_nt, kit_ni, kit_fi, kit_ft, kit_is, kit_ns, kit_bt, oLen_V, Int.toNat_natCast, cut_t0, cut_t1, cut_t2, cut_f1, cut_f2, cut_f3, m2_0, m2_1, m2_2, List.take_succ_cons, List.take_zero, List.drop_succ_cons, List.drop_zero, List.take_nil, List.drop_nil, decide_true, decide_false, Bool.not_true, Bool.not_false, if_true, if_false, Bool.false_eq_true, Int.cast_ofNat_Int, Int.reduceEq, Int.reduceLT, Int.reduceLE, Int.reduceToNat, Int.reduceNeg, Nat.reduceEqDiff, decide_eq_true_eq, true_and, and_true, List.cons.injEq, and_self, Int.reduceSub, Int.reduceAdd, Int.reduceMul, *])
/-! #### FV -/
local macro_rules | `(tactic| walk_at "wp") => `(tactic| try simp only [z0, z1, z2, z3, z4, z5, z6, z7, z8, z9, z10, z11, z12, z13, z14, z15, z16, z17, z18, z19, z20, z21, z22, z23, z24, z25, z26, z27, z28, z29, z30, z31, z32, z33, z34, z35, z36, z37, z38, z39, z40, z41, z42, z43, z44, z45, z46, z47, z48, z49, z50, z51, z52, z53, z54, z55, z56, z57, z58, z59, z60, z61, z62, z63, z64, z65, z66, z67, z68, z69, z70, z71, z72, z73, z74, z75, z76, z77, z78, z79, z80, z81, z82, z83, zg0, zg1, y0, y1, y2, y3, y4, y5, y6, y7, y8, y9, y10, y11, y12, y13, y14, sg0, sg1, sg2, sg3, sg4, sn0, sn1, sn2, sn3, sn4, sn5, sn6, sn7, sn8, sn9, sp1, sp4, si0, si1, si2, si3, si4, sl0, sl1, sl2, sl3, sl4, y15, y16, y17, y18, y19, y20, y21, y22, y23, y25a, y25b, y25c, wZipJ_eq, zipJ_tt, zipJ_lt, y26a, y27a, y28a, y28b, y29a, y30a, y31a, wVar, wFrz, wC, wNil, wCons, w1, w2, w3, wAp, opD, cmD, oNeg, wB, wNotT, boolW, wAndT, wOrT, wNotV, boolV, wAndV, wOrV, wIte, wNo, wSo, wSl, wTup, wLst, wThw, wLof, wCat, wRep, wIsi, wM0, wM1, wIseq, wR1, wR2, wChr, wZip_eq, wEnum, wYes, wComp, wSkip, wSeq, wExpr, wRet, wCont, wSet, wAsg, wPar, wSub, wIf, wFor, wRaise, wCall, wCall0, wTry, wIsX, wIsVE, wLofS, wFld, wSetF, wMet, wMet0, wMake, wLenO, wSrtD, wComp2, wPar3, wRev, wCallT, wSrtQ, wSrtS, wDead, wAskT, wLofR, wSub2, setO, wIsLD, seqOf_tup, seqOf_lst, seqOf_scr, lstOf_lst, lstOf_scr, lstX_lst, tupOf_tup, srcOf_tup, srcOf_lst, srcOf_scr, srcOf_han, srcOk_nil, srcOk_cons, oAdd_ii, oAdd_ss, oAdd_tt, oAdd_ll, oSub_ii, oMul_ii, oMul_ti, oMul_si, oDiv_ii, oMod_ii, oPow_ii, oNeg_i, oEq_ii, oNe_ii, oEq_ss, oNe_ss, oI_ii, oIs_n, oIsNot_n, oIs_b, oIsNot_b, isNon_n, isNon_b, isNon_i, isNon_s, isNon_t, isNon_l, isNon_h, oIx_t, oIx_l, oIx_s, oLen_t, oLen_l, oLen_s, oLen_str, oAbs_i, oTuple_l, oTuple_t, oSl_t, oSl_l, oInt_i, oInt_b, compGo_nil, compGo_cons, forGo_nil, forGo_cons, wipeD_nil, wipeD_cons, range_3, range_2, range_1, enumD_nil, enumD_1, enumD_2, enumD_3, zipD_nil, zipD_cons, oMin_ii, oRev_t, oNe_iN, oEq_iN, ctOf, startD, List.map_cons, List.map_nil, List.length_cons, List.length_nil, List.cons_append, List.nil_append, List.append_nil, List.replicate, Nat.reduceAdd, Nat.reduceSub, Nat.sub_self, Nat.zero_add, List.getElem?_cons_zero, List.getElem?_cons_succ, List.getElem?_nil, List.set_cons_zero, List.set_cons_succ, ex_eq, ex_and, Option.some.injEq, exists_eq_left', exists_eq_left, exists_eq_right, D.bl.injEq, D.int.injEq, D.str.injEq, D.tup.injEq, D.lst.injEq, D.han.injEq, O.ins.injEq, O.lst.injEq, atI_0, atI_1, atI_2, reduceIte, zip_tt, zip_ll, ty_n, ty_b, ty_i, ty_s, ty_t, ty_l, ty_f, kit_ii, kit_ib, kit_bb, kit_bi, kit_it, kit_tt, kit_ti, kit_tb, kit_lt, kit_li, kit_st, kit_si, kit_ss, kit_nt, kit_ni, kit_fi, kit_ft, kit_is, kit_ns, kit_bt, oLen_V, Int.toNat_natCast, cut_t0, cut_t1, cut_t2, cut_f1, cut_f2, cut_f3, m2_0, m2_1, m2_2, List.take_succ_cons, List.take_zero, List.drop_succ_cons, List.drop_zero, List.take_nil, List.drop_nil, decide_true, decide_false, Bool.not_true, Bool.not_false, if_true, if_false, Bool.false_eq_true, Int.cast_ofNat_Int, Int.reduceEq, Int.reduceLT, Int.reduceLE, Int.reduceToNat, Int.reduceNeg, Nat.reduceEqDiff, decide_eq_true_eq, true_and, and_true, List.cons.injEq, and_self, Int.reduceSub, Int.reduceAdd, Int.reduceMul])
local macro_rules | `(tactic| walk_at "wps") => `(tactic| simp only [z0, z1, z2, z3, z4, z5, z6, z7, z8, z9, z10, z11, z12, z13, z14, z15, z16, z17, z18, z19, z20, z21, z22, z23, z24, z25, z26, z27, z28, z29, z30, z31, z32, z33, z34, z35, z36, z37, z38, z39, z40, z41, z42, z43, z44, z45, z46, z47, z48, z49, z50, z51, z52, z53, z54, z55, z56, z57, z58, z59, z60, z61, z62, z63, z64, z65, z66, z67, z68, z69, z70, z71, z72, z73, z74, z75, z76, z77, z78, z79, z80, z81, z82, z83, zg0, zg1, y0, y1, y2, y3, y4, y5, y6, y7, y8, y9, y10, y11, y12, y13, y14, sg0, sg1, sg2, sg3, sg4, sn0, sn1, sn2, sn3, sn4, sn5, sn6, sn7, sn8, sn9, sp1, sp4, si0, si1, si2, si3, si4, sl0, sl1, sl2, sl3, sl4, y15, y16, y17, y18, y19, y20, y21, y22, y23, y25a, y25b, y25c, wZipJ_eq, zipJ_tt, zipJ_lt, y26a, y27a, y28a, y28b, y29a, y30a, y31a, wVar, wFrz, wC, wNil, wCons, w1, w2, w3, wAp, opD, cmD, oNeg, wB, wNotT, boolW, wAndT, wOrT, wNotV, boolV, wAndV, wOrV, wIte, wNo, wSo, wSl, wTup, wLst, wThw, wLof, wCat, wRep, wIsi, wM0, wM1, wIseq, wR1, wR2, wChr, wZip_eq, wEnum, wYes, wComp, wSkip, wSeq, wExpr, wRet, wCont, wSet, wAsg, wPar, wSub, wIf, wFor, wRaise, wCall, wCall0, wTry, wIsX, wIsVE, wLofS, wFld, wSetF, wMet, wMet0, wMake, wLenO, wSrtD, wComp2, wPar3, wRev, wCallT, wSrtQ, wSrtS, wDead, wAskT, wLofR, wSub2, setO, wIsLD, seqOf_tup, seqOf_lst, seqOf_scr, lstOf_lst, lstOf_scr, lstX_lst, tupOf_tup, srcOf_tup, srcOf_lst, srcOf_scr, srcOf_han, srcOk_nil, srcOk_cons, oAdd_ii, oAdd_ss, oAdd_tt, oAdd_ll, oSub_ii, oMul_ii, oMul_ti, oMul_si, oDiv_ii, oMod_ii, oPow_ii, oNeg_i, oEq_ii, oNe_ii, oEq_ss, oNe_ss, oI_ii, oIs_n, oIsNot_n, oIs_b, oIsNot_b, isNon_n, isNon_b, isNon_i, isNon_s, isNon_t, isNon_l, isNon_h, oIx_t, oIx_l, oIx_s, oLen_t, oLen_l, oLen_s, oLen_str, oAbs_i, oTuple_l, oTuple_t, oSl_t, oSl_l, oInt_i, oInt_b, compGo_nil, compGo_cons, forGo_nil, forGo_cons, wipeD_nil, wipeD_cons, range_3, range_2, range_1, enumD_nil, enumD_1, enumD_2, enumD_3, zipD_nil, zipD_cons, oMin_ii, oRev_t, oNe_iN, oEq_iN, ctOf, startD, List.map_cons, List.map_nil, List.length_cons, List.length_nil, List.cons_append, List.nil_append, List.append_nil, List.replicate, Nat.reduceAdd, Nat.reduceSub, Nat.sub_self, Nat.zero_add, List.getElem?_cons_zero, List.getElem?_cons_succ, List.getElem?_nil, List.set_cons_zero, List.set_cons_succ, ex_eq, ex_and, Option.some.injEq, exists_eq_left', exists_eq_left, exists_eq_right, D.bl.injEq, D.int.injEq, D.str.injEq, D.tup.injEq, D.lst.injEq, D.han.injEq, O.ins.injEq, O.lst.injEq, atI_0, atI_1, atI_2, reduceIte, zip_tt, zip_ll, ty_n, ty_b, ty_i, ty_s, ty_t, ty_l, ty_f, kit_ii, kit_ib, kit_bb, kit_bi, kit_it, kit_tt, kit_ti, kit_tb, kit_lt, kit_li, kit_st, kit_si, kit_ss, kit_nt, kit_ni, kit_fi, kit_ft, kit_is, kit_ns, kit_bt, oLen_V, Int.toNat_natCast, cut_t0, cut_t1, cut_t2, cut_f1, cut_f2, cut_f3, m2_0, m2_1, m2_2, List.take_succ_cons, List.take_zero, List.drop_succ_cons, List.drop_zero, List.take_nil, List.drop_nil, decide_true, decide_false, Bool.not_true, Bool.not_false, if_true, if_false, Bool.false_eq_true, Int.cast_ofNat_Int, Int.reduceEq, Int.reduceLT, Int.reduceLE, Int.reduceToNat, Int.reduceNeg, Nat.reduceEqDiff, decide_eq_true_eq, true_and, and_true, List.cons.injEq, and_self, Int.reduceSub, Int.reduceAdd, Int.reduceMul, *])
local macro_rules | `(tactic| walk_at "wpf") => `(tactic| try simp only [z0, z1, z2, z3, z4, z5, z6, z7, z8, z9, z10, z11, z12, z13, z14, z15, z16, z17, z18, z19, z20, z21, z22, z23, z24, z25, z26, z27, z28, z29, z30, z31, z32, z33, z34, z35, z36, z37, z38, z39, z40, z41, z42, z43, z44, z45, z46, z47, z48, z49, z50, z51, z52, z53, z54, z55, z56, z57, z58, z59, z60, z61, z62, z63, z64, z65, z66, z67, z68, z69, z70, z71, z72, z73, z74, z75, z76, z77, z78, z79, z80, z81, z82, z83, zg0, zg1, y0, y1, y2, y3, y4, y5, y6, y7, y8, y9, y10, y11, y12, y13, y14, sg0, sg1, sg2, sg3, sg4, sn0, sn1, sn2, sn3, sn4, sn5, sn6, sn7, sn8, sn9, sp1, sp4, si0, si1, si2, si3, si4, sl0, sl1, sl2, sl3, sl4, y15, y16, y17, y18, y19, y20, y21, y22, y23, y25a, y25b, y25c, wZipJ_eq, zipJ_tt, zipJ_lt, y26a, y27a, y28a, y28b, y29a, y30a, y31a, wVar, wFrz, wC, wNil, wCons, w1, w2, w3, wAp, opD, cmD, oNeg, wB, wNotT, boolW, wAndT, wOrT, wNotV, boolV, wAndV, wOrV, wIte, wNo, wSo, wSl, wTup, wLst, wThw, wLof, wCat, wRep, wIsi, wM0, wM1, wIseq, wR1, wR2, wChr, wZip_eq, wEnum, wYes, wComp, wSkip, wSeq, wExpr, wRet, wCont, wSet, wAsg, wPar, wSub, wIf, wFor, wRaise, wCall, wCall0, wTry, wIsX, wIsVE, wLofS, wFld, wSetF, wMet, wMet0, wMake, wLenO, wSrtD, wComp2, wPar3, wRev, wCallT, wSrtQ, wSrtS, wDead, wAskT, wLofR, wSub2, setO, wIsLD, seqOf_tup, seqOf_lst, seqOf_scr, lstOf_lst, lstOf_scr, lstX_lst, tupOf_tup, srcOf_tup, srcOf_lst, srcOf_scr, srcOf_han, srcOk_nil, srcOk_cons, oAdd_ii, oAdd_ss, oAdd_tt, oAdd_ll, oSub_ii, oMul_ii, oMul_ti, oMul_si, oDiv_ii, oMod_ii, oPow_ii, oNeg_i, oEq_ii, oNe_ii, oEq_ss, oNe_ss, oI_ii, oIs_n, oIsNot_n, oIs_b, oIsNot_b, isNon_n, isNon_b, isNon_i, isNon_s, isNon_t, isNon_l, isNon_h, oIx_t, oIx_l, oIx_s, oLen_t, oLen_l, oLen_s, oLen_str, oAbs_i, oTuple_l, oTuple_t, oSl_t, oSl_l, oInt_i, oInt_b, compGo_nil, compGo_cons, wipeD_nil, wipeD_cons, range_3, range_2, range_1, enumD_nil, enumD_1, enumD_2, enumD_3, zipD_nil, zipD_cons, oMin_ii, oRev_t, oNe_iN, oEq_iN, ctOf, startD, List.map_cons, List.map_nil, List.length_cons, List.length_nil, List.cons_append, List.nil_append, List.append_nil, List.replicate, Nat.reduceAdd, Nat.reduceSub, Nat.sub_self, Nat.zero_add, List.getElem?_cons_zero, List.getElem?_cons_succ, List.getElem?_nil, List.set_cons_zero, List.set_cons_succ, ex_eq, ex_and, Option.some.injEq, exists_eq_left', exists_eq_left, exists_eq_right, D.bl.injEq, D.int.injEq, D.str.injEq, D.tup.injEq, D.lst.injEq, D.han.injEq, O.ins.injEq, O.lst.injEq, atI_0, atI_1, atI_2, reduceIte, zip_tt, zip_ll, ty_n, ty_b, ty_i, ty_s, ty_t, ty_l, ty_f, kit_ii, kit_ib, kit_bb, kit_bi, kit_it, kit_tt, kit_ti, kit_tb, kit_lt, kit_li, kit_st, kit_si, kit_ss, kit_nt, kit_ni, kit_fi, kit_ft, kit_is, kit_ns, kit_bt, oLen_V, Int.toNat_natCast, cut_t0, cut_t1, cut_t2, cut_f1, cut_f2, cut_f3, m2_0, m2_1, m2_2, List.take_succ_cons, List.take_zero, List.drop_succ_cons, List.drop_zero, List.take_nil, List.drop_nil, decide_true, decide_false, Bool.not_true, Bool.not_false, if_true, if_false, Bool.false_eq_true, Int.cast_ofNat_Int, Int.reduceEq, Int.reduceLT, Int.reduceLE, Int.reduceToNat, Int.reduceNeg, Nat.reduceEqDiff, decide_eq_true_eq, true_and, and_true, List.cons.injEq, and_self, Int.reduceSub, Int.reduceAdd, Int.reduceMul])
local macro_rules | `(tactic| walk_at "wpe") => `(tactic| simp only [z0, z1, z2, z3, z4, z5, z6, z7, z8, z9, z10, z11, z12, z13, z14, z15, z16, z17, z18, z19, z20, z21, z22, z23, z24, z25, z26, z27, z28, z29, z30, z31, z32, z33, z34, z35, z36, z37, z38, z39, z40, z41, z42, z43, z44, z45, z46, z47, z48, z49, z50, z51, z52, z53, z54, z55, z56, z57, z58, z59, z60, z61, z62, z63, z64, z65, z66, z67, z68, z69, z70, z71, z72, z73, z74, z75, z76, z77, z78, z79, z80, z81, z82, z83, zg0, zg1, y0, y1, y2, y3, y4, y5, y6, y7, y8, y9, y10, y11, y12, y13, y14, sg0, sg1, sg2, sg3, sg4, sn0, sn1, sn2, sn3, sn4, sn5, sn6, sn7, sn8, sn9, sp1, sp4, si0, si1, si2, si3, si4, sl0, sl1, sl2, sl3, sl4, y15, y16, y17, y18, y19, y20, y21, y22, y23, y25a, y25b, y25c, wZipJ_eq, zipJ_tt, zipJ_lt, y26a, y27a, y28a, y28b, y29a, y30a, y31a, wVar, wFrz, wC, wNil, wCons, w1, w2, w3, wAp, opD, cmD, oNeg, wB, wNotT, boolW, wAndT, wOrT, wNotV, boolV, wAndV, wOrV, wIte, wNo, wSo, wSl, wTup, wLst, wThw, wLof, wCat, wRep, wIsi, wM0, wM1, wIseq, wR1, wR2, wChr, wZip_eq, wEnum, wYes, wComp, wSkip, wSeq, wExpr, wRet, wCont, wSet, wAsg, wPar, wSub, wIf, wFor, wRaise, wCall, wCall0, wTry, wIsX, wIsVE, wLofS, wFld, wSetF, wMet, wMet0, wMake, wLenO, wSrtD, wComp2, wPar3, wRev, wCallT, wSrtQ, wSrtS, wDead, wAskT, wLofR, wSub2, setO, wIsLD, seqOf_tup, seqOf_lst, seqOf_scr, lstOf_lst, lstOf_scr, lstX_lst, tupOf_tup, srcOf_tup, srcOf_lst, srcOf_scr, srcOf_han, srcOk_nil, srcOk_cons, oAdd_ii, oAdd_ss, oAdd_tt, oAdd_ll, oSub_ii, oMul_ii, oMul_ti, oMul_si, oDiv_ii, oMod_ii, oPow_ii, oNeg_i, oEq_ii, oNe_ii, oEq_ss, oNe_ss, oI_ii, oIs_n, oIsNot_n, oIs_b, oIsNot_b, isNon_n, isNon_b, isNon_i, isNon_s, isNon_t, isNon_l, isNon_h, oIx_t, oIx_l, oIx_s, oLen_t, oLen_l, oLen_s, oLen_str, oAbs_i, oTuple_l, oTuple_t, oSl_t, oSl_l, oInt_i, oInt_b, compGo_nil, compGo_cons, wipeD_nil, wipeD_cons, range_3, range_2, range_1, enumD_nil, enumD_1, enumD_2, enumD_3, zipD_nil, zipD_cons, oMin_ii, oRev_t, oNe_iN, oEq_iN, ctOf, startD, List.map_cons, List.map_nil, List.length_cons, List.length_nil, List.cons_append, List.nil_append, List.append_nil, List.replicate, Nat.reduceAdd, Nat.reduceSub, Nat.sub_self, Nat.zero_add, List.getElem?_cons_zero, List.getElem?_cons_succ, List.getElem?_nil, List.set_cons_zero, List.set_cons_succ, ex_eq, ex_and, Option.some.injEq, exists_eq_left', exists_eq_left, exists_eq_right, D.bl.injEq, D.int.injEq, D.str.injEq, D.tup.injEq, D.lst.injEq, D.han.injEq, O.ins.injEq, O.lst.injEq, atI_0, atI_1, atI_2, reduceIte, zip_tt, zip_ll, ty_n, ty_b, ty_i, ty_s, ty_t, ty_l, ty_f, kit_ii, kit_ib, kit_bb, kit_bi, kit_it, kit_tt, kit_ti, kit_tb, kit_lt, kit_li, kit_st, kit_si, kit_ss, kit_nt, kit_ni, kit_fi, kit_ft, kit_is, kit_ns, kit_bt, oLen_V, Int.toNat_natCast, cut_t0, cut_t1, cut_t2, cut_f1, cut_f2, cut_f3, m2_0, m2_1, m2_2, List.take_succ_cons, List.take_zero, List.drop_succ_cons, List.drop_zero, List.take_nil, List.drop_nil, decide_true, decide_false, Bool.not_true, Bool.not_false, if_true, if_false, Bool.false_eq_true, Int.cast_ofNat_Int, Int.reduceEq, Int.reduceLT, Int.reduceLE, Int.reduceToNat, Int.reduceNeg, Nat.reduceEqDiff, decide_eq_true_eq, true_and, and_true, List.cons.injEq, and_self, Int.reduceSub, Int.reduceAdd, Int.reduceMul])
local macro_rules | `(tactic| walk_at "wpc") => `(tactic| try simp only [z0, z1, z2, z3, z4, z5, z6, z7, z8, z9, z10, z11, z12, z13, z14, z15, z16, z17, z18, z19, z20, z21, z22, z23, z24, z25, z26, z27, z28, z29, z30, z31, z32, z33, z34, z35, z36, z37, z38, z39, z40, z41, z42, z43, z44, z45, z46, z47, z48, z49, z50, z51, z52, z53, z54, z55, z56, z57, z58, z59, z60, z61, z62, z63, z64, z65, z66, z67, z68, z69, z70, z71, z72, z73, z74, z75, z76, z77, z78, z79, z80, z81, z82, z83, zg0, zg1, y0, y1, y2, y3, y4, y5, y6, y7, y8, y9, y10, y11, y12, y13, y14, sg0, sg1, sg2, sg3, sg4, sn0, sn1, sn2, sn3, sn4, sn5, sn6, sn7, sn8, sn9, sp1, sp4, si0, si1, si2, si3, si4, sl0, sl1, sl2, sl3, sl4, y15, y16, y17, y18, y19, y20, y21, y22, y23, y25a, y25b, y25c, wZipJ_eq, zipJ_tt, zipJ_lt, y26a, y27a, y28a, y28b, y29a, y30a, y31a, wVar, wFrz, wC, wNil, wCons, w1, w2, w3, wAp, opD, cmD, oNeg, wB, wNotT, boolW, wAndT, wOrT, wNotV, boolV, wAndV, wOrV, wIte, wNo, wSo, wSl, wTup, wLst, wThw, wLof, wCat, wRep, wIsi, wM0, wM1, wIseq, wR1, wR2, wChr, wZip_eq, wEnum, wYes, wComp, wSkip, wSeq, wExpr, wRet, wCont, wSet, wAsg, wPar, wSub, wIf, wFor, wRaise, wCall, wCall0, wTry, wIsX, wIsVE, wLofS, wFld, wSetF, wMet, wMet0, wMake, wLenO, wSrtD, wComp2, wPar3, wRev, wCallT, wSrtQ, wSrtS, wDead, wAskT, wLofR, wSub2, setO, wIsLD, seqOf_tup, seqOf_lst, seqOf_scr, lstOf_lst, lstOf_scr, lstX_lst, tupOf_tup, srcOf_tup, srcOf_lst, srcOf_scr, srcOf_han, srcOk_nil, srcOk_cons, oAdd_ii, oAdd_ss, oAdd_tt, oAdd_ll, oSub_ii, oMul_ii, oMul_ti, oMul_si, oDiv_ii, oMod_ii, oPow_ii, oNeg_i, oEq_ii, oNe_ii, oEq_ss, oNe_ss, oI_ii, oIs_n, oIsNot_n, oIs_b, oIsNot_b, isNon_n, isNon_b, isNon_i, isNon_s, isNon_t, isNon_l, isNon_h, oIx_t, oIx_l, oIx_s, oLen_t, oLen_l, oLen_s, oLen_str, oAbs_i, oTuple_l, oTuple_t, oSl_t, oSl_l, oInt_i, oInt_b, wipeD_nil, wipeD_cons, range_3, range_2, range_1, enumD_nil, enumD_1, enumD_2, enumD_3, zipD_nil, zipD_cons, oMin_ii, oRev_t, oNe_iN, oEq_iN, ctOf, startD, List.map_cons, List.map_nil, List.length_cons, List.length_nil, List.cons_append, List.nil_append, List.append_nil, List.replicate, Nat.reduceAdd, Nat.reduceSub, Nat.sub_self, Nat.zero_add, List.getElem?_cons_zero, List.getElem?_cons_succ, List.getElem?_nil, List.set_cons_zero, List.set_cons_succ, ex_eq, ex_and, Option.some.injEq, exists_eq_left', exists_eq_left, exists_eq_right, D.bl.injEq, D.int.injEq, D.str.injEq, D.tup.injEq, D.lst.injEq, D.han.injEq, O.ins.injEq, O.lst.injEq, atI_0, atI_1, atI_2, reduceIte, zip_tt, zip_ll, ty_n, ty_b, ty_i, ty_s, ty_t, ty_l, ty_f, kit_ii, kit_ib, kit_bb, kit_bi, kit_it, kit_tt, kit_ti, kit_tb, kit_lt, kit_li, kit_st, kit_si, kit_ss, kit_nt, kit_ni, kit_fi, kit_ft, kit_is, kit_ns, kit_bt, oLen_V, Int.toNat_natCast, cut_t0, cut_t1, cut_t2, cut_f1, cut_f2, cut_f3, m2_0, m2_1, m2_2, List.take_succ_cons, List.take_zero, List.drop_succ_cons, List.drop_zero, List.take_nil, List.drop_nil, decide_true, decide_false, Bool.not_true, Bool.not_false, if_true, if_false, Bool.false_eq_true, Int.cast_ofNat_Int, Int.reduceEq, Int.reduceLT, Int.reduceLE, Int.reduceToNat, Int.reduceNeg, Nat.reduceEqDiff, decide_eq_true_eq, true_and, and_true, List.cons.injEq, and_self, Int.reduceSub, Int.reduceAdd, Int.reduceMul])
/-! ### the town beside other things of the store -/
theorem Frm.refl (L : List Nat) (S : Sto) : Frm L S S := ⟨Nat.le_refl _, fun _ _ _ => rfl⟩
theorem Frm.mono {L M : List Nat} {S S' : Sto} (h : Frm L S S') (hm : ∀ j ∈ L, j ∈ M) : Frm M S S' := ⟨h.1, fun j hj nj => h.2 j hj fun q => nj (hm j q)⟩
theorem Frm.trans {L : List Nat} {S T U : Sto} (h : Frm L S T) (g : Frm L T U) : Frm L S U :=
  ⟨Nat.le_trans h.1 g.1, fun j hj nj => (g.2 j (Nat.lt_of_lt_of_le hj h.1) nj).trans (h.2 j hj nj)⟩
theorem Gr.frm {S T : Sto} (h : Gr S T) : Frm [] S T := by
  obtain ⟨J, rfl⟩ := h
  exact ⟨by simp, fun j hj _ => List.getElem?_append_left hj⟩
theorem Frm.at {L : List Nat} {S S' : Sto} (h : Frm L S S') {j : Nat} {o : O} (e : S[j]? = some o) (n : j ∉ L) : S'[j]? = some o :=
  (h.2 j (List.getElem?_eq_some_iff.mp e).1 n).trans e
theorem Tw.at0 {ns : List Int} {k : Nat} {S : Sto} (t : Tw ns k S) : 0 < S.length := by
  obtain ⟨c, ts, J, rfl, a, b, e⟩ := t
  simp [tw]
theorem Tw.frm {ns : List Int} {k : Nat} {S S' : Sto} (t : Tw ns k S) {L : List Nat} (f : Frm L S S') (h : 0 ∉ L) : Tw ns k S' := by
  have h1 := t.at0
  obtain ⟨c, ts, J, rfl, a, b, e⟩ := t
  have h0 := f.2 0 h1 h
  cases S' with
  | nil => simp [tw] at h0
  | cons o J' =>
    refine ⟨c, ts, J', ?_, a, b, e⟩
    simp [tw] at h0
    rw [h0]
theorem Tw.drawF {ns : List Int} {k : Nat} {S : Sto} {limit : Int} {Q : QD} {X : XD} (t : Tw ns (k + 1) S) (h0 : 0 < limit) (hl : limit ≤ 1000000000) (q : ∀ (r : Int) (S' : Sto), 0 ≤ r → r < limit → Tw ns k S' → Frm [0] S S' → S'.length = S.length → Q (.int r) S') : c__law_draw [.scr (ns.map .int), .han 0, .int limit] S Q X := by
  obtain ⟨c, ts, J, rfl, a, b, e⟩ := t
  refine draw_call ⟨a, b, by omega⟩ h0 hl fun r ts' r0 r1 h => q r _ r0 r1 ⟨c + 1, ts', J, rfl, a, h, by omega⟩ ⟨by simp [tw], fun j hj nj => ?_⟩ (by simp [tw])
  cases j with
  | zero => simp at nj
  | succ j => simp [tw]
theorem Ses.frm {S S' : Sto} {i : Nat} {s : SV} (h : Ses S i s) {L : List Nat} (f : Frm L S S') (ni : i ∉ L) (ne : s.e ∉ L) (nd : s.d ∉ L) (nu : s.u ∉ L) : Ses S' i s :=
  ⟨f.at h.ins ni, f.at h.her ne, f.at h.hdn nd, f.at h.hun nu, h.ed, h.eu, h.du⟩
theorem Ses.id {S : Sto} {i : Nat} {s : SV} (h : Ses S i s) : i ≠ s.d := fun e => by have := h.ins; rw [e, h.hdn] at this; cases this
/-- the town and one session; at most m operations so far -/
structure TS (ns : List Int) (k m : Nat) (S : Sto) (i : Nat) (s : SV) : Prop where
  tw : Tw ns k S
  ses : Ses S i s
  ok : SOk s
  em : s.er.length ≤ m
  dm : s.dn.length ≤ m
  i0 : i ≠ 0
  e0 : s.e ≠ 0
  d0 : s.d ≠ 0
  u0 : s.u ≠ 0
theorem TS.mono {ns : List Int} {k j m : Nat} {S : Sto} {i : Nat} {s : SV} (t : TS ns k m S i s) (h : j ≤ k) : TS ns j m S i s := ⟨t.tw.mono h, t.ses, t.ok, t.em, t.dm, t.i0, t.e0, t.d0, t.u0⟩
theorem TS.frm {ns : List Int} {k m : Nat} {S S' : Sto} {i : Nat} {s : SV} (t : TS ns k m S i s) (f : Frm [] S S') : TS ns k m S' i s :=
  ⟨t.tw.frm f (by simp), t.ses.frm f (by simp) (by simp) (by simp) (by simp), t.ok, t.em, t.dm, t.i0, t.e0, t.d0, t.u0⟩
theorem TS.draw {ns : List Int} {k m : Nat} {S : Sto} {i : Nat} {s : SV} {limit : Int} {Q : QD} {X : XD} (t : TS ns (k + 1) m S i s) (h0 : 0 < limit) (hl : limit ≤ 1000000000) (q : ∀ (r : Int) (S' : Sto), 0 ≤ r → r < limit → TS ns k m S' i s → Q (.int r) S') : c__law_draw [.scr (ns.map .int), .han 0, .int limit] S Q X :=
  t.tw.drawF h0 hl fun r S' r0 r1 t' f _ => q r S' r0 r1 ⟨t', t.ses.frm f (by simpa using t.i0) (by simpa using t.e0) (by simpa using t.d0) (by simpa using t.u0), t.ok, t.em, t.dm, t.i0, t.e0, t.d0, t.u0⟩
theorem isV_bd {n : Int} {v : List Int} (h : isV n v = true) : (v.length : Int) = n ∧ Bd 1000000 v := by
  simp only [isV, Bool.and_eq_true, decide_eq_true_eq, List.all_eq_true] at h
  exact ⟨h.1, fun x hx => lim_iff.mp (h.2 x hx)⟩
theorem SOk.add {s : SV} (h : SOk s) {v : List Int} (hv : isV s.n v = true) (hl : s.cur.length < 8) {er dn un : List D} {e d u : Nat} (h1 : er.length ≤ 900) (h2 : dn.length ≤ 900) : SOk ⟨s.n, s.cur ++ [v], er, dn, un, e, d, u⟩ where
  n1 := h.n1
  n3 := h.n3
  len := fun r hr => by
    rcases List.mem_append.mp hr with q | q
    · exact h.len r q
    · have : r = v := by simpa using q
      subst this
      have := (isV_bd hv).1
      show r.length = s.n
      omega
  bd := fun r hr => by
    rcases List.mem_append.mp hr with q | q
    · exact h.bd r q
    · have : r = v := by simpa using q
      subst this
      exact (isV_bd hv).2
  few := by simp; omega
  er := h1
  dn := h2
theorem SOk.sub {s : SV} (h : SOk s) {C : List (List Int)} (hc : ∀ r ∈ C, r ∈ s.cur) (hl : C.length ≤ 8) {er dn un : List D} {e d u : Nat} (h1 : er.length ≤ 900) (h2 : dn.length ≤ 900) : SOk ⟨s.n, C, er, dn, un, e, d, u⟩ where
  n1 := h.n1
  n3 := h.n3
  len := fun r hr => h.len r (hc r hr)
  bd := fun r hr => h.bd r (hc r hr)
  few := hl
  er := h1
  dn := h2
theorem TS.next {ns : List Int} {k m : Nat} {S S' : Sto} {i : Nat} {s : SV} {C : List (List Int)} {x y : D} (t : TS ns k m S i s) (ok : SOk ⟨s.n, C, s.er ++ [x], s.dn ++ [y], [], s.e, s.d, S.length⟩) (h : Ses S' i ⟨s.n, C, s.er ++ [x], s.dn ++ [y], [], s.e, s.d, S.length⟩) (f : Frm [i, s.e, s.d] S S') :
    TS ns k (m + 1) S' i ⟨s.n, C, s.er ++ [x], s.dn ++ [y], [], s.e, s.d, S.length⟩ := by
  have := t.em; have := t.dm
  exact ⟨t.tw.frm f (by simp [t.i0.symm, t.e0.symm, t.d0.symm]), h, ok, by simp; omega, by simp; omega, t.i0, t.e0, t.d0, by have := t.tw.at0; show S.length ≠ 0; omega⟩
theorem TS.add {ns : List Int} {k m : Nat} {S : Sto} {i : Nat} {s : SV} {v : List Int} {Q : QD} {X : XD} (t : TS ns k m S i s) (hm : m < 900) (hv : isV s.n v = true) (hl : s.cur.length < 8)
    (q : ∀ (b : Bool) (S' : Sto) (s' : SV), (b = false ↔ Lat s.n s.cur v) → TS ns k (m + 1) S' i s' → s'.n = s.n → s'.cur = s.cur ++ [v] → Q (.bl b) S') : c_Session_add [.han i, VE v] S Q X := by
  have e1 := t.em; have e2 := t.dm; have n3 := t.ok.n3
  refine ⟨i, s, VE v, rfl, t.ses, t.ok, okVec_V (by have := (isV_bd hv).1; omega), ?_⟩
  rw [if_pos (by rw [isVD_V]; exact hv), if_neg (by omega)]
  intro v' ev hv' b hb S' h1 h2
  have ev' : v = v' := by
    have := congrArg toV ev
    rwa [toV_V, toV_V] at this
  subst ev'
  exact q b S' _ hb (t.next (t.ok.add hv hl (by simp; omega) (by simp; omega)) h1 h2) rfl rfl
theorem TS.remove {ns : List Int} {k m : Nat} {S : Sto} {i j : Nat} {s : SV} {Q : QD} {X : XD} (t : TS ns k m S i s) (hm : m < 900) (hj : j < s.cur.length)
    (q : ∀ (S' : Sto) (s' : SV), TS ns k (m + 1) S' i s' → s'.n = s.n → s'.cur = s.cur.eraseIdx j → Q (VE s.cur[j]) S') : c_Session_remove [.han i, .int (j : Nat)] S Q X := by
  have e1 := t.em; have e2 := t.dm
  refine ⟨i, s, _, rfl, t.ses, t.ok, rfl, ?_⟩
  rw [if_pos (by simp [btw]; omega)]
  intro j' hj' ej S' h1 h2
  have ej' : j = j' := by
    have : (j : Int) = j' := by injection ej
    omega
  subst ej'
  refine q S' _ (t.next (t.ok.sub (fun r hr => List.mem_of_mem_eraseIdx hr) ?_ (by simp; omega) (by simp; omega)) h1 h2) rfl rfl
  have := List.length_eraseIdx_le s.cur j
  have := t.ok.few
  omega
theorem TS.contains {ns : List Int} {k m : Nat} {S : Sto} {i : Nat} {s : SV} {v : List Int} {Q : QD} {X : XD} (t : TS ns k m S i s) (hv : isV s.n v = true)
    (q : ∀ b : Bool, (b = true ↔ Lat s.n s.cur v) → Q (.bl b) S) : c_Session_contains [.han i, VE v] S Q X := by
  have n3 := t.ok.n3
  refine ⟨i, s, VE v, rfl, t.ses, t.ok, okVec_V (by have := (isV_bd hv).1; omega), ?_⟩
  rw [if_pos (by rw [isVD_V]; exact hv)]
  intro v' ev b hb
  have ev' : v = v' := by
    have := congrArg toV ev
    rwa [toV_V, toV_V] at this
  subst ev'
  exact q b hb
theorem TS.make {ns : List Int} {k n : Nat} {S : Sto} {P : Sto → Prop} {X : XD} (t : Tw ns k S) (h1 : 1 ≤ n) (h3 : n ≤ 3) (q : ∀ (S' : Sto) (s : SV), TS ns k 0 S' S.length s → s.n = n → s.cur = [] → P S') :
    c_Session___init__ [.han S.length, .int n] (S ++ [.ins "Session" []]) (fun v S2 => v = .non ∧ P S2) X := by
  have l := t.at0
  refine ⟨S.length, .int n, rfl, rfl, by simp, ?_⟩
  rw [if_pos (by simp [btw]; omega)]
  intro n' en S' hs hf
  have en' : n = n' := by
    have : (n : Int) = n' := by injection en
    omega
  subst en'
  refine ⟨rfl, q S' _ ⟨t.frm (L := [S.length]) ⟨by have := hf.1; simp at this; omega, fun j hj nj => ?_⟩ (by simp; omega), hs, ⟨h1, h3, by intro r hr; simp at hr, by intro r hr; simp at hr, by simp, by simp, by simp⟩, by simp, by simp, by omega, by simp, by simp, by simp⟩ rfl rfl⟩
  rw [hf.2 j (by simp; omega) nj]
  exact List.getElem?_append_left hj
/-- a list of values, some draws each -/
theorem compGo_dr {α β : Type} {bd : D → Env → Sto → Option Env} {e : WE} {env : Env} {Q : QL} (enc : α → D) (out : β → D) (P : α → β → Prop) (I : Nat → Sto → Prop) (k m : Nat) : ∀ (L : List α) (acc : List D) (S : Sto), I (k + m * L.length) S →
    (∀ a ∈ L, ∀ j S', I (j + m) S' → ∃ env', bd (enc a) env S' = some env' ∧ ∀ Qd : QD, (∀ x S'', P a x → I j S'' → Qd (out x) S'') → e env' S' Qd noX) →
    (∀ (xs : List β) S', All2 P L xs → I k S' → Q (acc ++ xs.map out) S') → compGo bd wYes e env [] (L.map enc) S acc Q
  | [], acc, S, t, _, hq => ⟨True.intro, by simpa using hq [] S .nil (by simpa using t)⟩
  | a :: L, acc, S, t, h, hq => by
    have t' : I ((k + m * L.length) + m) S := by
      rw [List.length_cons, Nat.mul_add, Nat.mul_one, ← Nat.add_assoc] at t; exact t
    obtain ⟨env', hb, he⟩ := h a List.mem_cons_self _ S t'
    refine ⟨True.intro, env', hb, ?_⟩
    show if true = true then e env' S (fun x S2 => compGo bd wYes e env [] (List.map enc L) S2 (acc ++ [x]) Q) noX else compGo bd wYes e env [] (List.map enc L) S acc Q
    rw [if_pos rfl]
    refine he _ fun x S'' hp t'' => compGo_dr enc out P I k m L _ S'' t'' (fun b hb => h b (List.mem_cons_of_mem _ hb)) fun xs S3 hx t3 => ?_
    have := hq (x :: xs) S3 (.cons hp hx) t3
    simpa using this
/-! #### MN -/
/-! Short vectors: forms in two and three variables. -/
/-- the length of a vector (its product with itself) -/
abbrev nm (v : List Int) : Int := dot v v
/-- the form of two vectors -/
def fq2 (a b d x y : Int) : Int := a * x * x + b * y * y + 2 * d * x * y
def fq3 (a b c d e f x y z : Int) : Int := a * x * x + b * y * y + c * z * z + 2 * d * x * y + 2 * e * x * z + 2 * f * y * z
theorem sq_nn (x : Int) : 0 ≤ x * x := by
  rcases Int.le_total 0 x with h | h
  · exact Int.mul_nonneg h h
  · exact Int.mul_nonneg_of_nonpos_of_nonpos h h
theorem sq_pos {x : Int} (h : x ≠ 0) : 1 ≤ x * x := by
  have := sq_nn x
  rcases Int.lt_or_le 0 (x * x) with q | q
  · exact q
  · exfalso
    have : x * x = 0 := by omega
    rcases Int.mul_eq_zero.mp this with r | r <;> exact h r
/-- the nearest whole number to t / b -/
def nrst (t b : Int) : Int := (2 * t + b).fdiv (2 * b)
theorem nrst_spec (t : Int) {b : Int} (hb : 0 < b) : -b ≤ 2 * (t - nrst t b * b) ∧ 2 * (t - nrst t b * b) < b := by
  unfold nrst
  have h1 := Int.fmod_add_mul_fdiv (2 * t + b) (2 * b)
  have h2 := Int.fmod_nonneg_of_pos (2 * t + b) (show 0 < 2 * b by omega)
  have h3 := Int.fmod_lt_of_pos (2 * t + b) (show 0 < 2 * b by omega)
  have h4 : 2 * b * (2 * t + b).fdiv (2 * b) = 2 * ((2 * t + b).fdiv (2 * b) * b) := by grind
  rw [h4] at h1
  omega
/-- a times the form is a square and D y y -/
theorem fq2_mul (a b d x y : Int) : a * fq2 a b d x y = (a * x + d * y) * (a * x + d * y) + (a * b - d * d) * (y * y) := by
  unfold fq2; grind
theorem fq3_mul (a b c d e f x y z : Int) : (a * b - d * d) * (a * b - d * d) * fq3 a b c d e f x y z =
    (a * b - d * d) * (z * z) * (a * b * c + 2 * d * e * f - a * f * f - b * e * e - c * d * d) + fq2 a b d ((a * b - d * d) * x + z * (e * b - f * d)) ((a * b - d * d) * y + z * (f * a - e * d)) := by
  unfold fq2 fq3; grind
theorem le_of_mul {a b k : Int} (hk : 0 < k) (h : k * a ≤ k * b) : a ≤ b := Int.le_of_mul_le_mul_left h hk
theorem mul_mono {a b k : Int} (hk : 0 ≤ k) (h : a ≤ b) : k * a ≤ k * b := Int.mul_le_mul_of_nonneg_left h hk
/-- 3 a b <= 4 D -/
theorem d_low {a b d : Int} (ha : 0 < a) (hab : a ≤ b) (hd : (2 * d).natAbs ≤ a.natAbs) : 3 * (a * b) ≤ 4 * (a * b - d * d) := by
  have h1 : 4 * (d * d) ≤ a * a := by
    have h2 : (2 * d).natAbs * (2 * d).natAbs ≤ a.natAbs * a.natAbs := Nat.mul_le_mul hd hd
    have h3 : (((2 * d).natAbs * (2 * d).natAbs : Nat) : Int) ≤ ((a.natAbs * a.natAbs : Nat) : Int) := Int.ofNat_le.mpr h2
    rw [Int.natAbs_mul_self, Int.natAbs_mul_self] at h3
    have : 2 * d * (2 * d) = 4 * (d * d) := by grind
    omega
  have h4 : a * a ≤ a * b := mul_mono (by omega) hab
  omega
/-- the half of the first: a x x + 2 d x >= 0 -/
theorem half_ok {a d : Int} (ha : 0 < a) (hd : (2 * d).natAbs ≤ a.natAbs) (x : Int) : 0 ≤ a * x * x + 2 * d * x := by
  have h : a * x * x + 2 * d * x = x * (a * x + 2 * d) := by grind
  rw [h]
  have e : (2 * d).natAbs ≤ a.natAbs := hd
  rcases Int.lt_trichotomy x 0 with q | q | q
  · refine Int.mul_nonneg_of_nonpos_of_nonpos (by omega) ?_
    have : a * x ≤ a * (-1) := mul_mono (by omega) (by omega)
    omega
  · subst q; simp
  · refine Int.mul_nonneg (by omega) ?_
    have : a * 1 ≤ a * x := mul_mono (by omega) (by omega)
    omega
theorem fq2_last {a b d x y : Int} (ha : 0 < a) (hab : a ≤ b) (hd : (2 * d).natAbs ≤ a.natAbs) (hy : y ≠ 0) : b ≤ fq2 a b d x y := by
  have lo := d_low ha hab hd
  by_cases h1 : y = 1
  · subst h1
    have := half_ok ha hd x
    unfold fq2
    have e : a * x * x + b * 1 * 1 + 2 * d * x * 1 = b + (a * x * x + 2 * d * x) := by grind
    omega
  by_cases h2 : y = -1
  · subst h2
    have := half_ok ha hd (-x)
    unfold fq2
    have e : a * x * x + b * (-1) * (-1) + 2 * d * x * (-1) = b + (a * -x * -x + 2 * d * -x) := by grind
    omega
  have hy2 : 4 ≤ y * y := by
    rcases Int.lt_or_le y 0 with q | q
    · have : 2 * 2 ≤ (-y) * (-y) := Int.mul_le_mul (by omega) (by omega) (by omega) (by omega)
      have e : (-y) * (-y) = y * y := by grind
      omega
    · have : 2 * 2 ≤ y * y := Int.mul_le_mul (by omega) (by omega) (by omega) (by omega)
      omega
  refine le_of_mul ha ?_
  rw [fq2_mul]
  have s := sq_nn (a * x + d * y)
  have ab : 0 ≤ a * b := Int.mul_nonneg (by omega) (by omega)
  have h4 : (a * b - d * d) * 4 ≤ (a * b - d * d) * (y * y) := mul_mono (by omega) hy2
  omega
theorem fq2_first {a b d x : Int} (ha : 0 < a) (hx : x ≠ 0) : a ≤ fq2 a b d x 0 := by
  unfold fq2
  have := sq_pos hx
  have h : a * 1 ≤ a * (x * x) := mul_mono (by omega) this
  have e : a * x * x + b * 0 * 0 + 2 * d * x * 0 = a * (x * x) := by grind
  omega
theorem sq_le {x B : Int} (h1 : -B ≤ x) (h2 : x ≤ B) : x * x ≤ B * B := by
  rcases Int.le_total 0 x with q | q
  · exact Int.mul_le_mul h2 h2 q (by omega)
  · have : (-x) * (-x) ≤ B * B := Int.mul_le_mul (by omega) (by omega) (by omega) (by omega)
    have e : (-x) * (-x) = x * x := by grind
    omega
/-- of all numbers alike by B the one about 0 has the least square -/
theorem near_sq {B w w' k : Int} (hB : 0 < B) (h : w = w' + k * B) (h1 : -B ≤ 2 * w') (h2 : 2 * w' ≤ B) : w' * w' ≤ w * w := by
  rcases Int.lt_trichotomy k 0 with q | q | q
  · have : k * B ≤ (-1) * B := Int.mul_le_mul_of_nonneg_right (by omega) (by omega)
    have h3 : w' * w' ≤ (-w) * (-w) := sq_le (by omega) (by omega)
    have e : (-w) * (-w) = w * w := by grind
    omega
  · subst q
    have : w = w' := by omega
    rw [this]; omega
  · have : 1 * B ≤ k * B := Int.mul_le_mul_of_nonneg_right (by omega) (by omega)
    exact sq_le (by omega) (by omega)
section
variable {a b d : Int} (ha : 0 < a) (hD : 0 < a * b - d * d)
include ha hD
theorem fq2_nn {x y : Int} : 0 ≤ fq2 a b d x y := by
  refine le_of_mul ha ?_
  rw [fq2_mul]
  have h1 := sq_nn (a * x + d * y)
  have h2 : 0 ≤ (a * b - d * d) * (y * y) := Int.mul_nonneg (by omega) (sq_nn y)
  omega
/-- for a given Y, some X about -d Y / a -/
theorem best_x (u y : Int) : ∃ s : Int, -(a * (a * b - d * d)) ≤ 2 * (a * ((a * b - d * d) * s + u) + d * y) ∧ 2 * (a * ((a * b - d * d) * s + u) + d * y) ≤ a * (a * b - d * d) := by
  have h := nrst_spec (a * u + d * y) (Int.mul_pos ha hD)
  refine ⟨-nrst (a * u + d * y) (a * (a * b - d * d)), ?_⟩
  have e : a * ((a * b - d * d) * -nrst (a * u + d * y) (a * (a * b - d * d)) + u) + d * y = a * u + d * y - nrst (a * u + d * y) (a * (a * b - d * d)) * (a * (a * b - d * d)) := by grind
  rw [e]; omega
/-- the rounding of Babai -/
theorem babai (u v : Int) : ∃ s : Int, (-(a * (a * b - d * d)) ≤ 2 * (a * ((a * b - d * d) * s + u) + d * ((a * b - d * d) * -nrst v (a * b - d * d) + v)) ∧ 2 * (a * ((a * b - d * d) * s + u) + d * ((a * b - d * d) * -nrst v (a * b - d * d) + v)) ≤ a * (a * b - d * d)) ∧
    4 * (a * fq2 a b d ((a * b - d * d) * s + u) ((a * b - d * d) * -nrst v (a * b - d * d) + v)) ≤ (a * b - d * d) * (a * b - d * d) * (a * a + (a * b - d * d)) := by
  obtain ⟨s, h1, h2⟩ := best_x ha hD u ((a * b - d * d) * -nrst v (a * b - d * d) + v)
  refine ⟨s, ⟨h1, h2⟩, ?_⟩
  have h3 := nrst_spec v hD
  have e : (a * b - d * d) * -nrst v (a * b - d * d) + v = v - nrst v (a * b - d * d) * (a * b - d * d) := by grind
  rw [fq2_mul]
  generalize hY : (a * b - d * d) * -nrst v (a * b - d * d) + v = Y at *
  generalize hX : (a * b - d * d) * s + u = X at *
  rw [← e] at h3
  generalize hDD : a * b - d * d = DD at *
  have s1 : (2 * (a * X + d * Y)) * (2 * (a * X + d * Y)) ≤ (a * DD) * (a * DD) := sq_le h1 h2
  have s2 : (2 * Y) * (2 * Y) ≤ DD * DD := sq_le (by omega) (by omega)
  have s3 : DD * ((2 * Y) * (2 * Y)) ≤ DD * (DD * DD) := mul_mono (by omega) s2
  have e1 : (2 * (a * X + d * Y)) * (2 * (a * X + d * Y)) = 4 * ((a * X + d * Y) * (a * X + d * Y)) := by grind
  have e2 : DD * ((2 * Y) * (2 * Y)) = 4 * (DD * (Y * Y)) := by grind
  have e3 : DD * DD * (a * a + DD) = (a * DD) * (a * DD) + DD * (DD * DD) := by grind
  omega
end
/-- the determinant of the products -/
def g3 (a b c d e f : Int) : Int := a * b * c + 2 * d * e * f - a * f * f - b * e * e - c * d * d
theorem fq3_mul' (a b c d e f x y z : Int) : (a * b - d * d) * (a * b - d * d) * fq3 a b c d e f x y z =
    (a * b - d * d) * (z * z) * g3 a b c d e f + fq2 a b d ((a * b - d * d) * x + z * (e * b - f * d)) ((a * b - d * d) * y + z * (f * a - e * d)) := fq3_mul a b c d e f x y z
theorem pos_of_low {a b d : Int} (ha : 0 < a) (hab : a ≤ b) (hd : (2 * d).natAbs ≤ a.natAbs) : 0 < a * b - d * d := by
  have := d_low ha hab hd
  have : 0 < a * b := Int.mul_pos ha (by omega)
  omega
/-- the last vector is not much longer than its height -/
theorem height {a b c d e f : Int} (ha : 0 < a) (hab : a ≤ b) (hbc : b ≤ c) (hd : (2 * d).natAbs ≤ a.natAbs) (h : ∀ s t, c ≤ fq3 a b c d e f s t 1) : (a * b - d * d) * c ≤ 2 * g3 a b c d e f := by
  have hD := pos_of_low ha hab hd
  obtain ⟨s, _, hs⟩ := babai ha hD (1 * (e * b - f * d)) (1 * (f * a - e * d))
  have hc := h s (-nrst (1 * (f * a - e * d)) (a * b - d * d))
  have m := fq3_mul' a b c d e f s (-nrst (1 * (f * a - e * d)) (a * b - d * d)) 1
  generalize fq2 a b d ((a * b - d * d) * s + 1 * (e * b - f * d)) ((a * b - d * d) * -nrst (1 * (f * a - e * d)) (a * b - d * d) + 1 * (f * a - e * d)) = q at m hs
  generalize fq3 a b c d e f s (-nrst (1 * (f * a - e * d)) (a * b - d * d)) 1 = p at m hc
  generalize g3 a b c d e f = g at m ⊢
  have hDab : a * b - d * d ≤ a * b := by have := sq_nn d; omega
  generalize a * b - d * d = DD at *
  -- 4 q <= DD DD (a + b)
  have h1 : 4 * q ≤ DD * DD * (a + b) := by
    refine le_of_mul ha ?_
    have e1 : a * (4 * q) = 4 * (a * q) := by grind
    have e2 : a * (DD * DD * (a + b)) = DD * DD * (a * a + a * b) := by grind
    have : DD * DD * (a * a + DD) ≤ DD * DD * (a * a + a * b) := mul_mono (sq_nn DD) (by omega)
    omega
  have h2 : DD * DD * (a + b) ≤ DD * DD * (2 * c) := mul_mono (sq_nn DD) (by omega)
  have h3 : DD * DD * c ≤ DD * DD * p := mul_mono (sq_nn DD) hc
  refine le_of_mul hD ?_
  have e3 : DD * (1 * 1) * g = DD * g := by grind
  have e4 : DD * (DD * c) = DD * DD * c := by grind
  have e5 : DD * (2 * g) = 2 * (DD * g) := by grind
  have e6 : DD * DD * (2 * c) = 2 * (DD * DD * c) := by grind
  omega
theorem fq3_neg (a b c d e f x y z : Int) : fq3 a b c d e f x y z = fq3 a b c d e f (-x) (-y) (-z) := by
  unfold fq3; grind
/-- vectors with a last coefficient of 2 or more are longer by far -/
theorem fq3_far {a b c d e f x y z : Int} (ha : 0 < a) (hab : a ≤ b) (hbc : b ≤ c) (hd : (2 * d).natAbs ≤ a.natAbs) (h : ∀ s t, c ≤ fq3 a b c d e f s t 1) (hz : 4 ≤ z * z) : 2 * c ≤ fq3 a b c d e f x y z := by
  have hD := pos_of_low ha hab hd
  have hg := height ha hab hbc hd h
  have m := fq3_mul' a b c d e f x y z
  have n := fq2_nn ha hD (x := (a * b - d * d) * x + z * (e * b - f * d)) (y := (a * b - d * d) * y + z * (f * a - e * d))
  generalize fq2 a b d ((a * b - d * d) * x + z * (e * b - f * d)) ((a * b - d * d) * y + z * (f * a - e * d)) = q at m n
  generalize fq3 a b c d e f x y z = p at m ⊢
  generalize g3 a b c d e f = g at m hg
  generalize a * b - d * d = DD at *
  have hc : 0 < c := by omega
  have hg0 : 0 ≤ g := by
    have : 0 ≤ DD * c := Int.mul_nonneg (by omega) (by omega)
    omega
  have h1 : DD * 4 * g ≤ DD * (z * z) * g := Int.mul_le_mul_of_nonneg_right (mul_mono (by omega) hz) hg0
  have h2 : DD * (DD * c) ≤ DD * (2 * g) := mul_mono (by omega) hg
  refine le_of_mul (Int.mul_pos hD hD) ?_
  have e1 : DD * 4 * g = 4 * (DD * g) := by grind
  have e2 : DD * (2 * g) = 2 * (DD * g) := by grind
  have e3 : DD * DD * (2 * c) = 2 * (DD * (DD * c)) := by grind
  omega
theorem four_le {z : Int} (h0 : z ≠ 0) (h1 : z ≠ 1) (h2 : z ≠ -1) : 4 ≤ z * z := by
  rcases Int.lt_or_le z 0 with q | q
  · have : 2 * 2 ≤ (-z) * (-z) := Int.mul_le_mul (by omega) (by omega) (by omega) (by omega)
    have e : (-z) * (-z) = z * z := by grind
    omega
  · have : 2 * 2 ≤ z * z := Int.mul_le_mul (by omega) (by omega) (by omega) (by omega)
    omega
theorem fq3_last {a b c d e f x y z : Int} (ha : 0 < a) (hab : a ≤ b) (hbc : b ≤ c) (hd : (2 * d).natAbs ≤ a.natAbs) (h : ∀ s t, c ≤ fq3 a b c d e f s t 1) (hz : z ≠ 0) : c ≤ fq3 a b c d e f x y z := by
  by_cases h1 : z = 1
  · subst h1; exact h x y
  by_cases h2 : z = -1
  · subst h2
    rw [fq3_neg]
    exact h _ _
  have := fq3_far (x := x) (y := y) ha hab hbc hd h (four_le hz h1 h2)
  omega
/-- what is tried about the middle has the least of all -/
theorem window {a b c d e f : Int} (ha : 0 < a) (hab : a ≤ b) (hd : (2 * d).natAbs ≤ a.natAbs) (s t : Int) :
    ∃ i j : Int, (-2 ≤ i ∧ i ≤ 2) ∧ (-2 ≤ j ∧ j ≤ 2) ∧ fq3 a b c d e f (-nrst (e * b - f * d) (a * b - d * d) + i) (-nrst (f * a - e * d) (a * b - d * d) + j) 1 ≤ fq3 a b c d e f s t 1 := by
  have hD := pos_of_low ha hab hd
  have lo := d_low ha hab hd
  have hu := nrst_spec (e * b - f * d) hD
  have hv := nrst_spec (f * a - e * d) hD
  generalize hU : e * b - f * d = u at *
  generalize hV : f * a - e * d = v at *
  have red : ∀ s t s' t' : Int, fq2 a b d ((a * b - d * d) * s' + u) ((a * b - d * d) * t' + v) ≤ fq2 a b d ((a * b - d * d) * s + u) ((a * b - d * d) * t + v) → fq3 a b c d e f s' t' 1 ≤ fq3 a b c d e f s t 1 := by
    intro s t s' t' h
    refine le_of_mul (Int.mul_pos hD hD) ?_
    rw [fq3_mul', fq3_mul', hU, hV]
    simp only [Int.one_mul]
    omega
  have adb : d.natAbs * 2 ≤ a.natAbs := by omega
  -- some x for a y that is not great
  have inX : ∀ s Y : Int, (-(a * (a * b - d * d)) ≤ 2 * (a * ((a * b - d * d) * s + u) + d * Y)) → (2 * (a * ((a * b - d * d) * s + u) + d * Y) ≤ a * (a * b - d * d)) → -(a * b - d * d) ≤ Y → Y ≤ a * b - d * d → ∃ i, (-2 ≤ i ∧ i ≤ 2) ∧ s = -nrst u (a * b - d * d) + i := by
    intro s Y h1 h2 h3 h4
    refine ⟨s + nrst u (a * b - d * d), ?_, by omega⟩
    -- 2 |d Y| <= a D
    have dY : -(a * (a * b - d * d)) ≤ 2 * (d * Y) ∧ 2 * (d * Y) ≤ a * (a * b - d * d) := by
      have n1 : (d * Y).natAbs * 2 ≤ a.natAbs * (a * b - d * d).natAbs := by
        rw [Int.natAbs_mul, Nat.mul_right_comm]
        exact Nat.mul_le_mul adb (by omega)
      rw [← Int.natAbs_mul] at n1
      have : 0 < a * (a * b - d * d) := Int.mul_pos ha hD
      omega
    generalize a * b - d * d = DD at *
    have k1 : a * (2 * (DD * s + u)) ≤ a * (2 * DD) := by
      have e1 : a * (2 * (DD * s + u)) = 2 * (a * (DD * s + u) + d * Y) - 2 * (d * Y) := by grind
      have e2 : a * (2 * DD) = a * DD + a * DD := by grind
      omega
    have k2 : a * (2 * -DD) ≤ a * (2 * (DD * s + u)) := by
      have e1 : a * (2 * (DD * s + u)) = 2 * (a * (DD * s + u) + d * Y) - 2 * (d * Y) := by grind
      have e2 : a * (2 * -DD) = -(a * DD) - a * DD := by grind
      omega
    have k1 := le_of_mul ha k1
    have k2 := le_of_mul ha k2
    -- DD (s + nrst) = (DD s + u) - (u - nrst DD)
    have e3 : DD * (s + nrst u DD) = (DD * s + u) - (u - nrst u DD * DD) := by grind
    constructor
    · refine Int.le_of_lt_add_one (Int.lt_of_mul_lt_mul_left (a := DD) ?_ (by omega))
      have e4 : DD * (s + nrst u DD + 1) = DD * (s + nrst u DD) + DD := by grind
      have e5 : DD * -2 = -DD - DD := by grind
      omega
    · refine Int.le_of_lt_add_one (Int.lt_of_mul_lt_mul_left (a := DD) ?_ (by omega))
      have e5 : DD * (2 + 1) = DD + DD + DD := by grind
      omega
  by_cases hcase : (a * b - d * d) * (a * b - d * d) * (a * a + (a * b - d * d)) ≤ 4 * (a * fq2 a b d ((a * b - d * d) * s + u) ((a * b - d * d) * t + v))
  · -- Babai's own
    obtain ⟨s', ⟨h1, h2⟩, h3⟩ := babai ha hD u v
    have hY : (a * b - d * d) * -nrst v (a * b - d * d) + v = v - nrst v (a * b - d * d) * (a * b - d * d) := by grind
    obtain ⟨i, hi, e⟩ := inX s' _ h1 h2 (by rw [hY]; omega) (by rw [hY]; omega)
    refine ⟨i, 0, hi, by omega, ?_⟩
    rw [← e, Int.add_zero]
    refine red _ _ _ _ (le_of_mul ha ?_)
    omega
  · -- y is small; the best x for it
    have m := fq2_mul a b d ((a * b - d * d) * s + u) ((a * b - d * d) * t + v)
    obtain ⟨s', h1, h2⟩ := best_x ha hD u ((a * b - d * d) * t + v)
    have m' := fq2_mul a b d ((a * b - d * d) * s' + u) ((a * b - d * d) * t + v)
    have nsq : (a * ((a * b - d * d) * s' + u) + d * ((a * b - d * d) * t + v)) * (a * ((a * b - d * d) * s' + u) + d * ((a * b - d * d) * t + v)) ≤ (a * ((a * b - d * d) * s + u) + d * ((a * b - d * d) * t + v)) * (a * ((a * b - d * d) * s + u) + d * ((a * b - d * d) * t + v)) :=
      near_sq (B := a * (a * b - d * d)) (k := s - s') (Int.mul_pos ha hD) (by grind) h1 h2
    have sq0 := sq_nn (a * ((a * b - d * d) * s + u) + d * ((a * b - d * d) * t + v))
    have y1 : -(a * b - d * d) < (a * b - d * d) * t + v ∧ (a * b - d * d) * t + v < a * b - d * d := by
      have aab : a * a ≤ a * b := mul_mono (by omega) hab
      generalize (a * b - d * d) * t + v = Y at *
      generalize hDD : a * b - d * d = DD at *
      have k1 : 4 * (DD * (Y * Y)) < DD * DD * (a * a + DD) := by omega
      have k2 : DD * (4 * (Y * Y)) < DD * (DD * (a * a + DD)) := by
        have e1 : DD * (4 * (Y * Y)) = 4 * (DD * (Y * Y)) := by grind
        have e2 : DD * (DD * (a * a + DD)) = DD * DD * (a * a + DD) := by grind
        omega
      have k3 := Int.lt_of_mul_lt_mul_left k2 (by omega)
      have k4 : DD * (3 * (a * a + DD)) ≤ DD * (7 * DD) := mul_mono (by omega) (by omega)
      have k5 : DD * (3 * (a * a + DD)) = 3 * (DD * (a * a + DD)) := by grind
      have k6 : DD * (7 * DD) = 7 * (DD * DD) := by grind
      have k7 : 0 < DD * DD := Int.mul_pos hD hD
      have k8 : Y * Y < DD * DD := by omega
      constructor
      · rcases Int.lt_or_le (-DD) Y with q | q
        · exact q
        · exfalso
          have : DD * DD ≤ (-Y) * (-Y) := Int.mul_le_mul (by omega) (by omega) (by omega) (by omega)
          have e : (-Y) * (-Y) = Y * Y := by grind
          omega
      · rcases Int.lt_or_le Y DD with q | q
        · exact q
        · exfalso
          have : DD * DD ≤ Y * Y := Int.mul_le_mul (by omega) (by omega) (by omega) (by omega)
          omega
    obtain ⟨i, hi, e⟩ := inX s' _ h1 h2 (by omega) (by omega)
    refine ⟨i, t + nrst v (a * b - d * d), hi, ?_, ?_⟩
    · generalize a * b - d * d = DD at *
      have e3 : DD * (t + nrst v DD) = (DD * t + v) - (v - nrst v DD * DD) := by grind
      constructor
      · refine Int.le_of_lt_add_one (Int.lt_of_mul_lt_mul_left (a := DD) ?_ (by omega))
        have e4 : DD * (t + nrst v DD + 1) = DD * (t + nrst v DD) + DD := by grind
        have e5 : DD * -2 = -DD - DD := by grind
        omega
      · refine Int.le_of_lt_add_one (Int.lt_of_mul_lt_mul_left (a := DD) ?_ (by omega))
        have e5 : DD * (2 + 1) = DD + DD + DD := by grind
        omega
    · rw [← e, show -nrst v (a * b - d * d) + (t + nrst v (a * b - d * d)) = t by omega]
      refine red _ _ _ _ (le_of_mul ha ?_)
      omega
/-! #### MO -/
/-! Short vectors: two vectors made short, one vector made short by two. -/
theorem dot_plusr {u v w : List Int} (k : Int) (h : u.length = v.length) : dot w (plusV u k v) = dot w u + k * dot w v := dot_plus w u v k h
theorem dot_plusl {u v w : List Int} (k : Int) (h : u.length = v.length) : dot (plusV u k v) w = dot u w + k * dot v w := by
  rw [dot_comm, dot_plusr k h, dot_comm w u, dot_comm w v]
theorem nm_plus {u v : List Int} (k : Int) (h : u.length = v.length) : nm (plusV u k v) = nm u + 2 * k * dot u v + k * k * nm v := by
  unfold nm
  rw [dot_plusl k h, dot_plusr k h, dot_plusr k h, dot_comm v u]
  grind
theorem nm_nn : ∀ v : List Int, 0 ≤ nm v
  | [] => by simp [nm, dot]
  | a :: v => by
    have := nm_nn v
    unfold nm at *
    rw [dot_cons]
    have := sq_nn a
    omega
theorem ent_nm : ∀ {v : List Int} {x : Int}, x ∈ v → x * x ≤ nm v
  | a :: v, x, h => by
    have h1 := nm_nn v
    unfold nm at *
    rw [dot_cons]
    rcases List.mem_cons.mp h with rfl | h
    · omega
    · have := ent_nm h
      unfold nm at this
      have := sq_nn a
      omega
/-! ### by length -/
def leL (u v : List Int) : Bool := decide (nm u < nm v ∨ (nm u = nm v ∧ u ≤ v))
theorem lexle_trans {a b c : List Int} (h : a ≤ b) (g : b ≤ c) : a ≤ c := List.le_trans h g
theorem lexle_total (a b : List Int) : a ≤ b ∨ b ≤ a := List.le_total a b
theorem leL_trans (a b c : List Int) (h : leL a b = true) (g : leL b c = true) : leL a c = true := by
  unfold leL at *
  rw [decide_eq_true_eq] at *
  rcases h with h | ⟨h, h'⟩
  · rcases g with g | ⟨g, g'⟩ <;> exact .inl (by omega)
  · rcases g with g | ⟨g, g'⟩
    · exact .inl (by omega)
    · exact .inr ⟨by omega, lexle_trans h' g'⟩
theorem leL_total (a b : List Int) : (leL a b || leL b a) = true := by
  unfold leL
  rw [Bool.or_eq_true, decide_eq_true_eq, decide_eq_true_eq]
  rcases Int.lt_trichotomy (nm a) (nm b) with h | h | h
  · exact .inl (.inl h)
  · rcases lexle_total a b with q | q
    · exact .inl (.inr ⟨h, q⟩)
    · exact .inr (.inr ⟨h.symm, q⟩)
  · exact .inr (.inl h)
def byLen (R : List (List Int)) : List (List Int) := R.mergeSort leL
theorem byLen_perm (R : List (List Int)) : (byLen R).Perm R := List.mergeSort_perm R leL
theorem byLen_sorted (R : List (List Int)) : (byLen R).Pairwise fun u v => nm u ≤ nm v := by
  have h := List.pairwise_mergeSort (le := leL) leL_trans leL_total R
  refine h.imp fun {a b} q => ?_
  unfold leL at q
  rw [decide_eq_true_eq] at q
  rcases q with q | q <;> omega
theorem byLen_len (R : List (List Int)) : (byLen R).length = R.length := (byLen_perm R).length_eq
/-! ### two vectors -/
def stepV (p q : List Int) : List Int := plusV q (-(nrst (dot p q) (nm p))) p
def twoGo : Nat → List Int → List Int → List (List Int)
  | 0, p, q => [p, stepV p q]
  | k + 1, p, q => if nm p ≤ nm (stepV p q) then [p, stepV p q] else twoGo k (stepV p q) p
def dd (p q : List Int) : Int := nm p * nm q - dot p q * dot p q
theorem dd_comm (p q : List Int) : dd p q = dd q p := by unfold dd; rw [dot_comm]; grind
theorem step_len {p q : List Int} (h : p.length = q.length) : (stepV p q).length = q.length := plus_len h.symm
theorem step_dot {p q : List Int} (h : p.length = q.length) : dot p (stepV p q) = dot p q - nrst (dot p q) (nm p) * nm p := by
  unfold stepV
  rw [dot_plusr _ h.symm]
  unfold nm
  grind
theorem step_dd {p q : List Int} (h : p.length = q.length) : dd p (stepV p q) = dd p q := by
  unfold dd
  rw [step_dot h]
  unfold stepV
  rw [nm_plus _ h.symm, dot_comm q p]
  generalize nrst (dot p q) (nm p) = k
  generalize dot p q = d
  generalize nm p = a
  generalize nm q = b
  grind
theorem pos_of_dd {p q : List Int} (h : 0 < dd p q) : 0 < nm p ∧ 0 < nm q := by
  have h1 := nm_nn p
  have h2 := nm_nn q
  unfold dd at h
  have h3 := sq_nn (dot p q)
  constructor
  · rcases Int.lt_or_le 0 (nm p) with r | r
    · exact r
    · have : nm p = 0 := by omega
      rw [this] at h
      simp at h
      omega
  · rcases Int.lt_or_le 0 (nm q) with r | r
    · exact r
    · have : nm q = 0 := by omega
      rw [this] at h
      simp at h
      omega
theorem step_le {p q : List Int} (h : p.length = q.length) (hp : 0 < nm p) : nm (stepV p q) ≤ nm q := by
  have e := step_dd h
  have f := step_dot h
  unfold dd at e
  have n := nrst_spec (dot p q) hp
  have s := near_sq (B := nm p) (w := dot p q) (w' := dot p (stepV p q)) (k := nrst (dot p q) (nm p)) hp (by rw [f]; omega) (by rw [f]; omega) (by rw [f]; omega)
  refine le_of_mul hp ?_
  omega
theorem step_half {p q : List Int} (h : p.length = q.length) (hp : 0 < nm p) : (2 * dot p (stepV p q)).natAbs ≤ (nm p).natAbs := by
  have n := nrst_spec (dot p q) hp
  rw [step_dot h]
  omega
theorem same2_swap (m : Nat) {p q : List Int} (hp : p.length = m) (hq : q.length = m) : SameL m [p, q] [q, p] := by
  refine SameL.of (fun r hr => ?_) (fun r hr => ?_) (fun v hv => ?_) (fun v hv => ?_)
  · simp at hr; rcases hr with rfl | rfl <;> assumption
  · simp at hr; rcases hr with rfl | rfl <;> assumption
  · simp at hv; rcases hv with rfl | rfl
    · exact Lat.of_mem (by simp) hp
    · exact Lat.of_mem (by simp) hq
  · simp at hv; rcases hv with rfl | rfl
    · exact Lat.of_mem (by simp) hq
    · exact Lat.of_mem (by simp) hp
theorem same2_add (m : Nat) {p q : List Int} (hp : p.length = m) (hq : q.length = m) (k : Int) : SameL m [p, q] [p, plusV q k p] := by
  have hT : Len m [p, q] := fun r hr => by simp at hr; rcases hr with rfl | rfl <;> assumption
  have := same_add (T := [p, q]) hT (i := 1) (j := 0) (by simp) (by simp) (by simp) k
  simpa using this
structure Lag (m : Nat) (p q p' q' : List Int) : Prop where
  lp : p'.length = m
  lq : q'.length = m
  same : SameL m [p, q] [p', q']
  le : nm p' ≤ nm q'
  half : (2 * dot p' q').natAbs ≤ (nm p').natAbs
  det : dd p' q' = dd p q
  n1 : nm p' ≤ nm p
  n2 : nm q' ≤ nm q
theorem twoGo_ok {m : Nat} : ∀ (k : Nat) {p q : List Int}, p.length = m → q.length = m → nm p ≤ nm q → 0 < dd p q → (nm p).toNat ≤ k → ∃ p' q', twoGo k p q = [p', q'] ∧ Lag m p q p' q'
  | 0, p, q, hp, hq, hl, hd, hk => by
    have := (pos_of_dd hd).1
    omega
  | k + 1, p, q, hp, hq, hl, hd, hk => by
    have pos := (pos_of_dd hd).1
    have lpq : p.length = q.length := by omega
    have ls := step_len lpq
    have le := step_le lpq pos
    have half := step_half lpq pos
    have det := step_dd lpq
    have same : SameL m [p, q] [p, stepV p q] := same2_add m hp hq _
    unfold twoGo
    by_cases e : nm p ≤ nm (stepV p q)
    · rw [if_pos e]
      exact ⟨p, stepV p q, rfl, hp, by omega, same, e, half, det, Int.le_refl _, le⟩
    · rw [if_neg e]
      have hd2 : 0 < dd (stepV p q) p := by rw [dd_comm, det]; exact hd
      have n0 := nm_nn (stepV p q)
      obtain ⟨p', q', e1, L⟩ := twoGo_ok k (p := stepV p q) (q := p) (by omega) hp (by omega) hd2 (by omega)
      refine ⟨p', q', e1, L.lp, L.lq, ?_, L.le, L.half, by rw [L.det, dd_comm, det], by have := L.n1; omega, by have := L.n2; omega⟩
      exact (same.trans (same2_swap m hp (by omega))).trans L.same
/-- two vectors of the same grid that are as short as possible -/
def twoR (R : List (List Int)) : List (List Int) := match byLen R with
  | [p, q] => twoGo (nm p).toNat p q
  | _ => R
theorem perm2 {α : Type} {l : List α} {p q : α} (h : l.Perm [p, q]) : l = [p, q] ∨ l = [q, p] := by
  obtain ⟨a, b, rfl⟩ := len2 (h.length_eq)
  have ha : a = p ∨ a = q := by have := h.subset (List.mem_cons_self (a := a)); simpa using this
  rcases ha with rfl | rfl
  · have := (List.perm_cons a).mp h
    have : b = q := by simpa using this
    exact .inl (by rw [this])
  · have h2 := (List.perm_cons a).mp (h.trans (List.Perm.swap a p []))
    have : b = p := by simpa using h2
    exact .inr (by rw [this])
theorem twoR_ok {m : Nat} {p q : List Int} (hp : p.length = m) (hq : q.length = m) (hd : 0 < dd p q) (hs : nm p ≤ nm q) : ∃ p' q', twoR [p, q] = [p', q'] ∧ Lag m p q p' q' := by
  have h1 := perm2 (byLen_perm [p, q])
  have h2 := byLen_sorted [p, q]
  unfold twoR
  rcases h1 with h | h
  · rw [h]
    exact twoGo_ok _ hp hq hs hd (Nat.le_refl _)
  · rw [h] at h2 ⊢
    have h3 : nm q ≤ nm p := by simpa using h2
    obtain ⟨p', q', e, L⟩ := twoGo_ok _ hq hp h3 (by rw [dd_comm]; exact hd) (Nat.le_refl _)
    exact ⟨p', q', e, L.lp, L.lq, (same2_swap m hp hq).trans L.same, L.le, L.half, by rw [L.det, dd_comm], by have := L.n1; omega, by have := L.n2; omega⟩
/-! #### MP -/
/-! Short vectors: three vectors made short. -/
def combV (v : List Int) (s : Int) (p : List Int) (t : Int) (q : List Int) : List Int := plusV (plusV v s p) t q
theorem comb_len {v p q : List Int} {m : Nat} (hv : v.length = m) (hp : p.length = m) (hq : q.length = m) (s t : Int) : (combV v s p t q).length = m := by
  unfold combV
  have h1 : (plusV v s p).length = m := by rw [plus_len (by omega)]; exact hv
  rw [plus_len (by omega)]; exact h1
theorem gt_comb {v p q : List Int} {m : Nat} (hv : v.length = m) (hp : p.length = m) (hq : q.length = m) (s t : Int) (i : Nat) : gt (combV v s p t q) i = gt v i + s * gt p i + t * gt q i := by
  unfold combV
  have h1 : (plusV v s p).length = m := by rw [plus_len (by omega)]; exact hv
  rw [gt_plus (by omega), gt_plus (by omega)]
theorem comb_comb {v p q : List Int} {m : Nat} (hv : v.length = m) (hp : p.length = m) (hq : q.length = m) (x y i j : Int) : combV (combV v x p y q) i p j q = combV v (x + i) p (y + j) q := by
  have h1 := comb_len hv hp hq x y
  refine ext_gt (by rw [comb_len h1 hp hq, comb_len hv hp hq]) fun k _ => ?_
  rw [gt_comb h1 hp hq, gt_comb hv hp hq, gt_comb hv hp hq]
  grind
theorem nm_comb {v p q : List Int} {m : Nat} (hv : v.length = m) (hp : p.length = m) (hq : q.length = m) (s t : Int) : nm (combV v s p t q) = fq3 (nm p) (nm q) (nm v) (dot p q) (dot v p) (dot v q) s t 1 := by
  unfold combV
  have h1 : (plusV v s p).length = m := by rw [plus_len (by omega)]; exact hv
  rw [nm_plus _ (by omega), nm_plus _ (by omega), dot_plusl _ (by omega)]
  unfold fq3
  grind
def oneSt : List Int := [-2, -1, 0, 1, 2]
def steps25 : List (Int × Int) := oneSt.flatMap fun a => oneSt.map fun b => (a, b)
theorem mem_st {i : Int} (h1 : -2 ≤ i) (h2 : i ≤ 2) : i ∈ oneSt := by
  have : i = -2 ∨ i = -1 ∨ i = 0 ∨ i = 1 ∨ i = 2 := by omega
  rcases this with rfl | rfl | rfl | rfl | rfl <;> decide
theorem mem_steps {i j : Int} (h1 : -2 ≤ i) (h2 : i ≤ 2) (h3 : -2 ≤ j) (h4 : j ≤ 2) : (i, j) ∈ steps25 := by
  unfold steps25
  exact List.mem_flatMap.mpr ⟨i, mem_st h1 h2, List.mem_map.mpr ⟨j, mem_st h3 h4, rfl⟩⟩
/-- the middle -/
def midV (p q v : List Int) : List Int :=
  combV v (-nrst (dot v p * nm q - dot v q * dot p q) (nm p * nm q - dot p q * dot p q)) p (-nrst (dot v q * nm p - dot v p * dot p q) (nm p * nm q - dot p q * dot p q)) q
def triesV (p q v : List Int) : List (List Int) := steps25.map fun s => combV (midV p q v) s.1 p s.2 q
def closerV (p q v : List Int) : List Int := (byLen (triesV p q v)).headD v
theorem byLen_head {R : List (List Int)} {u : List Int} (hu : u ∈ R) (v : List Int) : (byLen R).headD v ∈ R ∧ nm ((byLen R).headD v) ≤ nm u := by
  have hp := byLen_perm R
  have hs := byLen_sorted R
  cases e : byLen R with
  | nil => rw [e] at hp; have := hp.symm.subset hu; simp at this
  | cons h tl =>
    rw [e] at hp hs
    refine ⟨hp.subset (by simp), ?_⟩
    have hm : u ∈ h :: tl := hp.symm.subset hu
    rcases List.mem_cons.mp hm with rfl | hm
    · exact Int.le_refl _
    · exact (List.pairwise_cons.mp hs).1 u hm
theorem closer_ok {m : Nat} {p q v : List Int} (hp : p.length = m) (hq : q.length = m) (hv : v.length = m) (pos : 0 < nm p) (le : nm p ≤ nm q) (half : (2 * dot p q).natAbs ≤ (nm p).natAbs) :
    (∃ s t, closerV p q v = combV v s p t q) ∧ ∀ s t, nm (closerV p q v) ≤ nm (combV v s p t q) := by
  have key : ∀ s t, ∃ u ∈ triesV p q v, nm u ≤ nm (combV v s p t q) := by
    intro s t
    obtain ⟨i, j, hi, hj, h⟩ := window (c := nm v) (e := dot v p) (f := dot v q) pos le half s t
    refine ⟨_, List.mem_map.mpr ⟨(i, j), mem_steps hi.1 hi.2 hj.1 hj.2, rfl⟩, ?_⟩
    rw [show midV p q v = combV v (-nrst (dot v p * nm q - dot v q * dot p q) (nm p * nm q - dot p q * dot p q)) p (-nrst (dot v q * nm p - dot v p * dot p q) (nm p * nm q - dot p q * dot p q)) q from rfl,
      comb_comb hv hp hq, nm_comb hv hp hq, nm_comb hv hp hq]
    exact h
  constructor
  · obtain ⟨u, hu, _⟩ := key 0 0
    have := (byLen_head hu v).1
    unfold closerV
    obtain ⟨s, _, e⟩ := List.mem_map.mp this
    refine ⟨-nrst (dot v p * nm q - dot v q * dot p q) (nm p * nm q - dot p q * dot p q) + s.1, -nrst (dot v q * nm p - dot v p * dot p q) (nm p * nm q - dot p q * dot p q) + s.2, ?_⟩
    rw [← e]
    exact comb_comb hv hp hq _ _ _ _
  · intro s t
    obtain ⟨u, hu, h⟩ := key s t
    have := (byLen_head hu v).2
    unfold closerV
    omega
/-! ### three vectors -/
def lastV (pair : List (List Int)) (v : List Int) : List Int := match pair with
  | [p, q] => if nm v ≤ nm (closerV p q v) then v else closerV p q v
  | _ => v
def redNext (R : List (List Int)) : List (List Int) := match R with
  | [p, q, r] => byLen (twoR [p, q] ++ [lastV (twoR [p, q]) r])
  | _ => R
def redGo : Nat → List (List Int) → List (List Int)
  | 0, R => R
  | k + 1, R => if (redNext R).map nm = R.map nm then redNext R else redGo k (redNext R)
/-- no vector of the grid with a coefficient at one of them is shorter than it -/
def Mk3 (p q r : List Int) : Prop := ∀ x y z : Int, (x ≠ 0 → nm p ≤ fq3 (nm p) (nm q) (nm r) (dot p q) (dot p r) (dot q r) x y z) ∧ (y ≠ 0 → nm q ≤ fq3 (nm p) (nm q) (nm r) (dot p q) (dot p r) (dot q r) x y z) ∧ (z ≠ 0 → nm r ≤ fq3 (nm p) (nm q) (nm r) (dot p q) (dot p r) (dot q r) x y z)
def Mk2 (p q : List Int) : Prop := ∀ x y : Int, (x ≠ 0 → nm p ≤ fq2 (nm p) (nm q) (dot p q) x y) ∧ (y ≠ 0 → nm q ≤ fq2 (nm p) (nm q) (dot p q) x y)
theorem Mk3.swap12 {p q r : List Int} (h : Mk3 p q r) : Mk3 q p r := fun x y z => by
  obtain ⟨h1, h2, h3⟩ := h y x z
  have e : fq3 (nm q) (nm p) (nm r) (dot q p) (dot q r) (dot p r) x y z = fq3 (nm p) (nm q) (nm r) (dot p q) (dot p r) (dot q r) y x z := by
    rw [dot_comm q p]; unfold fq3; grind
  rw [e]; exact ⟨h2, h1, h3⟩
theorem Mk3.swap23 {p q r : List Int} (h : Mk3 p q r) : Mk3 p r q := fun x y z => by
  obtain ⟨h1, h2, h3⟩ := h x z y
  have e : fq3 (nm p) (nm r) (nm q) (dot p r) (dot p q) (dot r q) x y z = fq3 (nm p) (nm q) (nm r) (dot p q) (dot p r) (dot q r) x z y := by
    rw [dot_comm r q]; unfold fq3; grind
  rw [e]; exact ⟨h1, h3, h2⟩
theorem Mk2.swap {p q : List Int} (h : Mk2 p q) : Mk2 q p := fun x y => by
  obtain ⟨h1, h2⟩ := h y x
  have e : fq2 (nm q) (nm p) (dot q p) x y = fq2 (nm p) (nm q) (dot p q) y x := by
    rw [dot_comm q p]; unfold fq2; grind
  rw [e]; exact ⟨h2, h1⟩
theorem mk2_of {p q : List Int} (pos : 0 < nm p) (le : nm p ≤ nm q) (half : (2 * dot p q).natAbs ≤ (nm p).natAbs) : Mk2 p q := fun x y => by
  refine ⟨fun hx => ?_, fun hy => fq2_last pos le half hy⟩
  by_cases hy : y = 0
  · subst hy; exact fq2_first pos hx
  · exact Int.le_trans le (fq2_last pos le half hy)
theorem mk3_of {p q r : List Int} (pos : 0 < nm p) (le : nm p ≤ nm q) (le2 : nm q ≤ nm r) (half : (2 * dot p q).natAbs ≤ (nm p).natAbs) (h : ∀ s t, nm r ≤ fq3 (nm p) (nm q) (nm r) (dot p q) (dot p r) (dot q r) s t 1) : Mk3 p q r := fun x y z => by
  by_cases hz : z = 0
  · subst hz
    have e : fq3 (nm p) (nm q) (nm r) (dot p q) (dot p r) (dot q r) x y 0 = fq2 (nm p) (nm q) (dot p q) x y := by unfold fq2 fq3; grind
    rw [e]
    obtain ⟨h1, h2⟩ := mk2_of pos le half x y
    exact ⟨h1, h2, fun h => absurd rfl h⟩
  · have k := fq3_last (x := x) (y := y) pos le le2 half h hz
    exact ⟨fun _ => by omega, fun _ => by omega, fun _ => k⟩
theorem perm3 {α : Type} {l : List α} {p q r : α} (h : l.Perm [p, q, r]) : l = [p, q, r] ∨ l = [p, r, q] ∨ l = [q, p, r] ∨ l = [q, r, p] ∨ l = [r, p, q] ∨ l = [r, q, p] := by
  obtain ⟨a, b, c, rfl⟩ := len3 (h.length_eq)
  have ha : a = p ∨ a = q ∨ a = r := by have := h.subset (List.mem_cons_self (a := a)); simpa using this
  rcases ha with rfl | rfl | rfl
  · rcases perm2 ((List.perm_cons a).mp h) with e | e <;> (rw [e]; simp)
  · have h2 := (List.perm_cons a).mp (h.trans (List.Perm.swap a p [r]))
    rcases perm2 h2 with e | e <;> (rw [e]; simp)
  · have h3 : [p, q, a].Perm [a, p, q] := ((List.Perm.swap a q []).cons p).trans (List.Perm.swap a p [q])
    have h2 := (List.perm_cons a).mp (h.trans h3)
    rcases perm2 h2 with e | e <;> (rw [e]; simp)
theorem Mk3.perm {p q r a b c : List Int} (h : Mk3 p q r) (hp : [a, b, c].Perm [p, q, r]) : Mk3 a b c := by
  rcases perm3 hp with e | e | e | e | e | e <;> cases e
  · exact h
  · exact h.swap23
  · exact h.swap12
  · exact h.swap12.swap23
  · exact h.swap23.swap12
  · exact h.swap12.swap23.swap12
/-- a short basis, by its products -/
def Red : List (List Int) → Prop
  | [p] => 0 < nm p
  | [p, q] => nm p ≤ nm q ∧ 0 < nm p ∧ Mk2 p q
  | [p, q, r] => nm p ≤ nm q ∧ nm q ≤ nm r ∧ 0 < nm p ∧ Mk3 p q r
  | _ => False
theorem lat_perm {m : Nat} {R T : List (List Int)} (hR : Len m R) (hp : T.Perm R) : SameL m R T := by
  have hT : Len m T := fun r hr => hR r (hp.subset hr)
  exact SameL.of hR hT (fun v hv => Lat.of_mem (hp.symm.subset hv) (hR v hv)) (fun v hv => Lat.of_mem (hp.subset hv) (hT v hv))
theorem lenm3 {m : Nat} {p q r : List Int} (hp : p.length = m) (hq : q.length = m) (hr : r.length = m) : Len m [p, q, r] := fun v hv => by simp at hv; rcases hv with rfl | rfl | rfl <;> assumption
theorem lenm2 {m : Nat} {p q : List Int} (hp : p.length = m) (hq : q.length = m) : Len m [p, q] := fun v hv => by simp at hv; rcases hv with rfl | rfl <;> assumption
theorem gram3 (a b c d e f g h i : Int) : g3 (nm [a, b, c]) (nm [d, e, f]) (nm [g, h, i]) (dot [a, b, c] [d, e, f]) (dot [a, b, c] [g, h, i]) (dot [d, e, f] [g, h, i]) = detL [[a, b, c], [d, e, f], [g, h, i]] * detL [[a, b, c], [d, e, f], [g, h, i]] := by
  simp only [nm, dot_cons, dot_nil, detL, g3]
  grind
theorem dd3 (a b c d e f : Int) : dd [a, b, c] [d, e, f] = (a * e - b * d) * (a * e - b * d) + (a * f - c * d) * (a * f - c * d) + (b * f - c * e) * (b * f - c * e) := by
  simp only [dd, nm, dot_cons, dot_nil]
  grind
theorem dd2 (a b c d : Int) : dd [a, b] [c, d] = detL [[a, b], [c, d]] * detL [[a, b], [c, d]] := by
  simp only [dd, nm, dot_cons, dot_nil, detL]
  grind
theorem sq_zero {x : Int} (h : x * x ≤ 0) : x = 0 := by
  rcases Int.lt_trichotomy x 0 with q | q | q
  · have := sq_pos (x := x) (by omega); omega
  · exact q
  · have := sq_pos (x := x) (by omega); omega
theorem dd_pos3 {p q r : List Int} (hp : p.length = 3) (hq : q.length = 3) (hr : r.length = 3) (hd : detL [p, q, r] ≠ 0) : 0 < dd p q := by
  obtain ⟨a, b, c, rfl⟩ := len3 hp
  obtain ⟨d, e, f, rfl⟩ := len3 hq
  obtain ⟨g, h, i, rfl⟩ := len3 hr
  rw [dd3]
  have s1 := sq_nn (a * e - b * d)
  have s2 := sq_nn (a * f - c * d)
  have s3 := sq_nn (b * f - c * e)
  rcases Int.lt_or_le 0 ((a * e - b * d) * (a * e - b * d) + (a * f - c * d) * (a * f - c * d) + (b * f - c * e) * (b * f - c * e)) with k | k
  · exact k
  · exfalso
    have z1 := sq_zero (x := a * e - b * d) (by omega)
    have z2 := sq_zero (x := a * f - c * d) (by omega)
    have z3 := sq_zero (x := b * f - c * e) (by omega)
    apply hd
    simp only [detL]
    grind
theorem same3_pair {m : Nat} {p q r p' q' : List Int} (hp : p.length = m) (hq : q.length = m) (hr : r.length = m) (hp' : p'.length = m) (hq' : q'.length = m) (h : SameL m [p, q] [p', q']) : SameL m [p, q, r] [p', q', r] := by
  have l1 : Len m [p, q, r] := fun v hv => by simp at hv; rcases hv with rfl | rfl | rfl <;> assumption
  have l2 : Len m [p', q', r] := fun v hv => by simp at hv; rcases hv with rfl | rfl | rfl <;> assumption
  have up : ∀ v, Lat m [p', q'] v → Lat m [p', q', r] v := fun v hv => hv.mono l2 fun u hu => Lat.of_mem (by simp at hu ⊢; rcases hu with rfl | rfl <;> simp) (by simp at hu; rcases hu with rfl | rfl <;> assumption)
  have up2 : ∀ v, Lat m [p, q] v → Lat m [p, q, r] v := fun v hv => hv.mono l1 fun u hu => Lat.of_mem (by simp at hu ⊢; rcases hu with rfl | rfl <;> simp) (by simp at hu; rcases hu with rfl | rfl <;> assumption)
  refine SameL.of l1 l2 (fun v hv => ?_) (fun v hv => ?_)
  · simp at hv
    rcases hv with rfl | rfl | rfl
    · exact up _ ((h _).mp (Lat.of_mem (by simp) hp))
    · exact up _ ((h _).mp (Lat.of_mem (by simp) hq))
    · exact Lat.of_mem (by simp) hr
  · simp at hv
    rcases hv with rfl | rfl | rfl
    · exact up2 _ ((h _).mpr (Lat.of_mem (by simp) hp'))
    · exact up2 _ ((h _).mpr (Lat.of_mem (by simp) hq'))
    · exact Lat.of_mem (by simp) hr
theorem same3_last {m : Nat} {p q r : List Int} (hp : p.length = m) (hq : q.length = m) (hr : r.length = m) (s t : Int) : SameL m [p, q, r] [p, q, combV r s p t q] := by
  have l1 : Len m [p, q, r] := fun v hv => by simp at hv; rcases hv with rfl | rfl | rfl <;> assumption
  have h1 := same_add (T := [p, q, r]) l1 (i := 2) (j := 0) (by simp) (by simp) (by simp) s
  have e1 : ([p, q, r].set 2 (plusV [p, q, r][2] s [p, q, r][0])) = [p, q, plusV r s p] := by simp
  rw [e1] at h1
  have lr : (plusV r s p).length = m := by rw [plus_len (by omega)]; exact hr
  have l2 : Len m [p, q, plusV r s p] := fun v hv => by simp at hv; rcases hv with rfl | rfl | rfl <;> assumption
  have h2 := same_add (T := [p, q, plusV r s p]) l2 (i := 2) (j := 1) (by simp) (by simp) (by simp) t
  have e2 : ([p, q, plusV r s p].set 2 (plusV [p, q, plusV r s p][2] t [p, q, plusV r s p][1])) = [p, q, combV r s p t q] := by simp [combV]
  rw [e2] at h2
  exact h1.trans h2
/-- one turn: what comes of it -/
structure Turn (p q r p' q' r' : List Int) : Prop where
  lag : Lag 3 p q p' q'
  lr : r'.length = 3
  pos : 0 < nm p'
  same : SameL 3 [p, q, r] [p', q', r']
  le : nm r' ≤ nm r
  fin : nm r' = nm r → ∀ s t, nm r' ≤ nm (combV r' s p' t q')
theorem turn_ok {p q r : List Int} (hp : p.length = 3) (hq : q.length = 3) (hr : r.length = 3) (hd : detL [p, q, r] ≠ 0) (h1 : nm p ≤ nm q) : ∃ p' q' r', redNext [p, q, r] = byLen [p', q', r'] ∧ Turn p q r p' q' r' := by
  have hdd := dd_pos3 hp hq hr hd
  obtain ⟨p', q', e, L⟩ := twoR_ok hp hq hdd h1
  have pos : 0 < nm p' := (pos_of_dd (by rw [L.det]; exact hdd)).1
  obtain ⟨⟨s, t, ec⟩, hc⟩ := closer_ok L.lp L.lq hr pos L.le L.half
  have same1 := same3_pair hp hq hr L.lp L.lq L.same
  by_cases hl : nm r ≤ nm (closerV p' q' r)
  · refine ⟨p', q', r, ?_, L, hr, pos, same1, Int.le_refl _, fun _ s t => Int.le_trans hl (hc s t)⟩
    show byLen (twoR [p, q] ++ [lastV (twoR [p, q]) r]) = _
    rw [e]
    show byLen ([p', q'] ++ [if nm r ≤ nm (closerV p' q' r) then r else closerV p' q' r]) = _
    rw [if_pos hl]; rfl
  · refine ⟨p', q', closerV p' q' r, ?_, L, ?_, pos, ?_, by omega, fun h => by omega⟩
    · show byLen (twoR [p, q] ++ [lastV (twoR [p, q]) r]) = _
      rw [e]
      show byLen ([p', q'] ++ [if nm r ≤ nm (closerV p' q' r) then r else closerV p' q' r]) = _
      rw [if_neg hl]; rfl
    · rw [ec]; exact comb_len hr L.lp L.lq s t
    · rw [ec]; exact same1.trans (same3_last L.lp L.lq hr s t)
/-- the sum of the lengths -/
def sumN (R : List (List Int)) : Int := (R.map nm).sum
theorem sum3 (p q r : List Int) : sumN [p, q, r] = nm p + nm q + nm r := by simp [sumN]; omega
theorem byLen3 {p q r : List Int} : ∃ a b c, byLen [p, q, r] = [a, b, c] ∧ [a, b, c].Perm [p, q, r] ∧ nm a ≤ nm b ∧ nm b ≤ nm c := by
  have h1 := byLen_perm [p, q, r]
  have h2 := byLen_sorted [p, q, r]
  obtain ⟨a, b, c, e⟩ := len3 (byLen_len [p, q, r])
  rw [e] at h1 h2
  refine ⟨a, b, c, e, h1, ?_, ?_⟩
  · exact (List.pairwise_cons.mp h2).1 b (by simp)
  · exact (List.pairwise_cons.mp (List.pairwise_cons.mp h2).2).1 c (by simp)
theorem perm_sum {a b c p q r : List Int} (h : [a, b, c].Perm [p, q, r]) : nm a + nm b + nm c = nm p + nm q + nm r := by
  rcases perm3 h with e | e | e | e | e | e <;> cases e <;> omega
theorem perm_nm {a b c p q r : List Int} (h : [a, b, c].Perm [p, q, r]) (h1 : nm a ≤ nm b) (h2 : nm b ≤ nm c) (h3 : nm p ≤ nm q) (h4 : nm q ≤ nm r) : nm a = nm p ∧ nm b = nm q ∧ nm c = nm r := by
  rcases perm3 h with e | e | e | e | e | e <;> cases e <;> omega
theorem det_of_same {n : Nat} {R T : List (List Int)} (hR : Sqr n R) (hT : Sqr n T) (h : SameL n R T) (hd : detL R ≠ 0) : detL T ≠ 0 := by
  have := det_same hR hT h
  omega
theorem len_perm3 {m : Nat} {a b c p q r : List Int} (h : [a, b, c].Perm [p, q, r]) (hp : p.length = m) (hq : q.length = m) (hr : r.length = m) : a.length = m ∧ b.length = m ∧ c.length = m := by
  rcases perm3 h with e | e | e | e | e | e <;> cases e <;> simp [*]
theorem sqr3 {p q r : List Int} (hp : p.length = 3) (hq : q.length = 3) (hr : r.length = 3) : Sqr 3 [p, q, r] := ⟨by omega, by omega, rfl, fun v hv => by simp at hv; rcases hv with rfl | rfl | rfl <;> assumption⟩
theorem redGo_ok : ∀ (k : Nat) {p q r : List Int}, p.length = 3 → q.length = 3 → r.length = 3 → detL [p, q, r] ≠ 0 → nm p ≤ nm q → nm q ≤ nm r → (nm p + nm q + nm r).toNat < k →
    ∃ a b c, redGo k [p, q, r] = [a, b, c] ∧ a.length = 3 ∧ b.length = 3 ∧ c.length = 3 ∧ SameL 3 [p, q, r] [a, b, c] ∧ Red [a, b, c] ∧ nm a + nm b + nm c ≤ nm p + nm q + nm r
  | 0, _, _, _, _, _, _, _, _, _, h => by omega
  | k + 1, p, q, r, hp, hq, hr, hd, h1, h2, hk => by
    obtain ⟨p', q', r', e, T⟩ := turn_ok hp hq hr hd h1
    obtain ⟨a, b, c, e2, perm, s1, s2⟩ := byLen3 (p := p') (q := q') (r := r')
    obtain ⟨la, lb, lc⟩ := len_perm3 perm T.lag.lp T.lag.lq T.lr
    have same : SameL 3 [p, q, r] [a, b, c] := T.same.trans (lat_perm (lenm3 T.lag.lp T.lag.lq T.lr) perm)
    have ps := perm_sum perm
    have n1 := T.lag.n1
    have n2 := T.lag.n2
    have n3 := T.le
    unfold redGo
    rw [e, e2]
    by_cases eq : ([a, b, c].map nm) = [p, q, r].map nm
    · rw [if_pos eq]
      simp only [List.map_cons, List.map_nil, List.cons.injEq, and_true] at eq
      obtain ⟨q1, fq2, fq3⟩ := eq
      have z1 : nm p' = nm p := by omega
      have z2 : nm q' = nm q := by omega
      have z3 : nm r' = nm r := by omega
      have fin := T.fin z3
      refine ⟨a, b, c, rfl, la, lb, lc, same, ⟨s1, s2, ?_, ?_⟩, by omega⟩
      · have := T.pos; omega
      · refine Mk3.perm (mk3_of T.pos T.lag.le (by omega) T.lag.half fun s t => ?_) perm
        have := fin s t
        rw [nm_comb T.lr T.lag.lp T.lag.lq, dot_comm r' p', dot_comm r' q'] at this
        exact this
    · rw [if_neg eq]
      have lt : nm a + nm b + nm c < nm p + nm q + nm r := by
        rcases Int.lt_or_le (nm a + nm b + nm c) (nm p + nm q + nm r) with k | k
        · exact k
        · exfalso
          apply eq
          obtain ⟨y1, y2, y3⟩ := perm_nm perm s1 s2 T.lag.le (by omega)
          simp only [List.map_cons, List.map_nil, List.cons.injEq, and_true]
          exact ⟨by omega, by omega, by omega⟩
      have nn1 := nm_nn a
      have nn2 := nm_nn b
      have nn3 := nm_nn c
      have da := det_of_same (sqr3 hp hq hr) (sqr3 la lb lc) same hd
      obtain ⟨a', b', c', f1, f2, f3, f4, f5, f6, f7⟩ := redGo_ok k la lb lc da s1 s2 (by omega)
      exact ⟨a', b', c', f1, f2, f3, f4, same.trans f5, f6, by omega⟩
/-- the program's short basis -/
def redB (R : List (List Int)) : List (List Int) := match byLen R with
  | [p] => [p]
  | [p, q] => byLen (twoR [p, q])
  | T => redGo (sumN T).toNat.succ T
theorem redB_ok {n : Nat} {R : List (List Int)} (hR : Sqr n R) (hd : detL R ≠ 0) : Sqr n (redB R) ∧ SameL n R (redB R) ∧ Red (redB R) ∧ sumN (redB R) ≤ sumN R := by
  rcases hR.cases with ⟨rfl, a, rfl⟩ | ⟨rfl, a, b, c, d, rfl⟩ | ⟨rfl, a, b, c, d, e, f, g, h, i, rfl⟩
  · have e : byLen [[a]] = [[a]] := by simp [byLen]
    unfold redB
    rw [e]
    refine ⟨hR, SameL.refl _ _, ?_, Int.le_refl _⟩
    show 0 < nm [a]
    have : nm [a] = a * a := by simp [nm, dot]
    rw [this]
    exact sq_pos (fun z => hd (by simpa [detL] using z))
  · have hp : ([a, b] : List Int).length = 2 := rfl
    have hq : ([c, d] : List Int).length = 2 := rfl
    have ddp : 0 < dd [a, b] [c, d] := by rw [dd2]; exact sq_pos hd
    have key : ∀ p q : List Int, p.length = 2 → q.length = 2 → 0 < dd p q → nm p ≤ nm q → ∃ T, byLen (twoR [p, q]) = T ∧ Sqr 2 T ∧ SameL 2 [p, q] T ∧ Red T ∧ sumN T ≤ nm p + nm q := by
      intro p q hp hq hdd hl
      obtain ⟨p', q', e, L⟩ := twoR_ok hp hq hdd hl
      rw [e]
      have pos : 0 < nm p' := (pos_of_dd (by rw [L.det]; exact hdd)).1
      have m2 := mk2_of pos L.le L.half
      have n1 := L.n1
      have n2 := L.n2
      have le := L.le
      have srt := byLen_sorted [p', q']
      rcases perm2 (byLen_perm [p', q']) with e2 | e2
      · rw [e2]
        exact ⟨_, rfl, ⟨by omega, by omega, rfl, lenm2 L.lp L.lq⟩, L.same, ⟨L.le, pos, m2⟩, by simp [sumN]; omega⟩
      · rw [e2] at srt ⊢
        have s : nm q' ≤ nm p' := by simpa using srt
        exact ⟨_, rfl, ⟨by omega, by omega, rfl, lenm2 L.lq L.lp⟩, L.same.trans (same2_swap 2 L.lp L.lq), ⟨s, by omega, m2.swap⟩, by simp [sumN]; omega⟩
    have srt := byLen_sorted [[a, b], [c, d]]
    have es : sumN [[a, b], [c, d]] = nm [a, b] + nm [c, d] := by simp [sumN]
    rw [es]
    unfold redB
    rcases perm2 (byLen_perm [[a, b], [c, d]]) with e2 | e2
    · rw [e2] at srt ⊢
      obtain ⟨T, e3, h1, h2, h3, h4⟩ := key _ _ hp hq ddp (by simpa using srt)
      show Sqr 2 (byLen (twoR [[a, b], [c, d]])) ∧ SameL 2 _ (byLen (twoR [[a, b], [c, d]])) ∧ Red (byLen (twoR [[a, b], [c, d]])) ∧ sumN (byLen (twoR [[a, b], [c, d]])) ≤ _
      rw [e3]
      exact ⟨h1, h2, h3, h4⟩
    · rw [e2] at srt ⊢
      obtain ⟨T, e3, h1, h2, h3, h4⟩ := key _ _ hq hp (by rw [dd_comm]; exact ddp) (by simpa using srt)
      show Sqr 2 (byLen (twoR [[c, d], [a, b]])) ∧ SameL 2 _ (byLen (twoR [[c, d], [a, b]])) ∧ Red (byLen (twoR [[c, d], [a, b]])) ∧ sumN (byLen (twoR [[c, d], [a, b]])) ≤ _
      rw [e3]
      exact ⟨h1, (same2_swap 2 hp hq).trans h2, h3, by omega⟩
  · obtain ⟨p, q, r, e2, perm, s1, s2⟩ := byLen3 (p := [a, b, c]) (q := [d, e, f]) (r := [g, h, i])
    obtain ⟨lp, lq, lr⟩ := len_perm3 (m := 3) perm rfl rfl rfl
    have same : SameL 3 [[a, b, c], [d, e, f], [g, h, i]] [p, q, r] := lat_perm hR.2.2.2 perm
    have hd2 := det_of_same hR (sqr3 lp lq lr) same hd
    have ps := perm_sum perm
    unfold redB
    rw [e2]
    show Sqr 3 (redGo (sumN [p, q, r]).toNat.succ [p, q, r]) ∧ SameL 3 _ (redGo (sumN [p, q, r]).toNat.succ [p, q, r]) ∧ Red (redGo (sumN [p, q, r]).toNat.succ [p, q, r]) ∧ sumN (redGo (sumN [p, q, r]).toNat.succ [p, q, r]) ≤ _
    obtain ⟨x, y, z, f1, f2, f3, f4, f5, f6, f7⟩ := redGo_ok (sumN [p, q, r]).toNat.succ lp lq lr hd2 s1 s2 (by rw [sum3]; omega)
    rw [f1]
    exact ⟨sqr3 f2 f3 f4, same.trans f5, f6, by rw [sum3, sum3]; omega⟩
/-! #### FY -/
/-! ### sorted, on vectors -/
/-! ### lengths -/
/-! ### two vectors -/
def BB : Int := 17592186044416
theorem ent_sm {v : List Int} (h : nm v ≤ BB) : ∀ x ∈ v, Sm 23 x := fun x hx => by
  have h1 := ent_nm hx
  unfold BB at h
  unfold Sm
  rcases Nat.lt_or_ge x.natAbs (2 ^ 23) with q | q
  · exact q
  · exfalso
    have h2 : 2 ^ 23 * 2 ^ 23 ≤ x.natAbs * x.natAbs := Nat.mul_le_mul q q
    have h3 : (((2 ^ 23 * 2 ^ 23 : Nat)) : Int) ≤ ((x.natAbs * x.natAbs : Nat) : Int) := Int.ofNat_le.mpr h2
    rw [Int.natAbs_mul_self] at h3
    have h4 : ((2 ^ 23 * 2 ^ 23 : Nat) : Int) = 70368744177664 := by decide
    omega
/-! ### comprehensions with two fors -/
/-! ### one vector by two -/
theorem VecOk.plus {j k l n : Nat} {u v : List Int} {c : Int} (hu : VecOk j n u) (sc : Sm k c) (hv : VecOk l n v) : VecOk (max j (k + l) + 1) n (plusV u c v) := by
  refine ⟨by rw [plus_len (by rw [hu.1, hv.1])]; exact hu.1, fun x hx => ?_⟩
  obtain ⟨a, ha, b, hb, rfl⟩ := mem_plus hx
  exact (hu.2 a ha).add (sc.mul (hv.2 b hb))
/-! ### the short basis -/
theorem sum_ent {R : List (List Int)} : ∀ v ∈ R, nm v ≤ sumN R := by
  induction R with
  | nil => intro v hv; simp at hv
  | cons a R ih =>
    intro v hv
    have h1 : ∀ R : List (List Int), 0 ≤ sumN R := by
      intro R
      induction R with
      | nil => simp [sumN]
      | cons b R ih => have := nm_nn b; simp [sumN] at ih ⊢; omega
    have h2 := nm_nn a
    have h3 := h1 R
    have e : sumN (a :: R) = nm a + sumN R := by simp [sumN]
    rcases List.mem_cons.mp hv with rfl | hv
    · omega
    · have := ih v hv; omega
theorem bas_sum {R : List (List Int)} (h : Bas R) : sumN R ≤ BB := by
  have h3 := h.2.1
  have hv : ∀ v ∈ R, nm v ≤ 3000000000000 := fun v hv => by
    obtain ⟨l, b⟩ := h.2.2.1 v hv
    have e : ∀ x ∈ v, x * x ≤ 1000000000000 := fun x hx => by
      have hb := b x hx
      have := sq_le (x := x) (B := 1000000) (by omega) (by omega)
      omega
    rcases lenC l h.1 h3 with ⟨a, rfl, _⟩ | ⟨a, c, rfl, _⟩ | ⟨a, c, d, rfl, _⟩
    · rw [mem1] at e; unfold nm; rw [dot_cons, dot_nil]; omega
    · rw [mem2] at e; unfold nm; rw [dot_cons, dot_cons, dot_nil]; omega
    · rw [mem3] at e; unfold nm; rw [dot_cons, dot_cons, dot_cons, dot_nil]; omega
  unfold BB
  rcases lenC (l := R) rfl h.1 h3 with ⟨a, e, _⟩ | ⟨a, c, e, _⟩ | ⟨a, c, d, e, _⟩
  · rw [e] at hv ⊢; rw [mem1] at hv; simp [sumN]; omega
  · rw [e] at hv ⊢; rw [mem2] at hv; simp [sumN]; omega
  · rw [e] at hv ⊢; rw [mem3] at hv; simp [sumN]; omega
/-- the last of the least lengths -/
def lastN (R : List (List Int)) : Int := nm ((redB R).getLastD [])
/-! #### MQ -/
/-! Short vectors: the lengths of a short basis belong to the grid. -/
/-! #### FZ -/
/-! ### tuples of vectors of any size -/
/-! ### the functions of short bases -/
theorem red_vec {R : List (List Int)} (h : Bas R) : ∀ v ∈ redB R, VecOk 23 R.length v := fun v hv => by
  obtain ⟨h1, h2, h3, h4⟩ := redB_ok h.sqr h.2.2.2
  exact ⟨h1.2.2.2 v hv, ent_sm (Int.le_trans (sum_ent v hv) (Int.le_trans h4 (bas_sum h)))⟩
theorem redB_len {R : List (List Int)} (h : Bas R) : (redB R).length = R.length := (redB_ok h.sqr h.2.2.2).1.2.2.1
/-! #### MR -/
/-! All vectors up to a length: what the program lists. -/
/-- the whole root -/
def isq : Nat → Nat
  | 0 => 0
  | n + 1 => if (isq n + 1) * (isq n + 1) ≤ n + 1 then isq n + 1 else isq n
theorem isq_spec : ∀ n : Nat, isq n * isq n ≤ n ∧ n < (isq n + 1) * (isq n + 1)
  | 0 => by decide
  | n + 1 => by
    obtain ⟨h1, h2⟩ := isq_spec n
    unfold isq
    by_cases e : (isq n + 1) * (isq n + 1) ≤ n + 1
    · rw [if_pos e]
      refine ⟨e, ?_⟩
      have : (isq n + 1) * (isq n + 1) < (isq n + 1 + 1) * (isq n + 1 + 1) := Nat.mul_lt_mul_of_lt_of_le (by omega) (by omega) (by omega)
      omega
    · rw [if_neg e]
      exact ⟨by omega, by omega⟩
theorem sq_mono {a b : Nat} (h : a * a < (b + 1) * (b + 1)) : a ≤ b := by
  rcases Nat.lt_or_ge b a with q | q
  · exfalso
    have := Nat.mul_le_mul (show b + 1 ≤ a by omega) (show b + 1 ≤ a by omega)
    omega
  · exact q
theorem isq_le {n k : Nat} (h : n < (k + 1) * (k + 1)) : isq n ≤ k := sq_mono (by have := (isq_spec n).1; omega)
theorem le_isq {n : Nat} {x : Int} (h : x * x ≤ (n : Int)) : x.natAbs ≤ isq n := by
  apply sq_mono
  have h1 := (isq_spec n).2
  have h2 : ((x.natAbs * x.natAbs : Nat) : Int) ≤ (n : Int) := by rw [Int.natAbs_mul_self]; exact h
  have h3 : x.natAbs * x.natAbs ≤ n := Int.ofNat_le.mp h2
  omega
/-- from 0 outward -/
def outw (k : Nat) : List Int := 0 :: (List.range k).flatMap fun i => [((i : Nat) : Int) + 1, -(((i : Nat) : Int) + 1)]
theorem mem_outw {k : Nat} {x : Int} : x ∈ outw k ↔ x.natAbs ≤ k := by
  unfold outw
  rw [List.mem_cons, List.mem_flatMap]
  constructor
  · rintro (rfl | ⟨i, hi, hx⟩)
    · simp
    · have := List.mem_range.mp hi
      simp at hx
      rcases hx with rfl | rfl <;> omega
  · intro h
    by_cases e : x = 0
    · exact .inl e
    · refine .inr ⟨x.natAbs - 1, List.mem_range.mpr (by omega), ?_⟩
      simp
      omega
theorem outw_nodup (k : Nat) : (outw k).Nodup := by
  unfold outw
  rw [List.nodup_cons]
  constructor
  · intro h
    rw [List.mem_flatMap] at h
    obtain ⟨i, _, hx⟩ := h
    simp at hx
    omega
  · induction k with
    | zero => simp
    | succ k ih =>
      rw [List.range_succ, List.flatMap_append, List.nodup_append]
      refine ⟨ih, ?_, ?_⟩
      · simp; omega
      · intro a ha b hb
        rw [List.mem_flatMap] at ha
        obtain ⟨i, hi, hx⟩ := ha
        have := List.mem_range.mp hi
        simp at hx hb
        omega
/-! ### the table of products and its minors -/
def dropAt {α : Type} (p : Option Nat) (l : List α) : List α := match p with
  | none => l
  | some i => l.eraseIdx i
def minG (p : Option Nat) (G : List (List Int)) : List (List Int) := (dropAt p G).map (dropAt p)
def detM (G : List (List Int)) : Int := if G = [] then 1 else detL G
def gram (T : List (List Int)) : List (List Int) := T.map fun u => T.map fun v => dot u v
def bnd (T : List (List Int)) (L : Int) (i : Nat) : Nat := isq ((L * detM (minG (some i) (gram T))).fdiv (detM (gram T))).toNat
/-- where the innermost loop starts -/
def startV (T : List (List Int)) (c b : Int) : List Int :=
  let z := List.replicate T.length 0
  let s := if 2 < T.length then plusV z c (row T 2) else z
  if 1 < T.length then plusV s b (row T 1) else s
def rngC (T : List (List Int)) (L : Int) (i : Nat) : List Int := if i < T.length then outw (bnd T L i) else [0]
def inV (T : List (List Int)) (L : Int) (s : List Int) (As : List Int) : List (List Int) := (As.map fun a => plusV s a (row T 0)).filter fun v => decide (nm v ≤ L)
def listV (T : List (List Int)) (L : Int) : List (List Int) := (rngC T L 2).flatMap fun c => (rngC T L 1).flatMap fun b => inV T L (startV T c b) (rngC T L 0)
/-! #### GA -/
/-! ### roots -/
/-! ### minors of a table of products -/
/-! #### GB -/
/-! ### from 0 outward -/
/-! ### the bounds of the coefficients -/
/-- a basis whose table of products can be used -/
structure GOk (n : Nat) (T : List (List Int)) : Prop where
  n1 : 1 ≤ n
  n3 : n ≤ 3
  len : T.length = n
  vec : ∀ v ∈ T, VecOk 40 n v
  pos : 0 < detM (gram T)
  nn : ∀ i, i < n → 0 ≤ detM (minG (some i) (gram T))
/-! ### all vectors up to a length -/
theorem GOk.plus {n : Nat} {T : List (List Int)} (g : GOk n T) {i : Nat} (hi : i < n) : VecOk 40 n (row T i) := by
  rw [row_lt (by rw [g.len]; exact hi)]
  exact g.vec _ (List.getElem_mem _)
def lS (S : Sto) (acc : List (List Int)) : Sto := S ++ [.lst (acc.map VE)]
/-! #### MS -/
/-! All vectors up to a length: what is listed is all, and each once. -/
theorem crm_z {a b c d e f x y z : Int} (ha : 0 < a) (hD : 0 < a * b - d * d) : z * z * g3 a b c d e f ≤ fq3 a b c d e f x y z * (a * b - d * d) := by
  have m := fq3_mul' a b c d e f x y z
  have n := fq2_nn ha hD (x := (a * b - d * d) * x + z * (e * b - f * d)) (y := (a * b - d * d) * y + z * (f * a - e * d))
  generalize fq2 a b d ((a * b - d * d) * x + z * (e * b - f * d)) ((a * b - d * d) * y + z * (f * a - e * d)) = q at m n
  generalize fq3 a b c d e f x y z = p at m ⊢
  generalize g3 a b c d e f = g at m ⊢
  generalize a * b - d * d = DD at *
  refine le_of_mul hD ?_
  have e1 : DD * (z * z * g) = DD * (z * z) * g := by grind
  have e2 : DD * (p * DD) = DD * DD * p := by grind
  omega
theorem crm_x {a b c d e f x y z : Int} (hb : 0 < b) (hD : 0 < b * c - f * f) : x * x * g3 a b c d e f ≤ fq3 a b c d e f x y z * (b * c - f * f) := by
  have := crm_z (a := b) (b := c) (c := a) (d := f) (e := d) (f := e) (x := y) (y := z) (z := x) hb hD
  have e1 : g3 b c a f d e = g3 a b c d e f := by unfold g3; grind
  have e2 : fq3 b c a f d e y z x = fq3 a b c d e f x y z := by unfold fq3; grind
  rw [e1, e2] at this
  exact this
theorem crm_y {a b c d e f x y z : Int} (ha : 0 < a) (hD : 0 < a * c - e * e) : y * y * g3 a b c d e f ≤ fq3 a b c d e f x y z * (a * c - e * e) := by
  have := crm_z (a := a) (b := c) (c := b) (d := e) (e := d) (f := f) (x := x) (y := z) (z := y) ha hD
  have e1 : g3 a c b e d f = g3 a b c d e f := by unfold g3; grind
  have e2 : fq3 a c b e d f x z y = fq3 a b c d e f x y z := by unfold fq3; grind
  rw [e1, e2] at this
  exact this
/-- a coefficient is within the bound -/
theorem in_bnd {x W N L m : Int} (hW : 0 < W) (hm : 0 ≤ m) (h : x * x * W ≤ N * m) (hN : N ≤ L) : x ∈ outw (isq ((L * m).fdiv W).toNat) := by
  rw [mem_outw]
  apply le_isq
  have h1 : N * m ≤ L * m := Int.mul_le_mul_of_nonneg_right hN hm
  have h2 : x * x ≤ (L * m).fdiv W := by
    rw [Int.fdiv_eq_ediv_of_nonneg _ (by omega), Int.le_ediv_iff_mul_le hW]
    omega
  have := sq_nn x
  omega
/-! ### one, two and three vectors -/
theorem gram1 (p : List Int) : detM (gram [p]) = nm p := by simp [detM, gram, detL]
theorem gram2 (p q : List Int) : detM (gram [p, q]) = nm p * nm q - dot p q * dot q p := by simp [detM, gram, detL]
theorem gram3' (p q r : List Int) : detM (gram [p, q, r]) = g3 (nm p) (nm q) (nm r) (dot p q) (dot p r) (dot q r) := by
  simp only [detM, gram, List.map_cons, List.map_nil]
  rw [if_neg (by simp)]
  simp only [detL, g3]
  rw [dot_comm q p, dot_comm r p, dot_comm r q]
  grind
theorem min10 (p : List Int) : detM (minG (some 0) (gram [p])) = 1 := by simp [detM, gram, minG, dropAt]
theorem min20 (p q : List Int) : detM (minG (some 0) (gram [p, q])) = nm q := by simp [detM, gram, minG, dropAt, detL]
theorem min21 (p q : List Int) : detM (minG (some 1) (gram [p, q])) = nm p := by simp [detM, gram, minG, dropAt, detL]
theorem min30 (p q r : List Int) : detM (minG (some 0) (gram [p, q, r])) = nm q * nm r - dot q r * dot q r := by
  simp [detM, gram, minG, dropAt, detL, dot_comm r q]
theorem min31 (p q r : List Int) : detM (minG (some 1) (gram [p, q, r])) = nm p * nm r - dot p r * dot p r := by
  simp [detM, gram, minG, dropAt, detL, dot_comm r p]
theorem min32 (p q r : List Int) : detM (minG (some 2) (gram [p, q, r])) = nm p * nm q - dot p q * dot p q := by
  simp [detM, gram, minG, dropAt, detL, dot_comm q p]
theorem det3_rot {p q r : List Int} (hp : p.length = 3) (hq : q.length = 3) (hr : r.length = 3) : detL [q, r, p] = detL [p, q, r] ∧ detL [p, r, q] = -detL [p, q, r] := by
  obtain ⟨a, b, c, rfl⟩ := len3 hp
  obtain ⟨d, e, f, rfl⟩ := len3 hq
  obtain ⟨g, h, i, rfl⟩ := len3 hr
  simp only [detL]
  constructor <;> grind
/-- the numbers of a table of products of independent vectors -/
theorem gram_pos {n : Nat} {T : List (List Int)} (hT : Sqr n T) (hd : detL T ≠ 0) : 0 < detM (gram T) ∧ ∀ i, i < n → 0 < detM (minG (some i) (gram T)) := by
  rcases hT.cases with ⟨rfl, a, rfl⟩ | ⟨rfl, a, b, c, d, rfl⟩ | ⟨rfl, a, b, c, d, e, f, g, h, i, rfl⟩
  · have pos : 0 < nm [a] := by
      have : nm [a] = a * a := by simp [nm, dot]
      rw [this]; exact sq_pos hd
    refine ⟨by rw [gram1]; exact pos, fun i hi => ?_⟩
    have : i = 0 := by omega
    subst this
    rw [min10]; decide
  · have ddp : 0 < dd [a, b] [c, d] := by rw [dd2]; exact sq_pos hd
    have pq := pos_of_dd ddp
    refine ⟨by rw [gram2, dot_comm [c, d]]; exact ddp, fun i hi => ?_⟩
    have : i = 0 ∨ i = 1 := by omega
    rcases this with rfl | rfl
    · rw [min20]; exact pq.2
    · rw [min21]; exact pq.1
  · have r3 := det3_rot (p := [a, b, c]) (q := [d, e, f]) (r := [g, h, i]) rfl rfl rfl
    have d1 := dd_pos3 (p := [a, b, c]) (q := [d, e, f]) (r := [g, h, i]) rfl rfl rfl hd
    have d2 := dd_pos3 (p := [d, e, f]) (q := [g, h, i]) (r := [a, b, c]) rfl rfl rfl (by rw [r3.1]; exact hd)
    have d3 := dd_pos3 (p := [a, b, c]) (q := [g, h, i]) (r := [d, e, f]) rfl rfl rfl (by rw [r3.2]; omega)
    refine ⟨by rw [gram3', gram3]; exact sq_pos hd, fun k hk => ?_⟩
    have : k = 0 ∨ k = 1 ∨ k = 2 := by omega
    rcases this with rfl | rfl | rfl
    · rw [min30]; exact d2
    · rw [min31]; exact d3
    · rw [min32]; exact d1
theorem mem_list {T : List (List Int)} {L : Int} {v : List Int} : v ∈ listV T L ↔ ∃ c ∈ rngC T L 2, ∃ b ∈ rngC T L 1, ∃ a ∈ rngC T L 0, v = plusV (startV T c b) a (row T 0) ∧ nm v ≤ L := by
  unfold listV inV
  simp only [List.mem_flatMap, List.mem_filter, List.mem_map, decide_eq_true_eq]
  constructor
  · rintro ⟨c, hc, b, hb, ⟨a, ha, rfl⟩, hn⟩
    exact ⟨c, hc, b, hb, a, ha, rfl, hn⟩
  · rintro ⟨c, hc, b, hb, a, ha, rfl, hn⟩
    exact ⟨c, hc, b, hb, ⟨a, ha, rfl⟩, hn⟩
theorem lc1 (p : Int) (a b c : Int) : plusV (startV [[p]] c b) a (row [[p]] 0) = [a * p] := by simp [startV, plusV, row]
theorem lc2 (p1 p2 q1 q2 : Int) (a b c : Int) : plusV (startV [[p1, p2], [q1, q2]] c b) a (row [[p1, p2], [q1, q2]] 0) = [a * p1 + b * q1, a * p2 + b * q2] := by
  simp [startV, plusV, row, List.replicate]; omega
theorem lc3 (p1 p2 p3 q1 q2 q3 r1 r2 r3 : Int) (a b c : Int) : plusV (startV [[p1, p2, p3], [q1, q2, q3], [r1, r2, r3]] c b) a (row [[p1, p2, p3], [q1, q2, q3], [r1, r2, r3]] 0) = [a * p1 + b * q1 + c * r1, a * p2 + b * q2 + c * r2, a * p3 + b * q3 + c * r3] := by
  simp [startV, plusV, row, List.replicate]; omega
theorem listV_mem {n : Nat} {T : List (List Int)} (hT : Sqr n T) (hd : detL T ≠ 0) (L : Int) (v : List Int) : v ∈ listV T L ↔ Lat n T v ∧ nm v ≤ L := by
  obtain ⟨gp, mp⟩ := gram_pos hT hd
  rw [mem_list]
  rcases hT.cases with ⟨rfl, p, rfl⟩ | ⟨rfl, p1, p2, q1, q2, rfl⟩ | ⟨rfl, p1, p2, p3, q1, q2, q3, r1, r2, r3, rfl⟩
  · constructor
    · rintro ⟨c, _, b, _, a, _, rfl, hn⟩
      rw [lc1] at hn ⊢
      exact ⟨lat1.mpr ⟨a, rfl⟩, hn⟩
    · rintro ⟨hl, hn⟩
      obtain ⟨x, rfl⟩ := len1 (hl.len hT.2.2.2)
      obtain ⟨k, rfl⟩ := lat1.mp hl
      refine ⟨0, by simp [rngC], 0, by simp [rngC], k, ?_, by rw [lc1], hn⟩
      show k ∈ outw (bnd [[p]] L 0)
      unfold bnd
      have e : nm [k * p] = k * k * nm [p] := by simp [nm, dot]; grind
      rw [min10, gram1]
      rw [gram1] at gp
      exact in_bnd (N := nm [k * p]) gp (by omega) (by rw [e]; omega) hn
  · constructor
    · rintro ⟨c, _, b, _, a, _, rfl, hn⟩
      rw [lc2] at hn ⊢
      exact ⟨lat2.mpr ⟨a, b, rfl, rfl⟩, hn⟩
    · rintro ⟨hl, hn⟩
      obtain ⟨x, y, rfl⟩ := len2 (hl.len hT.2.2.2)
      obtain ⟨k, l, rfl, rfl⟩ := lat2.mp hl
      have m0 := mp 0 (by omega)
      have m1 := mp 1 (by omega)
      rw [min20] at m0
      rw [min21] at m1
      rw [gram2, dot_comm [q1, q2]] at gp
      have e : nm [k * p1 + l * q1, k * p2 + l * q2] = fq2 (nm [p1, p2]) (nm [q1, q2]) (dot [p1, p2] [q1, q2]) k l := by simp only [nm, dot_cons, dot_nil, fq2]; grind
      have e' : fq2 (nm [p1, p2]) (nm [q1, q2]) (dot [p1, p2] [q1, q2]) k l = fq2 (nm [q1, q2]) (nm [p1, p2]) (dot [p1, p2] [q1, q2]) l k := by unfold fq2; grind
      refine ⟨0, by simp [rngC], l, ?_, k, ?_, by rw [lc2], hn⟩
      · show l ∈ outw (bnd [[p1, p2], [q1, q2]] L 1)
        unfold bnd
        rw [min21, gram2, dot_comm [q1, q2]]
        refine in_bnd (N := nm [k * p1 + l * q1, k * p2 + l * q2]) gp (by omega) ?_ hn
        rw [e]
        have := fq2_mul (nm [p1, p2]) (nm [q1, q2]) (dot [p1, p2] [q1, q2]) k l
        have s := sq_nn (nm [p1, p2] * k + dot [p1, p2] [q1, q2] * l)
        rw [Int.mul_comm (fq2 _ _ _ _ _), this, Int.mul_comm (l * l)]
        omega
      · show k ∈ outw (bnd [[p1, p2], [q1, q2]] L 0)
        unfold bnd
        rw [min20, gram2, dot_comm [q1, q2]]
        refine in_bnd (N := nm [k * p1 + l * q1, k * p2 + l * q2]) gp (by omega) ?_ hn
        rw [e, e']
        have := fq2_mul (nm [q1, q2]) (nm [p1, p2]) (dot [p1, p2] [q1, q2]) l k
        have s := sq_nn (nm [q1, q2] * l + dot [p1, p2] [q1, q2] * k)
        rw [Int.mul_comm (fq2 _ _ _ _ _), this, Int.mul_comm (k * k), Int.mul_comm (nm [q1, q2]) (nm [p1, p2])]
        omega
  · constructor
    · rintro ⟨c, _, b, _, a, _, rfl, hn⟩
      rw [lc3] at hn ⊢
      exact ⟨lat3.mpr ⟨a, b, c, rfl, rfl, rfl⟩, hn⟩
    · rintro ⟨hl, hn⟩
      obtain ⟨x, y, z, rfl⟩ := len3 (hl.len hT.2.2.2)
      obtain ⟨k, l, m, rfl, rfl, rfl⟩ := lat3.mp hl
      have m0 := mp 0 (by omega)
      have m1 := mp 1 (by omega)
      have m2 := mp 2 (by omega)
      rw [min30] at m0
      rw [min31] at m1
      rw [min32] at m2
      rw [gram3'] at gp
      have pp := (pos_of_dd m2).1
      have qq := (pos_of_dd m2).2
      have e : nm [k * p1 + l * q1 + m * r1, k * p2 + l * q2 + m * r2, k * p3 + l * q3 + m * r3] = fq3 (nm [p1, p2, p3]) (nm [q1, q2, q3]) (nm [r1, r2, r3]) (dot [p1, p2, p3] [q1, q2, q3]) (dot [p1, p2, p3] [r1, r2, r3]) (dot [q1, q2, q3] [r1, r2, r3]) k l m := by
        simp only [nm, dot_cons, dot_nil, fq3]; grind
      refine ⟨m, ?_, l, ?_, k, ?_, by rw [lc3], hn⟩
      · show m ∈ outw (bnd [[p1, p2, p3], [q1, q2, q3], [r1, r2, r3]] L 2)
        unfold bnd
        rw [min32, gram3']
        refine in_bnd (N := nm [k * p1 + l * q1 + m * r1, k * p2 + l * q2 + m * r2, k * p3 + l * q3 + m * r3]) gp (by omega) ?_ hn
        rw [e]
        exact crm_z pp m2
      · show l ∈ outw (bnd [[p1, p2, p3], [q1, q2, q3], [r1, r2, r3]] L 1)
        unfold bnd
        rw [min31, gram3']
        refine in_bnd (N := nm [k * p1 + l * q1 + m * r1, k * p2 + l * q2 + m * r2, k * p3 + l * q3 + m * r3]) gp (by omega) ?_ hn
        rw [e]
        exact crm_y pp m1
      · show k ∈ outw (bnd [[p1, p2, p3], [q1, q2, q3], [r1, r2, r3]] L 0)
        unfold bnd
        rw [min30, gram3']
        refine in_bnd (N := nm [k * p1 + l * q1 + m * r1, k * p2 + l * q2 + m * r2, k * p3 + l * q3 + m * r3]) gp (by omega) ?_ hn
        rw [e]
        exact crm_x qq m0
theorem lc_inj {n : Nat} {T : List (List Int)} (hT : Sqr n T) (hd : detL T ≠ 0) {a b c a' b' c' : Int} (h : plusV (startV T c b) a (row T 0) = plusV (startV T c' b') a' (row T 0)) : a = a' ∧ (1 < n → b = b') ∧ (2 < n → c = c') := by
  rcases hT.cases with ⟨rfl, p, rfl⟩ | ⟨rfl, p1, p2, q1, q2, rfl⟩ | ⟨rfl, p1, p2, p3, q1, q2, q3, r1, r2, r3, rfl⟩
  · rw [lc1, lc1] at h
    have := congrArg (wc [[p]]) h
    rw [wc1 hd, wc1 hd] at this
    simp at this
    exact ⟨this, by omega, by omega⟩
  · rw [lc2, lc2] at h
    have := congrArg (wc [[p1, p2], [q1, q2]]) h
    rw [wc2 hd, wc2 hd] at this
    simp at this
    exact ⟨this.1, fun _ => this.2, by omega⟩
  · rw [lc3, lc3] at h
    have := congrArg (wc [[p1, p2, p3], [q1, q2, q3], [r1, r2, r3]]) h
    rw [wc3 hd, wc3 hd] at this
    simp at this
    exact ⟨this.1, fun _ => this.2.1, fun _ => this.2.2⟩
theorem rng_nodup (T : List (List Int)) (L : Int) (i : Nat) : (rngC T L i).Nodup := by
  unfold rngC
  by_cases e : i < T.length
  · rw [if_pos e]; exact outw_nodup _
  · rw [if_neg e]; simp
theorem rng_one {T : List (List Int)} {L : Int} {i : Nat} {x y : Int} (h : ¬ i < T.length) (hx : x ∈ rngC T L i) (hy : y ∈ rngC T L i) : x = y := by
  unfold rngC at hx hy
  rw [if_neg h] at hx hy
  simp at hx hy
  omega
theorem pair_mem {α : Type} {R S : α → α → Prop} {l : List α} (h : l.Pairwise R) (k : ∀ a ∈ l, ∀ b ∈ l, R a b → S a b) : l.Pairwise S := by
  induction h with
  | nil => exact .nil
  | cons h1 _ ih =>
    rename_i a l _
    exact .cons (fun b hb => k a (by simp) b (by simp [hb]) (h1 b hb)) (ih fun x hx y hy => k x (by simp [hx]) y (by simp [hy]))
theorem listV_nodup {n : Nat} {T : List (List Int)} (hT : Sqr n T) (hd : detL T ≠ 0) (L : Int) : (listV T L).Nodup := by
  have hl := hT.2.2.1
  unfold listV List.Nodup
  rw [List.pairwise_flatMap]
  have memI : ∀ {c b x}, x ∈ inV T L (startV T c b) (rngC T L 0) → ∃ a, x = plusV (startV T c b) a (row T 0) := by
    intro c b x hx
    unfold inV at hx
    obtain ⟨a, _, rfl⟩ := List.mem_map.mp (List.mem_filter.mp hx).1
    exact ⟨a, rfl⟩
  refine ⟨fun c hc => ?_, ?_⟩
  · rw [List.pairwise_flatMap]
    refine ⟨fun b hb => ?_, ?_⟩
    · unfold inV
      refine List.Pairwise.filter _ (List.pairwise_map.mpr ?_)
      exact (rng_nodup T L 0).imp fun hne e => hne (lc_inj hT hd e).1
    · refine pair_mem (rng_nodup T L 1) fun b hb b' hb' hne x hx y hy e => ?_
      obtain ⟨a, rfl⟩ := memI hx
      obtain ⟨a', rfl⟩ := memI hy
      by_cases h1 : 1 < n
      · exact hne ((lc_inj hT hd e).2.1 h1)
      · exact hne (rng_one (by omega) hb hb')
  · refine pair_mem (rng_nodup T L 2) fun c hc c' hc' hne x hx y hy e => ?_
    obtain ⟨b, _, hx⟩ := List.mem_flatMap.mp hx
    obtain ⟨b', _, hy⟩ := List.mem_flatMap.mp hy
    obtain ⟨a, rfl⟩ := memI hx
    obtain ⟨a', rfl⟩ := memI hy
    by_cases h1 : 2 < n
    · exact hne ((lc_inj hT hd e).2.2 h1)
    · exact hne (rng_one (by omega) hc hc')
/-! #### MT -/
/-! All vectors up to a length: sizes; the ball among all integer vectors; ranks. -/
theorem red_last {T : List (List Int)} (h : Red T) : ∀ v ∈ T, nm v ≤ nm (T.getLastD []) := by
  intro v hv
  match T, h with
  | [p], _ => simp at hv; subst hv; simp
  | [p, q], h =>
    simp at hv
    obtain ⟨h1, _⟩ := h
    rcases hv with rfl | rfl
    · simpa using h1
    · simp
  | [p, q, r], h =>
    simp at hv
    obtain ⟨h1, h2, _⟩ := h
    rcases hv with rfl | rfl | rfl
    · have : nm v ≤ nm r := Int.le_trans h1 h2
      simpa using this
    · simpa using h2
    · simp
/-! ### all integer vectors of a box -/
def rngM (m : Nat) : List Int := (List.range (2 * m + 1)).map fun i => -(m : Int) + (i : Nat)
theorem rngM_mem {m : Nat} {x : Int} : x ∈ rngM m ↔ -(m : Int) ≤ x ∧ x ≤ m := by
  unfold rngM
  simp only [List.mem_map, List.mem_range]
  constructor
  · rintro ⟨i, hi, rfl⟩; omega
  · rintro ⟨h1, h2⟩; exact ⟨(x + m).toNat, by omega, by omega⟩
def ballR (m : Nat) : Nat → List (List Int)
  | 0 => [[]]
  | k + 1 => (ballR m k).flatMap fun r => (rngM m).map fun e => r ++ [e]
theorem ballR_mem (m : Nat) : ∀ (k : Nat) (v : List Int), v ∈ ballR m k ↔ v.length = k ∧ ∀ x ∈ v, -(m : Int) ≤ x ∧ x ≤ m
  | 0, v => by
    simp only [ballR, List.mem_singleton]
    constructor
    · rintro rfl; simp
    · rintro ⟨h, _⟩; exact List.length_eq_zero_iff.mp h
  | k + 1, v => by
    simp only [ballR, List.mem_flatMap, List.mem_map]
    constructor
    · rintro ⟨r, hr, e, he, rfl⟩
      obtain ⟨h1, h2⟩ := (ballR_mem m k r).mp hr
      refine ⟨by simp [h1], fun x hx => ?_⟩
      rcases List.mem_append.mp hx with h | h
      · exact h2 x h
      · have : x = e := by simpa using h
        subst this; exact rngM_mem.mp he
    · rintro ⟨h1, h2⟩
      have hne : v ≠ [] := fun e => by rw [e] at h1; simp at h1
      refine ⟨v.dropLast, (ballR_mem m k _).mpr ⟨by rw [List.length_dropLast]; omega, fun x hx => h2 x ((List.dropLast_sublist v).subset hx)⟩, v.getLast hne, rngM_mem.mpr (h2 _ (List.getLast_mem hne)), List.dropLast_concat_getLast hne⟩
theorem ballR_len (m : Nat) : ∀ k, (ballR m k).length = (2 * m + 1) ^ k
  | 0 => rfl
  | k + 1 => by
    show ((ballR m k).flatMap fun r => (rngM m).map fun e => r ++ [e]).length = _
    rw [len_fm (fun (r : List Int) (e : Int) => r ++ [e]), ballR_len m k]
    unfold rngM
    simp [Nat.pow_succ]
theorem list_len {n : Nat} {T : List (List Int)} (hT : Sqr n T) (hd : detL T ≠ 0) {L : Int} (hL : L ≤ 5000) : (listV T L).length ≤ 10000000 := by
  have h3 := hT.2.1
  have : (listV T L).length ≤ (ballR 70 n).length := sub_len (listV_nodup hT hd L) fun v hv => by
    obtain ⟨h1, h2⟩ := (listV_mem hT hd L v).mp hv
    refine (ballR_mem 70 n v).mpr ⟨h1.len hT.2.2.2, fun x hx => ?_⟩
    have h4 := ent_nm hx
    have h5 : x * x ≤ 5000 := by omega
    have h6 := le_isq (n := 5000) (x := x) (by omega)
    have h7 : isq 5000 ≤ 70 := isq_le (by omega)
    omega
  rw [ballR_len] at this
  rcases (by have := hT.1; omega : n = 1 ∨ n = 2 ∨ n = 3) with rfl | rfl | rfl <;> simp at this <;> omega
/-! #### GC -/
/-! ### sorted vectors -/
/-! ### the functions of vectors up to a length -/
/-- what is known of the short basis of a basis -/
structure RedK (R : List (List Int)) : Prop where
  bas : Bas R
  sq : Sqr R.length (redB R)
  same : SameL R.length R (redB R)
  red : Red (redB R)
  det : detL (redB R) ≠ 0
  vec : ∀ v ∈ redB R, VecOk 23 R.length v
  gok : GOk R.length (redB R)
theorem Bas.redK {R : List (List Int)} (h : Bas R) : RedK R := by
  obtain ⟨h1, h2, h3, h4⟩ := redB_ok h.sqr h.2.2.2
  have hd := det_of_same h.sqr h1 h2 h.2.2.2
  obtain ⟨g1, g2⟩ := gram_pos h1 hd
  exact ⟨h, h1, h2, h3, hd, red_vec h, ⟨h1.1, h1.2.1, h1.2.2.1, fun v hv => (red_vec h v hv).mono (by omega), g1, fun i hi => Int.le_of_lt (g2 i hi)⟩⟩
theorem RedK.small {R : List (List Int)} (k : RedK R) (h : lastN R ≤ 5000) : ∀ v ∈ redB R, nm v ≤ 5000 := fun v hv => Int.le_trans (red_last k.red v hv) h
theorem RedK.mem {R : List (List Int)} (k : RedK R) {L : Int} {v : List Int} : v ∈ listV (redB R) L ↔ Lat R.length R v ∧ nm v ≤ L := by
  rw [listV_mem k.sq k.det, k.same v]
theorem RedK.ne {R : List (List Int)} (k : RedK R) {L : Int} {v : List Int} (hv : v ∈ listV (redB R) L) : v ≠ [] := fun e => by
  have h1 := ((listV_mem k.sq k.det L v).mp hv).1.len k.sq.2.2.2
  rw [e] at h1
  have := k.bas.1
  simp at h1
  omega
theorem RedK.lvec {R : List (List Int)} (k : RedK R) {L : Int} (hL : L ≤ 1000000) {v : List Int} (hv : v ∈ listV (redB R) L) : VecOk 23 R.length v := by
  obtain ⟨h1, h2⟩ := (listV_mem k.sq k.det L v).mp hv
  refine ⟨h1.len k.sq.2.2.2, ent_sm ?_⟩
  unfold BB
  omega
/-! #### MW -/
/-! Grids that look the same: products, images, turnings. -/
def GrmE (R T : List (List Int)) : Prop := ∀ i, i < R.length → ∀ j, j < R.length → dot (row T i) (row T j) = dot (row R i) (row R j)
def grmB (R T : List (List Int)) : Bool := (List.range R.length).all fun i => (List.range R.length).all fun j => decide (dot (row T i) (row T j) = dot (row R i) (row R j))
theorem grm_iff (R T : List (List Int)) : grmB R T = true ↔ GrmE R T := by
  unfold grmB GrmE
  simp [List.all_eq_true]
instance (R T : List (List Int)) : Decidable (GrmE R T) := decidable_of_iff (grmB R T = true) (grm_iff R T)
theorem grm2 {p q a b : List Int} (g : GrmE [p, q] [a, b]) : nm a = nm p ∧ nm b = nm q ∧ dot a b = dot p q ∧ dot b a = dot q p := by
  have h := fun i (hi : i < 2) j (hj : j < 2) => g i hi j hj
  exact ⟨h 0 (by omega) 0 (by omega), h 1 (by omega) 1 (by omega), h 0 (by omega) 1 (by omega), h 1 (by omega) 0 (by omega)⟩
/-! ### images -/
theorem row_snoc_lt {C : List (List Int)} {v : List Int} {i : Nat} (h : i < C.length) : row (C ++ [v]) i = row C i := by
  rw [row_lt (by simp; omega), row_lt h, List.getElem_append_left h]
theorem row_snoc_eq {C : List (List Int)} {v : List Int} {i : Nat} (h : i = C.length) : row (C ++ [v]) i = v := by
  subst h
  rw [row_lt (by simp), List.getElem_append_right (by omega)]
  simp
def fitB (pre ch : List (List Int)) (r v : List Int) : Bool := (List.range pre.length).all fun k => decide (dot (row ch k) v = dot (row pre k) r)
def imgOne (some pre : List (List Int)) (r : List Int) (ch : List (List Int)) : List (List (List Int)) := ((some.filter fun v => decide (nm v = nm r)).filter (fitB pre ch r)).map fun v => ch ++ [v]
def imgStep (some pre : List (List Int)) (r : List Int) (F : List (List (List Int))) : List (List (List Int)) := F.flatMap (imgOne some pre r)
def imgGo (some : List (List Int)) : List (List Int) → List (List Int) → List (List (List Int)) → List (List (List Int))
  | _, [], F => F
  | pre, r :: rs, F => imgGo some (pre ++ [r]) rs (imgStep some pre r F)
def Fit (some pre ch : List (List Int)) : Prop := ch.length = pre.length ∧ (∀ v ∈ ch, v ∈ some) ∧ GrmE pre ch
theorem imgStep_mem {some pre : List (List Int)} {r : List Int} {F : List (List (List Int))} (h : ∀ ch, ch ∈ F ↔ Fit some pre ch) (ch : List (List Int)) : ch ∈ imgStep some pre r F ↔ Fit some (pre ++ [r]) ch := by
  unfold imgStep imgOne
  simp only [List.mem_flatMap, List.mem_map, List.mem_filter, fitB, List.all_eq_true, List.mem_range, decide_eq_true_eq]
  constructor
  · rintro ⟨c, hc, v, ⟨⟨hv, hn⟩, hf⟩, rfl⟩
    obtain ⟨l, s, g⟩ := (h c).mp hc
    refine ⟨by simp [l], fun u hu => ?_, fun i hi j hj => ?_⟩
    · rcases List.mem_append.mp hu with hu | hu
      · exact s u hu
      · have : u = v := by simpa using hu
        subst this; exact hv
    · rw [List.length_append, List.length_singleton] at hi hj
      rcases (by omega : i < pre.length ∨ i = pre.length) with hi | hi <;> rcases (by omega : j < pre.length ∨ j = pre.length) with hj | hj
      · rw [row_snoc_lt (by omega), row_snoc_lt (by omega), row_snoc_lt hi, row_snoc_lt hj]
        exact g i hi j hj
      · rw [row_snoc_lt (by omega), row_snoc_eq (by omega), row_snoc_lt hi, row_snoc_eq hj]
        exact hf i hi
      · rw [row_snoc_eq (by omega), row_snoc_lt (by omega), row_snoc_eq hi, row_snoc_lt hj, dot_comm, dot_comm r]
        exact hf j hj
      · rw [row_snoc_eq (by omega), row_snoc_eq (by omega), row_snoc_eq hi, row_snoc_eq hj]
        exact hn
  · rintro ⟨l, s, g⟩
    rw [List.length_append, List.length_singleton] at l
    have hne : ch ≠ [] := fun e => by rw [e] at l; simp at l
    obtain ⟨c, v, rfl⟩ : ∃ c v, ch = c ++ [v] := ⟨_, _, (List.dropLast_concat_getLast hne).symm⟩
    rw [List.length_append, List.length_singleton] at l
    have G : ∀ i, i < pre.length + 1 → ∀ j, j < pre.length + 1 → dot (row (c ++ [v]) i) (row (c ++ [v]) j) = dot (row (pre ++ [r]) i) (row (pre ++ [r]) j) := fun i hi j hj => g i (by simp; omega) j (by simp; omega)
    refine ⟨c, (h c).mpr ⟨by omega, fun u hu => s u (List.mem_append_left _ hu), fun i hi j hj => ?_⟩, v, ⟨⟨s v (by simp), ?_⟩, fun k hk => ?_⟩, rfl⟩
    · have := G i (by omega) j (by omega)
      rwa [row_snoc_lt (by omega), row_snoc_lt (by omega), row_snoc_lt hi, row_snoc_lt hj] at this
    · have := G pre.length (by omega) pre.length (by omega)
      rwa [row_snoc_eq (by omega), row_snoc_eq rfl] at this
    · have := G k (by omega) pre.length (by omega)
      rwa [row_snoc_lt (by omega), row_snoc_eq (by omega), row_snoc_lt hk, row_snoc_eq rfl] at this
theorem imgGo_mem {some : List (List Int)} : ∀ (rs pre : List (List Int)) (F : List (List (List Int))), (∀ ch, ch ∈ F ↔ Fit some pre ch) → ∀ ch, ch ∈ imgGo some pre rs F ↔ Fit some (pre ++ rs) ch
  | [], pre, F, h, ch => by rw [List.append_nil]; exact h ch
  | r :: rs, pre, F, h, ch => by
    have := imgGo_mem rs (pre ++ [r]) (imgStep some pre r F) (imgStep_mem h) ch
    rw [List.append_assoc] at this
    exact this
theorem fit_nil {some ch : List (List Int)} : ch ∈ ([[]] : List (List (List Int))) ↔ Fit some [] ch := by
  rw [List.mem_singleton]
  constructor
  · rintro rfl; exact ⟨rfl, by simp, fun i hi => absurd hi (by simp)⟩
  · rintro ⟨h, _⟩; exact List.length_eq_zero_iff.mp h
/-! ### how many images -/
theorem fm_len {α β : Type} {f : α → List β} {k : Nat} (h : ∀ a, (f a).length ≤ k) : ∀ X : List α, (X.flatMap f).length ≤ X.length * k
  | [] => by simp
  | x :: X => by
    rw [List.flatMap_cons, List.length_append, List.length_cons, Nat.succ_mul]
    have := h x
    have := fm_len h X
    omega
theorem fm_len_mem {α β : Type} {f : α → List β} {k : Nat} : ∀ X : List α, (∀ a ∈ X, (f a).length ≤ k) → (X.flatMap f).length ≤ X.length * k
  | [], _ => by simp
  | x :: X, h => by
    rw [List.flatMap_cons, List.length_append, List.length_cons, Nat.succ_mul]
    have := h x List.mem_cons_self
    have := fm_len_mem X fun a ha => h a (List.mem_cons_of_mem _ ha)
    omega
theorem box_len {n : Nat} {l : List (List Int)} (hl : l.Nodup) (m : Nat) (h : ∀ v ∈ l, v.length = n ∧ ∀ x ∈ v, -(m : Int) ≤ x ∧ x ≤ m) : l.length ≤ (2 * m + 1) ^ n := by
  rw [← ballR_len]
  exact sub_len hl fun v hv => (ballR_mem m n v).mpr (h v hv)
theorem sq_eq {a b : Int} (h : a * a = b * b) (s : decide (0 ≤ a) = decide (0 ≤ b)) : a = b := by
  have h1 : (a - b) * (a + b) = 0 := by grind
  have : (0 ≤ a) ↔ (0 ≤ b) := decide_eq_decide.mp s
  rcases Int.mul_eq_zero.mp h1 with h | h <;> omega
theorem ball3 {l : List (List Int)} (hl : l.Nodup) {c : Int} (hc : c ≤ 80) (h : ∀ v ∈ l, v.length = 3 ∧ nm v = c) : l.length ≤ 578 := by
  have key : (l.map fun v => (gt v 0, gt v 1, decide (0 ≤ gt v 2))).Nodup := nodup_map hl fun u hu v hv e => by
    obtain ⟨u1, u2⟩ := h u hu
    obtain ⟨v1, v2⟩ := h v hv
    obtain ⟨a, b, d, rfl⟩ := len3 u1
    obtain ⟨a', b', d', rfl⟩ := len3 v1
    simp only [gt, List.getD_cons_zero, List.getD_cons_succ, Prod.mk.injEq] at e
    obtain ⟨rfl, rfl, e3⟩ := e
    have : d = d' := sq_eq (by simp [nm, dot] at u2 v2; omega) e3
    rw [this]
  have := sub_len (Y := (rngM 8).flatMap fun a => (rngM 8).flatMap fun b => [(a, b, true), (a, b, false)]) key fun x hx => by
    obtain ⟨v, hv, rfl⟩ := List.mem_map.mp hx
    obtain ⟨v1, v2⟩ := h v hv
    obtain ⟨a, b, d, rfl⟩ := len3 v1
    simp only [gt, List.getD_cons_zero, List.getD_cons_succ]
    have bd : ∀ x ∈ [a, b, d], -(8 : Int) ≤ x ∧ x ≤ 8 := fun x hx => by
      have h1 := ent_nm hx
      have h2 : x * x < 81 := by omega
      constructor
      · exact Decidable.byContradiction fun hc => by have := sq_le (x := 9) (B := -x) (by omega) (by omega); grind
      · exact Decidable.byContradiction fun hc => by have := sq_le (x := 9) (B := x) (by omega) (by omega); grind
    rw [mem3] at bd
    simp only [List.mem_flatMap]
    refine ⟨a, rngM_mem.mpr bd.1, b, rngM_mem.mpr bd.2.1, ?_⟩
    cases decide (0 ≤ d) <;> simp
  rw [List.length_map] at this
  refine Nat.le_trans this ?_
  decide +kernel
theorem two_len {l : List Int} (hl : l.Nodup) {d : Int} (h : ∀ x ∈ l, x * x = d * d) : l.length ≤ 2 := by
  have := sub_len (Y := [d, -d]) hl fun x hx => by
    have h1 := h x hx
    have h2 : (x - d) * (x + d) = 0 := by grind
    rcases Int.mul_eq_zero.mp h2 with h | h
    · have : x = d := by omega
      simp [this]
    · have : x = -d := by omega
      simp [this]
  simpa using this
theorem last_two {p q : List Int} (hp : p.length = 3) (hq : q.length = 3) (hd : 0 < dd p q) {l : List (List Int)} (hl : l.Nodup) {a b c : Int} (h : ∀ v ∈ l, v.length = 3 ∧ dot p v = a ∧ dot q v = b ∧ nm v = c) : l.length ≤ 2 := by
  obtain ⟨p0, p1, p2, rfl⟩ := len3 hp
  obtain ⟨q0, q1, q2, rfl⟩ := len3 hq
  have key : (l.map fun v => detL [[p0, p1, p2], [q0, q1, q2], v]).Nodup := nodup_map hl fun u hu v hv e => by
    obtain ⟨u1, u2, u3, u4⟩ := h u hu
    obtain ⟨v1, v2, v3, v4⟩ := h v hv
    obtain ⟨x, y, z, rfl⟩ := len3 u1
    obtain ⟨x', y', z', rfl⟩ := len3 v1
    rw [dd3] at hd
    simp [dot, detL] at u2 u3 v2 v3 e
    have e1 : p0 * (x - x') + p1 * (y - y') + p2 * (z - z') = 0 := by grind
    have e2 : q0 * (x - x') + q1 * (y - y') + q2 * (z - z') = 0 := by grind
    have e3 : (p1 * q2 - p2 * q1) * (x - x') + (p2 * q0 - p0 * q2) * (y - y') + (p0 * q1 - p1 * q0) * (z - z') = 0 := by grind
    have ring : ∀ X Y Z : Int, p0 * X + p1 * Y + p2 * Z = 0 → q0 * X + q1 * Y + q2 * Z = 0 → (p1 * q2 - p2 * q1) * X + (p2 * q0 - p0 * q2) * Y + (p0 * q1 - p1 * q0) * Z = 0 → X = 0 ∧ Y = 0 ∧ Z = 0 := fun X Y Z h1 h2 h3 => by
      have D0 : ((p0 * q1 - p1 * q0) * (p0 * q1 - p1 * q0) + (p0 * q2 - p2 * q0) * (p0 * q2 - p2 * q0) + (p1 * q2 - p2 * q1) * (p1 * q2 - p2 * q1)) ≠ 0 := by omega
      refine ⟨?_, ?_, ?_⟩
      · have : ((p0 * q1 - p1 * q0) * (p0 * q1 - p1 * q0) + (p0 * q2 - p2 * q0) * (p0 * q2 - p2 * q0) + (p1 * q2 - p2 * q1) * (p1 * q2 - p2 * q1)) * X = (p1 * q2 - p2 * q1) * ((p1 * q2 - p2 * q1) * X + (p2 * q0 - p0 * q2) * Y + (p0 * q1 - p1 * q0) * Z) + ((p2 * q0 - p0 * q2) * p2 - (p0 * q1 - p1 * q0) * p1) * (q0 * X + q1 * Y + q2 * Z) - ((p2 * q0 - p0 * q2) * q2 - (p0 * q1 - p1 * q0) * q1) * (p0 * X + p1 * Y + p2 * Z) := by grind
        rw [h1, h2, h3] at this
        exact (Int.mul_eq_zero.mp (by simpa using this)).resolve_left D0
      · have : ((p0 * q1 - p1 * q0) * (p0 * q1 - p1 * q0) + (p0 * q2 - p2 * q0) * (p0 * q2 - p2 * q0) + (p1 * q2 - p2 * q1) * (p1 * q2 - p2 * q1)) * Y = (p2 * q0 - p0 * q2) * ((p1 * q2 - p2 * q1) * X + (p2 * q0 - p0 * q2) * Y + (p0 * q1 - p1 * q0) * Z) + ((p0 * q1 - p1 * q0) * p0 - (p1 * q2 - p2 * q1) * p2) * (q0 * X + q1 * Y + q2 * Z) - ((p0 * q1 - p1 * q0) * q0 - (p1 * q2 - p2 * q1) * q2) * (p0 * X + p1 * Y + p2 * Z) := by grind
        rw [h1, h2, h3] at this
        exact (Int.mul_eq_zero.mp (by simpa using this)).resolve_left D0
      · have : ((p0 * q1 - p1 * q0) * (p0 * q1 - p1 * q0) + (p0 * q2 - p2 * q0) * (p0 * q2 - p2 * q0) + (p1 * q2 - p2 * q1) * (p1 * q2 - p2 * q1)) * Z = (p0 * q1 - p1 * q0) * ((p1 * q2 - p2 * q1) * X + (p2 * q0 - p0 * q2) * Y + (p0 * q1 - p1 * q0) * Z) + ((p1 * q2 - p2 * q1) * p1 - (p2 * q0 - p0 * q2) * p0) * (q0 * X + q1 * Y + q2 * Z) - ((p1 * q2 - p2 * q1) * q1 - (p2 * q0 - p0 * q2) * q0) * (p0 * X + p1 * Y + p2 * Z) := by grind
        rw [h1, h2, h3] at this
        exact (Int.mul_eq_zero.mp (by simpa using this)).resolve_left D0
    obtain ⟨h1, h2, h3⟩ := ring _ _ _ e1 e2 e3
    have : x = x' := by omega
    have : y = y' := by omega
    have : z = z' := by omega
    subst_vars
    rfl
  have G : ∀ v ∈ l, detL [[p0, p1, p2], [q0, q1, q2], v] * detL [[p0, p1, p2], [q0, q1, q2], v] = g3 (nm [p0, p1, p2]) (nm [q0, q1, q2]) c (dot [p0, p1, p2] [q0, q1, q2]) a b := fun v hv => by
    obtain ⟨v1, v2, v3, v4⟩ := h v hv
    obtain ⟨x, y, z, rfl⟩ := len3 v1
    rw [← gram3, v2, v3, v4]
  cases l with
  | nil => simp
  | cons u l =>
    have := two_len key (d := detL [[p0, p1, p2], [q0, q1, q2], u]) fun x hx => by
      obtain ⟨v, hv, rfl⟩ := List.mem_map.mp hx
      rw [G v hv, G u List.mem_cons_self]
    rwa [List.length_map] at this
/-! #### MX -/
/-! How many images there are; a grid with its entries in reversed sequence looks the same. -/
def bdI : Nat → Nat
  | 0 => 1
  | 1 => 578
  | 2 => 334084
  | _ => 668168
theorem ent8 {v : List Int} {c : Int} (hc : c ≤ 80) (h : nm v ≤ c) : ∀ x ∈ v, -(8 : Int) ≤ x ∧ x ≤ 8 := fun x hx => by
  have h1 := ent_nm hx
  have h2 : x * x < 81 := by omega
  constructor
  · exact Decidable.byContradiction fun hc => by have := sq_le (x := 9) (B := -x) (by omega) (by omega); grind
  · exact Decidable.byContradiction fun hc => by have := sq_le (x := 9) (B := x) (by omega) (by omega); grind
theorem one_len {n : Nat} {some pre ch : List (List Int)} {r : List Int} (n3 : n ≤ 3) (hs : some.Nodup) (hl : ∀ v ∈ some, v.length = n) (hr : nm r ≤ 80) : (imgOne some pre r ch).length ≤ 578 := by
  unfold imgOne
  rw [List.length_map]
  have nd : ((some.filter fun v => decide (nm v = nm r)).filter (fitB pre ch r)).Nodup := (hs.filter _).filter _
  have mem : ∀ v ∈ ((some.filter fun v => decide (nm v = nm r)).filter (fitB pre ch r)), v.length = n ∧ nm v = nm r := fun v hv => by
    have h1 := List.mem_filter.mp (List.mem_filter.mp hv).1
    exact ⟨hl v h1.1, by simpa using h1.2⟩
  rcases (by omega : n = 3 ∨ n ≤ 2) with rfl | h2
  · exact ball3 nd hr mem
  · have := box_len nd (n := n) 8 fun v hv => ⟨(mem v hv).1, ent8 hr (by rw [(mem v hv).2]; exact Int.le_refl _)⟩
    have h17 : (2 * 8 + 1) ^ n ≤ (2 * 8 + 1) ^ 2 := Nat.pow_le_pow_right (by omega) h2
    have : (2 * 8 + 1) ^ 2 = 289 := by decide
    omega
theorem one_len2 {some ch : List (List Int)} {p q r : List Int} (hs : some.Nodup) (hl : ∀ v ∈ some, v.length = 3) (hd : 0 < dd p q) (f : Fit some [p, q] ch) : (imgOne some [p, q] r ch).length ≤ 2 := by
  obtain ⟨l, s, g⟩ := f
  obtain ⟨a, b, rfl⟩ := len2 l
  obtain ⟨g1, g2, g3', _⟩ := grm2 g
  rw [mem2] at s
  unfold imgOne
  rw [List.length_map]
  have dd' : 0 < dd a b := by unfold dd at *; rw [g1, g2, g3']; exact hd
  refine last_two (hl a s.1) (hl b s.2) dd' ((hs.filter _).filter _) (a := dot p r) (b := dot q r) (c := nm r) fun v hv => ?_
  obtain ⟨h0, h1⟩ := List.mem_filter.mp hv
  obtain ⟨h2, h3⟩ := List.mem_filter.mp h0
  unfold fitB at h1
  rw [List.all_eq_true] at h1
  have k0 := h1 0 (by simp)
  have k1 := h1 1 (by simp)
  exact ⟨hl v h2, by simpa [row] using k0, by simpa [row] using k1, by simpa using h3⟩
/-- a step more -/
theorem step_bd {n : Nat} {some pre : List (List Int)} {r : List Int} {F : List (List (List Int))} (n3 : n ≤ 3) (hp : pre.length < n) (hs : some.Nodup) (hl : ∀ v ∈ some, v.length = n) (hr : nm r ≤ 80) (hF : ∀ ch ∈ F, Fit some pre ch) (hd : ∀ p q, pre = [p, q] → 0 < dd p q) (hb : F.length ≤ bdI pre.length) : (imgStep some pre r F).length ≤ bdI (pre.length + 1) := by
  unfold imgStep
  rcases (by omega : pre.length = 0 ∨ pre.length = 1 ∨ pre.length = 2) with e | e | e
  · rw [e] at hb ⊢
    have := fm_len (f := imgOne some pre r) (k := 578) (fun ch => one_len n3 hs hl hr) F
    simp only [bdI] at *; omega
  · rw [e] at hb ⊢
    have := fm_len (f := imgOne some pre r) (k := 578) (fun ch => one_len n3 hs hl hr) F
    simp only [bdI] at *; omega
  · obtain ⟨p, q, rfl⟩ := len2 e
    have e3 : n = 3 := by omega
    subst e3
    have := fm_len_mem (f := imgOne some [p, q] r) (k := 2) F fun ch hc => one_len2 hs hl (hd p q rfl) (hF ch hc)
    rw [e] at hb ⊢
    simp only [bdI] at *; omega
/-! ### what an image keeps -/
/-! ### reversed entries -/
/-! #### GF -/
/-! ### loops over a list -/
theorem forGo_pre {α : Type} {bd : D → Env → Sto → Option Env} {b : WS} {E : DEnds} {src : Src} (enc : α → D) (L : List α) (I : List α → Env → Sto → Prop)
    (h : ∀ pre a post, L = pre ++ a :: post → ∀ env S, I pre env S → srcOk src S ∧ ∃ env', bd (enc a) env S = some env' ∧ ∀ nx : Env → Sto → Prop, (∀ env S, I (pre ++ [a]) env S → nx env S) → b { E with nx := nx, ct := nx, bk := E.nx } env' S)
    (hq : ∀ env S, I L env S → srcOk src S ∧ E.nx env S) {env : Env} {S : Sto} (h0 : I [] env S) : forGo bd b E src (L.map enc) env S := by
  refine forGo_inv (fun ds env S => ∃ pre post, L = pre ++ post ∧ ds = post.map enc ∧ I pre env S) ?_ ?_ _ _ _ ⟨[], L, rfl, rfl, h0⟩
  · rintro d ds env S ⟨pre, post, he, hd, hi⟩
    match post, hd with
    | a :: post, hd =>
      simp only [List.map_cons, List.cons.injEq] at hd
      obtain ⟨rfl, rfl⟩ := hd
      obtain ⟨h1, env', h2, h3⟩ := h pre a post he env S hi
      exact ⟨h1, env', h2, fun nx hnx => h3 nx fun env S hi => hnx env S ⟨pre ++ [a], post, by rw [he]; simp, rfl, hi⟩⟩
  · rintro env S ⟨pre, post, he, hd, hi⟩
    have : post = [] := by simpa using hd.symm
    subst this
    rw [List.append_nil] at he
    subst he
    exact hq env S hi
/-! ### the sum of multiples -/
/-! ### the images of a short basis -/
def ME (ch : List (List Int)) : D := .tup (ch.map VE)
theorem imgGo_snoc (some : List (List Int)) (r : List Int) : ∀ (rs pre : List (List Int)) (F : List (List (List Int))), imgGo some pre (rs ++ [r]) F = imgStep some (pre ++ rs) r (imgGo some pre rs F)
  | [], pre, F => by simp [imgGo]
  | s :: rs, pre, F => by
    show imgGo some (pre ++ [s]) (rs ++ [r]) (imgStep some pre s F) = imgStep some (pre ++ s :: rs) r (imgGo some (pre ++ [s]) rs (imgStep some pre s F))
    rw [imgGo_snoc some r rs (pre ++ [s])]
    simp
/-- what is known of two short bases whose images are sought -/
structure ImgK (O T : List (List Int)) : Prop where
  bO : Bas O
  bT : Bas T
  len : O.length = T.length
  lO : lastN O ≤ 80
  lT : lastN T ≤ 5000
def someI (O T : List (List Int)) : List (List Int) := listV (redB T) (nm ((redB O).getLastD []))
theorem ImgK.some {O T : List (List Int)} (k : ImgK O T) : (someI O T).Nodup ∧ (∀ v ∈ someI O T, VecOk 23 O.length v ∧ nm v ≤ 80) ∧ (someI O T).length ≤ 10000000 := by
  have kT := k.bT.redK
  have h : nm ((redB O).getLastD []) ≤ 80 := k.lO
  refine ⟨listV_nodup kT.sq kT.det _, fun v hv => ⟨by rw [k.len]; exact kT.lvec (by omega) hv, ?_⟩, list_len kT.sq kT.det (by omega)⟩
  have := ((listV_mem kT.sq kT.det _ v).mp hv).2
  omega
theorem ImgK.row {O T : List (List Int)} (k : ImgK O T) : ∀ v ∈ redB O, VecOk 23 O.length v ∧ nm v ≤ 80 := fun v hv => by
  have kO := k.bO.redK
  have := red_last kO.red v hv
  have := k.lO
  exact ⟨kO.vec v hv, by unfold lastN at this; omega⟩
theorem ImgK.dd {O T : List (List Int)} (k : ImgK O T) {p q : List Int} {post : List (List Int)} (h : redB O = p :: q :: post) (h3 : post ≠ []) : 0 < dd p q := by
  have kO := k.bO.redK
  have s := kO.sq
  have d := kO.det
  have n3 := s.2.1
  have hl := s.2.2.1
  rw [h] at hl d s
  match post, h3 with
  | [r], _ =>
    have e3 : O.length = 3 := by simpa using hl.symm
    rw [e3] at s
    exact dd_pos3 (s.2.2.2 p (by simp)) (s.2.2.2 q (by simp)) (s.2.2.2 r (by simp)) d
  | r :: t :: post, _ => simp at hl; omega
/-- the images of the first rows -/
def preI (O T P : List (List Int)) : List (List (List Int)) := imgGo (someI O T) [] P [[]]
theorem ImgK.pre {O T : List (List Int)} (k : ImgK O T) : ∀ (P post : List (List Int)), redB O = P ++ post → (∀ ch, ch ∈ preI O T P ↔ Fit (someI O T) P ch) ∧ (preI O T P).length ≤ bdI P.length := by
  intro P post he
  refine ⟨fun ch => by have := imgGo_mem (some := someI O T) P [] [[]] (fun ch => fit_nil) ch; rwa [List.nil_append] at this, ?_⟩
  have n3 := k.bO.2.1
  have hl := redB_len k.bO
  obtain ⟨s1, s2, s3⟩ := k.some
  -- by the number of rows
  suffices H : ∀ m, m ≤ P.length → (preI O T (P.take m)).length ≤ bdI m by
    have := H P.length (Nat.le_refl _)
    rwa [List.take_length] at this
  intro m
  induction m with
  | zero => intro _; simp [preI, imgGo, bdI]
  | succ m ih =>
    intro hm
    have ih := ih (by omega)
    have lP : P.length ≤ O.length := by rw [he] at hl; simp at hl; omega
    have e1 : P.take (m + 1) = P.take m ++ [P[m]] := by rw [List.take_append_getElem]
    unfold preI at ih ⊢
    rw [e1, imgGo_snoc, List.nil_append]
    have lt : (P.take m).length = m := by simp; omega
    have := step_bd (n := O.length) (some := someI O T) (pre := P.take m) (r := P[m]) (F := imgGo (someI O T) [] (P.take m) [[]]) n3 (by rw [lt]; omega) s1 (fun v hv => (s2 v hv).1.1)
      (k.row _ (by rw [he]; exact List.mem_append_left _ (List.getElem_mem _))).2 (fun ch hc => by
        have := (imgGo_mem (some := someI O T) (P.take m) [] [[]] (fun ch => fit_nil) ch).mp hc
        rwa [List.nil_append] at this) (fun p q hpq => by
        have l2 : m = 2 := by rw [hpq] at lt; simpa using lt.symm
        subst l2
        refine k.dd (p := p) (q := q) (post := P.drop 2 ++ post) ?_ (fun e => ?_)
        · rw [he]
          have : P = P.take 2 ++ P.drop 2 := (List.take_append_drop 2 P).symm
          rw [hpq] at this
          rw [show P ++ post = ([p, q] ++ P.drop 2) ++ post from congrArg (· ++ post) this]
          simp
        · have := congrArg List.length e
          simp at this
          omega) (by rw [lt]; exact ih)
    rwa [lt] at this
/-! #### HR -/
/-! ### operations -/
inductive Op where
  | add (v : List Int)
  | rem (k : Int)
deriving DecidableEq
theorem sok3 : PyData.strOk "add" = true := by decide +kernel
theorem sok4 : PyData.strOk "remove" = true := by decide +kernel
def eOp : Enc Op where
  e o := match o with
    | .add v => .tup [.str "add", VE v]
    | .rem k => .tup [.str "remove", .int k]
  p o := match o with
    | .add v => .tuple [.str "add", eV.p v]
    | .rem k => .tuple [.str "remove", .int k]
  n := 2
  hp o := by
    cases o with
    | add v =>
      have := eV.hp v
      rw [show eV.e v = VE v from rfl] at this
      simp [pyD, pyDs, this]
    | rem k => simp [pyD, pyDs]
  lay o := by
    cases o with
    | add v => have := eV.lay v; simp [PyData.canLay0, PyData.canLayAll0, this, sok3]
    | rem k => simp [PyData.canLay0, PyData.canLayAll0, sok4]
  dp o := by
    cases o with
    | add v =>
      have := eV.dp v
      have e : eV.n = 1 := rfl
      simp only [PyData.depth, PyData.depthAll]; omega
    | rem k => simp only [PyData.depth, PyData.depthAll]; omega
  eq a b := by
    have e1 : (("add" : Str) == ("remove" : Str)) = false := by decide
    have e2 : (("remove" : Str) == ("add" : Str)) = false := by decide
    cases a with
    | add u =>
      cases b with
      | add v => rw [eqv2, eV.eq, beq_self_eq_true, Bool.true_and]; simp
      | rem k => rw [eqv2, e1, Bool.false_and]; simp
    | rem j =>
      cases b with
      | add v => rw [eqv2, e2, Bool.false_and]; simp
      | rem k =>
        rw [eqv2, beq_self_eq_true, Bool.true_and]
        have := eI.eq j k
        rw [show PyData.eqv (.int j) (.int k) = decide (j = k) from this]
        simp
def opNm : Op → D
  | .add _ => .str "add"
  | .rem _ => .str "remove"
/-- a list of the store against [] -/
theorem oEq_han {α : Type} [DecidableEq α] (E : Enc α) (hn : E.n ≤ 50) {S : Sto} {i : Nat} {l : List α} (h : S[i]? = some (.lst (l.map E.e))) {Q : QD} (q : Q (.bl (decide (l = []))) S) : oEq (.han i) (.lst []) S Q := by
  have h1 : pyOf S (.han i) = some ((eL E).p l) := by
    unfold pyOf
    simp only [h]
    have := (eL E).hp l
    exact this
  refine ⟨_, (eL E).p [], h1, (eL E).hp [], (eL E).shp (by show E.n + 1 ≤ 60; omega) _, (eL E).shp (by show E.n + 1 ≤ 60; omega) _, ?_⟩
  rw [(eL E).eq l []]
  exact q
/-- an operation is undone -/
def undoV (s : SV) (cur' : List (List Int)) (er' : List D) (ops' : List Op) (o : Op) : SV := ⟨s.n, cur', er', ops'.map eOp.e, s.un ++ [.tup [eOp.e o, .tup (s.cur.map VE)]], s.e, s.d, s.u⟩
def c_Session_undo : Ct := fun ds S Q X => ∃ (i : Nat) (s : SV), ds = [.han i] ∧ Ses S i s ∧ s.un.length ≤ 1000 ∧ ((s.dn = [] ∧ X "NothingToUndo" S) ∨
  ∃ (o : Op) (ops' : List Op) (cur' : List (List Int)) (er' : List D), s.dn = (ops' ++ [o]).map eOp.e ∧ s.er = er' ++ [.tup (cur'.map VE)] ∧ ∀ S', Ses S' i (undoV s cur' er' ops' o) → Frm [i, s.e, s.d, s.u] S S' → Q (opNm o) S')
/-- Session_undo -/
def N_Session_undo : List Str := ["self", "operation"]
def b_Session_undo : DB := (DB.cons (DS.iff (DT.cmp .Eq (DE.fld "Session" (DE.var 0) "done") (DE.lst (DL.dis DA.nil))) (DB.cons (DS.raise "NothingToUndo")
  DB.nil) DB.nil)
  (DB.cons (DS.set 1 (DE.pop (DE.fld "Session" (DE.var 0) "done")))
  (DB.cons (DS.expr (DE.append (DE.fld "Session" (DE.var 0) "undone") (DE.tup (DA.cons (DE.var 1) (DA.cons (DE.fld "Session" (DE.var 0) "current") DA.nil)))))
  (DB.cons (DS.fld "Session" (DE.var 0) "current" (DE.pop (DE.fld "Session" (DE.var 0) "earlier")))
  (DB.cons (DS.ret (DE.ix (DE.var 1) (DE.con (.int 0))))
  DB.nil)))))
theorem opNm_at (o : Op) (S : Sto) (Q : QD) (q : Q (opNm o) S) : oIx (eOp.e o) (.int 0) S Q := by
  cases o with
  | add v =>
    change oIx (.tup [.str "add", VE v]) _ _ _
    walk_at "wpc"
    exact q
  | rem k =>
    change oIx (.tup [.str "remove", .int k]) _ _ _
    walk_at "wpc"
    exact q
theorem w_Session_undo {ds : List D} {S : Sto} {Q : QD} {X : XD} (h : c_Session_undo ds S Q X) : ctOf N_Session_undo.length b_Session_undo ds S Q X := by
  obtain ⟨i, s, rfl, hs, hu, h⟩ := h
  have a1 := hs.ins; have a2 := hs.her; have a3 := hs.hdn; have a4 := hs.hun
  have n1 : i ≠ s.e := fun e => by rw [e, a2] at a1; cases a1
  have n2 : i ≠ s.d := fun e => by rw [e, a3] at a1; cases a1
  have n4 : i ≠ s.u := fun e => by rw [e, a4] at a1; cases a1
  have l1 : i < S.length := (List.getElem?_eq_some_iff.mp a1).1
  have l2 : s.e < S.length := (List.getElem?_eq_some_iff.mp a2).1
  have l3 : s.d < S.length := (List.getElem?_eq_some_iff.mp a3).1
  have l4 : s.u < S.length := (List.getElem?_eq_some_iff.mp a4).1
  have n3 := hs.ed
  have n5 := hs.eu
  have n6 := hs.du
  unfold b_Session_undo N_Session_undo
  walk_at "wpc"
  refine ⟨_, a1, _, sg3 _ _ _ _ _, ?_⟩
  rcases h with ⟨h1, hx⟩ | ⟨o, ops', cur', er', h1, h2, h⟩
  · rw [h1] at a3
    refine oEq_han eOp (by decide) (l := []) a3 ⟨_, rfl, ?_⟩
    simp only [decide_true, if_true]
    exact hx
  rw [h1] at a3
  rw [h2] at a2
  refine oEq_han eOp (by decide) (l := ops' ++ [o]) a3 ⟨_, rfl, ?_⟩
  rw [if_neg (by simp)]
  refine ⟨_, a1, _, sg3 _ _ _ _ _, by simp [recD, a3], ?_⟩
  refine ⟨(ops' ++ [o]).map eOp.e, eOp.e o, a3, by simp, ?_⟩
  have e1 : ((ops' ++ [o]).map eOp.e).dropLast = ops'.map eOp.e := by rw [List.map_append]; simp
  rw [e1]
  generalize hT : S.set s.d (.lst (ops'.map eOp.e)) = T
  have t0 : T.length = S.length := by rw [← hT]; simp
  have t1 : T[i]? = some (.ins "Session" (sesF (.int s.n) (.tup (s.cur.map VE)) (.han s.e) (.han s.d) (.han s.u))) := by rw [← hT, List.getElem?_set_ne (Ne.symm n2)]; exact a1
  have t2 : T[s.u]? = some (.lst s.un) := by rw [← hT, List.getElem?_set_ne n6]; exact a4
  refine ⟨_, t1, _, sg4 _ _ _ _ _, by simp [recD, t2], _, t1, _, sg1 _ _ _ _ _, ?_⟩
  refine ⟨s.un, t2, szLt (by omega), ?_⟩
  generalize hU : T.set s.u (.lst (s.un ++ [.tup [eOp.e o, .tup (s.cur.map VE)]])) = U
  have u0 : U.length = S.length := by rw [← hU]; simp [t0]
  have u1 : U[i]? = some (.ins "Session" (sesF (.int s.n) (.tup (s.cur.map VE)) (.han s.e) (.han s.d) (.han s.u))) := by rw [← hU, List.getElem?_set_ne (Ne.symm n4)]; exact t1
  have u2 : U[s.e]? = some (.lst (er' ++ [.tup (cur'.map VE)])) := by rw [← hU, List.getElem?_set_ne (Ne.symm n5), ← hT, List.getElem?_set_ne (Ne.symm n3)]; exact a2
  have u3 : U[s.d]? = some (.lst (ops'.map eOp.e)) := by rw [← hU, List.getElem?_set_ne (Ne.symm n6), ← hT, List.getElem?_set_self l3]
  have u4 : U[s.u]? = some (.lst (s.un ++ [.tup [eOp.e o, .tup (s.cur.map VE)]])) := by rw [← hU, List.getElem?_set_self (by omega)]
  have u5 : ∀ j, j ≠ s.d → j ≠ s.u → U[j]? = S[j]? := fun j h1 h2 => by rw [← hU, List.getElem?_set_ne (Ne.symm h2), ← hT, List.getElem?_set_ne (Ne.symm h1)]
  refine ⟨_, u1, _, sg2 _ _ _ _ _, by simp [recD, u2], ?_⟩
  refine ⟨_, .tup (cur'.map VE), u2, by simp, ?_⟩
  rw [List.dropLast_concat]
  have v1 : (U.set s.e (.lst er'))[i]? = some (.ins "Session" (sesF (.int s.n) (.tup (s.cur.map VE)) (.han s.e) (.han s.d) (.han s.u))) := by rw [List.getElem?_set_ne (Ne.symm n1)]; exact u1
  refine ⟨_, v1, by rw [sl0]; omega, ?_⟩
  refine opNm_at o _ _ (h _ ⟨?_, ?_, ?_, ?_, n3, n5, n6⟩ ⟨by simp [u0], fun j hj nj => ?_⟩)
  · rw [sp1, List.getElem?_set_self (by simp [u0]; exact l1)]
    rfl
  · show (_ : Sto)[s.e]? = _
    rw [List.getElem?_set_ne n1, List.getElem?_set_self (by omega)]; rfl
  · show (_ : Sto)[s.d]? = _
    rw [List.getElem?_set_ne n2, List.getElem?_set_ne n3]; exact u3
  · show (_ : Sto)[s.u]? = _
    rw [List.getElem?_set_ne n4, List.getElem?_set_ne n5]; exact u4
  · simp only [List.mem_cons, List.not_mem_nil, or_false, not_or] at nj
    rw [List.getElem?_set_ne (Ne.symm nj.1), List.getElem?_set_ne (Ne.symm nj.2.1)]
    exact u5 j nj.2.2.1 nj.2.2.2
/-! ### relations -/
/-! #### FT -/
open SX (S)
/-! ### texts of numbers, vectors, bases -/
def numT (i : Int) : List Nat := if i < 0 then 45 :: TL.numL i.natAbs else TL.numL i.natAbs
theorem str_S (i : Int) : (Str.ofString (toString i)) = S (numT i) := by
  unfold numT
  by_cases h : i < 0
  · rw [if_pos h]
    obtain ⟨n, rfl⟩ : ∃ n : Nat, i = Int.negSucc n := ⟨i.natAbs - 1, by omega⟩
    have e : toString (Int.negSucc n) = "-" ++ toString (n + 1) := rfl
    have e2 := SX.num_S (n + 1)
    have e3 : toString (((n + 1 : Nat) : Int)) = toString (n + 1) := rfl
    rw [e3, Str.ofString_eq_toList] at e2
    have e5 := SX.S_inj e2
    rw [e, Str.ofString_eq_toList, String.toList_append, List.map_append, e5]
    rfl
  · rw [if_neg h]
    obtain ⟨n, rfl⟩ := Int.eq_ofNat_of_zero_le (by omega : 0 ≤ i)
    exact SX.num_S n
def vT (v : List Int) : List Nat := TL.joinL [32] (v.map numT)
def bT (R : List (List Int)) : List Nat := TL.joinL [32, 124, 32] (R.map vT)
def isDig (c : Nat) : Bool := decide (48 ≤ c) && decide (c ≤ 57)
theorem numT_mem {i : Int} {c : Nat} (h : c ∈ numT i) : c = 45 ∨ (48 ≤ c ∧ c ≤ 57) := by
  unfold numT at h
  split at h
  · rcases List.mem_cons.mp h with q | q
    · exact .inl q
    · exact .inr (TL.numL_digits _ c q)
  · exact .inr (TL.numL_digits _ c h)
theorem numT_len {i : Int} (h : i.natAbs ≤ 1000000) : (numT i).length ≤ 8 := by
  have := TL.numL_len (n := i.natAbs) (k := 7) (by omega) (by omega)
  unfold numT
  split
  · simp; omega
  · omega
/-- the number of a word -/
def digs (w : List Nat) : List Nat := if w.take 1 = [45] then w.drop 1 else w
def rdW (w : List Nat) : Option Int :=
  if digs w = [] ∨ 7 < (digs w).length ∨ (digs w).all isDig = false then none
  else some (if w.take 1 = [45] then -((NumText.digitsVal (digs w) : Nat) : Int) else (NumText.digitsVal (digs w) : Nat))
theorem allDig {l : List Nat} : l.all isDig = true ↔ NumText.AllDigits l := by
  simp only [List.all_eq_true, isDig, Bool.and_eq_true, decide_eq_true_eq]
  exact Iff.rfl
theorem rdW_num {i : Int} (h : i.natAbs ≤ 1000000) : rdW (numT i) = some i := by
  have l := TL.numL_len (n := i.natAbs) (k := 7) (by omega) (by omega)
  have d : (TL.numL i.natAbs).all isDig = true := allDig.mpr (TL.numL_digits _)
  have ne := TL.numL_ne i.natAbs
  have nt : ¬ (TL.numL i.natAbs).take 1 = [45] := fun e => by
    have : 45 ∈ TL.numL i.natAbs := by
      have : 45 ∈ (TL.numL i.natAbs).take 1 := by rw [e]; simp
      exact List.mem_of_mem_take this
    exact TL.numL_free (by omega) this
  by_cases s : i < 0
  · have e : numT i = 45 :: TL.numL i.natAbs := by unfold numT; rw [if_pos s]
    have e1 : (numT i).take 1 = [45] := by rw [e]; rfl
    have e2 : digs (numT i) = TL.numL i.natAbs := by unfold digs; rw [if_pos e1, e]; rfl
    unfold rdW
    rw [e2, if_neg (by
      rintro (q | q | q)
      · exact ne q
      · omega
      · rw [d] at q; cases q), if_pos e1, TL.numL_val]
    congr 1
    omega
  · have e : numT i = TL.numL i.natAbs := by unfold numT; rw [if_neg s]
    have e1 : ¬ (numT i).take 1 = [45] := by rw [e]; exact nt
    have e2 : digs (numT i) = TL.numL i.natAbs := by unfold digs; rw [if_neg e1, e]
    unfold rdW
    rw [e2, if_neg (by
      rintro (q | q | q)
      · exact ne q
      · omega
      · rw [d] at q; cases q), if_neg e1, TL.numL_val]
    congr 1
    omega
theorem int_of {w : List Nat} {i : Int} (h : rdW w = some i) : intText? (S w) = some i ∧ w.length ≤ 8 := by
  unfold rdW at h
  split at h
  · cases h
  · rename_i hc
    simp only [not_or, Bool.not_eq_false] at hc
    obtain ⟨h1, h2, h3⟩ := hc
    have ad := allDig.mp h3
    cases h
    by_cases e : w.take 1 = [45]
    · have ew : w = 45 :: digs w := by
        unfold digs
        rw [if_pos e]
        conv => lhs; rw [← List.take_append_drop 1 w, e]
        rfl
      rw [if_pos e]
      have l : w.length ≤ 8 := by rw [ew]; simp; omega
      exact ⟨intText_neg (x := S w) (cs := digs w) ew ad h1 (by rw [SX.S_len]; omega), l⟩
    · have ew : digs w = w := by unfold digs; rw [if_neg e]
      rw [if_neg e]
      rw [ew] at ad h1 h2 ⊢
      exact ⟨intText_digits (x := S w) ad h1 (by rw [SX.S_len]; omega), by omega⟩
/-- the parts of a text -/
def partsT (t : List Nat) : List (List (List Nat)) := (TL.spl [32, 124, 32] 0 [] t).map fun p => TL.spl [32] 0 [] p
def okT' (t : List Nat) : Bool := (partsT t).all fun p => p.all fun w => (rdW w).isSome
def rowsT (t : List Nat) : List (List Int) := (partsT t).map fun p => p.map fun w => (rdW w).getD 0
def rd (t : List Nat) : Option (List (List Int)) := if okT' t = true ∧ Bas (rowsT t) ∧ bT (rowsT t) = t then some (rowsT t) else none
/-! #### FU -/
open SX (S)
theorem sp_S : (" " : Str) = S [32] := by decide +kernel
theorem join_len {sep : List Nat} {k : Nat} : ∀ {ps : List (List Nat)}, (∀ p ∈ ps, p.length ≤ k) → (TL.joinL sep ps).length ≤ ps.length * (k + sep.length)
  | [], _ => by simp [TL.joinL]
  | [p], h => by
    have := h p (by simp)
    show p.length ≤ _
    simp
    omega
  | p :: q :: r, h => by
    have h1 := h p (by simp)
    have h2 := join_len (sep := sep) (ps := q :: r) fun x hx => h x (List.mem_cons_of_mem _ hx)
    show (p ++ (sep ++ TL.joinL sep (q :: r))).length ≤ _
    rw [List.length_append, List.length_append]
    have e : (p :: q :: r).length * (k + sep.length) = (q :: r).length * (k + sep.length) + (k + sep.length) := by rw [List.length_cons, Nat.add_mul, Nat.one_mul]
    omega
theorem sum_le {k : Nat} : ∀ {l : List Nat}, (∀ x ∈ l, x ≤ k) → l.sum ≤ l.length * k
  | [], _ => by simp
  | a :: l, h => by
    have h1 := h a (by simp)
    have h2 := sum_le (l := l) fun x hx => h x (List.mem_cons_of_mem _ hx)
    rw [List.sum_cons, List.length_cons, Nat.add_mul]
    omega
def LimV (v : List Int) : Prop := v.length ≤ 3 ∧ ∀ x ∈ v, x.natAbs ≤ 1000000
theorem vT_len {v : List Int} (h : LimV v) : (vT v).length ≤ 27 := by
  have := join_len (sep := [32]) (k := 8) (ps := v.map numT) (fun p hp => by
    obtain ⟨i, hi, rfl⟩ := List.mem_map.mp hp
    exact numT_len (h.2 i hi))
  have h1 := h.1
  simp at this
  unfold vT
  omega
theorem oStr_i (i : Int) (S' : Sto) (Q : QD) (h : i.natAbs ≤ 1000000) (q : Q (.str (S (numT i))) S') : oStr [.int i] S' Q := by
  refine ⟨?_, by rw [str_S]; exact q⟩
  by_cases z : i.natAbs = 0
  · rw [z]; decide
  · exact (Nat.log2_lt z).mpr (Nat.lt_of_le_of_lt h (Nat.lt_of_lt_of_le (by decide : 1000000 < 2 ^ 20) (Nat.pow_le_pow_right (by omega) (by omega))))
theorem join_call {sep : List Nat} {ps : List (List Nat)} {k : Nat} {S' : Sto} {Q : QD} (hk : ∀ p ∈ ps, p.length ≤ k) (hz : ps.length * (k + sep.length) ≤ 16777216) (q : Q (.str (S (TL.joinL sep ps))) S') : oJoin (.str (S sep)) [.lst (ps.map fun p => .str (S p))] S' Q := by
  refine ⟨ps.map S, by simp only [List.map_map]; rfl, ?_, by rw [SX.join_S]; exact q⟩
  rw [SX.lens, SX.S_len, List.length_map]
  have := sum_le (k := k) (l := ps.map (·.length)) (fun x hx => by
    obtain ⟨p, hp, rfl⟩ := List.mem_map.mp hx
    exact hk p hp)
  rw [List.length_map] at this
  have e : ps.length * (k + sep.length) = ps.length * k + ps.length * sep.length := Nat.mul_add _ _ _
  omega
def c_vector_text : Ct := fun ds S' Q _ => ∃ v, ds = [VE v] ∧ LimV v ∧ Q (.str (S (vT v))) S'
/-- vector_text -/
def N_vector_text : List Str := ["vector", "entry"]
def b_vector_text : DB := (DB.cons (DS.ret (DE.join (DE.con (.str " ")) (DE.lst (DL.comp [("entry", 1)] (DG.nm 1) (DI.seq (DE.var 0)) DF.no (DE.str (DA.cons (DE.var 1) DA.nil))))))
  DB.nil)
theorem w_vector_text {ds : List D} {S' : Sto} {Q : QD} {X : XD} (h : c_vector_text ds S' Q X) : ctOf N_vector_text.length b_vector_text ds S' Q X := by
  obtain ⟨v, rfl, hv, h⟩ := h
  have h3 := hv.1
  unfold b_vector_text N_vector_text
  rw [VE_eq]
  walk_at "wpf"
  refine ⟨rfl, by rw [List.length_map]; exact szLe (by omega), compGo_all0 D.int (fun x => .str (S (numT x))) v (fun x hx => ⟨_, rfl, fun Qd hq => ?_⟩) ?_⟩
  · walk_at "wpf"
    exact oStr_i x _ _ (hv.2 x hx) hq
  · walk_at "wpf"
    rw [sp_S, show v.map (fun x => D.str (S (numT x))) = (v.map numT).map (fun p => D.str (S p)) by simp]
    exact join_call (k := 8) (fun p hp => by
      obtain ⟨i, hi, rfl⟩ := List.mem_map.mp hp
      exact numT_len (hv.2 i hi)) (by simp; omega) h
def LimM (R : List (List Int)) : Prop := R.length ≤ 3 ∧ ∀ v ∈ R, LimV v
theorem Bas.lim {R : List (List Int)} (h : Bas R) : LimM R := ⟨h.2.1, fun v hv => ⟨by rw [(h.2.2.1 v hv).1]; exact h.2.1, (h.2.2.1 v hv).2⟩⟩
/-! ### reading -/
theorem cut_S1 (w : List Nat) : cutS (S w) none (some 1) = S (w.take 1) := by rw [C8.cutS_slice]; exact SX.slice_to (by omega)
theorem cut_S2 (w : List Nat) : cutS (S w) (some 1) none = S (w.drop 1) := by rw [C8.cutS_slice]; exact SX.slice_from (by omega)
/-! ### parsing -/
theorem split_call {t sep : List Nat} {S' : Sto} {Q : QD} (hs : sep ≠ []) (hk : sep.all (· < 256) = true) (ht : t.length ≤ 1000) (q : Q (.lst ((TL.spl sep 0 [] t).map fun p => .str (S p))) S') : oSplit (.str (S t)) [.str (S sep)] S' Q := by
  refine ⟨?_, szLe (by rw [SX.S_len]; omega), ?_⟩
  · rw [SX.S_len]
    match sep, hs with
    | a :: b, _ => simp
  · rw [SX.split_S hs hk, List.map_map]
    exact q
/-! #### DL32 -/
/-! The D layer, part 32: f-strings, x += .., isinstance of the own class. -/
/-! ### f-strings -/
def oFmt : D → Sto → QD → Prop
  | .int i, S, Q => i.natAbs.log2 < 1920 ∧ Q (.str (toString i)) S
  | .str y, S, Q => y.length ≤ sizeLine ∧ Q (.str y) S
  | _, _, _ => False
def DE.fmt (a : DE) : DE where
  mt c e := match e with
    | .FormattedValue x (-1) none _ => a.mt c x
    | _ => false
  wp := w1 oFmt a.wp
  rq := a.rq
  ok X W T e h g q := by
    split at h
    · refine PE.imp (pe_fmt (a.ok X W T _ h g q)) fun σ H Q ⟨env, S, F, ads, Qd, Xd, er, sm, hw, kv, kx⟩ => ?_
      refine ⟨env, S, F, ads, _, Xd, er, sm, hw, fun F1 ads1 S1 H1 d v x1 s1 r1 h1 => ?_, kx⟩
      have h1 : oFmt d S1 Qd := h1
      unfold oFmt at h1
      split at h1
      · cases r1
        exact .inr ⟨_, rfl, h1.1, kv _ _ _ _ _ _ x1 s1 (.str _) h1.2⟩
      · cases r1
        exact .inl ⟨_, rfl, h1.1, kv _ _ _ _ _ _ x1 s1 (.str _) h1.2⟩
      · exact h1.elim
    · cases h
abbrev WJ := Str → Env → Sto → (Str → Sto → Prop) → XD → Prop
def tJ (K : Fg) (mg : Str → Option Value) (W : WX) (w : WJ) (acc : Str) (σ : L2.St) (H : Hp) (Q : Str → Hp → Prop) : Prop := ∃ env S F ads Qd Xd, EnvR K F ads env σ ∧ Sim K F ads S H ∧ w acc env S Qd Xd ∧ (∀ F' ads' S' H' y, Ext F ads H F' ads' H' → Sim K F' ads' S' H' → Qd y S' → Q y H') ∧ KX K mg W F ads H σ Xd
structure DJ where
  mt : Sc → List Expr → Bool
  wp : WJ
  rq : Cy → Prop
  ok : ∀ (X : Cx) (W : WX) (T : List (Addr × Str)) (es : List Expr), mt (scOf X) es = true → Good X W → rq (cyOf X T) → ∃ ts, PJ X es ts ∧ ∀ acc σ H Q, tJ (kt X T) X.mg W wp acc σ H Q → tJs ts acc σ H Q
def wJn : WJ := fun acc _ S Q _ => Q acc S
def wJc (a : WE) (r : WJ) : WJ := fun acc env S Q X => a env S (fun d S1 => ∃ y, d = .str y ∧ (acc ++ y).length ≤ sizeLine ∧ r (acc ++ y) env S1 Q X) X
def DJ.nil : DJ where
  mt c es := es.isEmpty
  wp := wJn
  rq _ := True
  ok X W T es h g q := by
    cases es with
    | nil =>
      refine ⟨[], .nil, fun acc σ H Q ⟨env, S, F, ads, Qd, Xd, er, sm, hw, kv, kx⟩ => ?_⟩
      exact kv _ _ _ _ _ Ext.refl sm hw
    | cons e es => cases h
def DJ.cons (a : DE) (r : DJ) : DJ where
  mt c es := match es with
    | e :: es => a.mt c e && r.mt c es
    | _ => false
  wp := wJc a.wp r.wp
  rq Z := a.rq Z ∧ r.rq Z
  ok X W T es h g q := by
    split at h
    · simp only [Bool.and_eq_true] at h
      obtain ⟨ts, pj, hj⟩ := r.ok X W T _ h.2 g q.2
      refine ⟨_, .cons (a.ok X W T _ h.1 g q.1) pj, fun acc σ H Q ⟨env, S, F, ads, Qd, Xd, er, sm, hw, kv, kx⟩ => ?_⟩
      refine ⟨env, S, F, ads, _, Xd, er, sm, hw, fun F1 ads1 S1 H1 d v x1 s1 r1 h1 => ?_, kx⟩
      obtain ⟨y, rfl, hy, h2⟩ := h1
      cases r1
      refine ⟨y, rfl, hy, hj _ _ _ _ ⟨env, S1, F1, ads1, Qd, Xd, er.ext x1, s1, h2, fun F2 ads2 S2 H2 z x2 s2 hz => kv _ _ _ _ _ (x1.trans x2) s2 hz, kx.ext x1⟩⟩
    · cases h
def wFs (r : WJ) : WE := fun env S Q X => r Str.empty env S (fun y S1 => Q (.str y) S1) X
def DE.fstr (r : DJ) : DE where
  mt c e := match e with
    | .JoinedStr (x :: y :: es) _ => r.mt c (x :: y :: es)
    | _ => false
  wp := wFs r.wp
  rq := r.rq
  ok X W T e h g q := by
    split at h
    · obtain ⟨ts, pj, hj⟩ := r.ok X W T _ h g q
      refine PE.imp (pe_joined pj) fun σ H Q ⟨env, S, F, ads, Qd, Xd, er, sm, hw, kv, kx⟩ => ?_
      exact hj _ _ _ _ ⟨env, S, F, ads, _, Xd, er, sm, hw, fun F1 ads1 S1 H1 y x1 s1 hy => kv _ _ _ _ _ _ x1 s1 (.str _) hy, kx⟩
    · cases h
/-! ### x += e -/
def wAug (i : Nat) (a : WE) : WS := fun E env S => ∃ j, env[i]? = some (some (.int j)) ∧ a env S (fun d S1 => ∃ k, d = .int k ∧ E.nx (env.set i (some (.int (j + k)))) S1) (fun x S1 => E.xq x env S1)
def DS.aug (i : Nat) (a : DE) : DS where
  mt c s := match s with
    | .AugAssign (.Name x _) .Add e _ => locB c i x && a.mt c e
    | _ => false
  wp := wAug i a.wp
  rq := a.rq
  ok X W T s h g f q := by
    split at h
    · simp only [Bool.and_eq_true] at h
      obtain ⟨h1, h2, h3⟩ := loc_of h.1
      refine PS.imp (ps_aug g.nd h1 h2 (a.ok X W T _ h.2 g q) ip_add h3) fun D σ H ⟨env, S, F, ads, E, er, sm, hw, k⟩ => ?_
      obtain ⟨j, ej, hw⟩ := hw
      obtain ⟨v, ev, rv⟩ := er.get i _ ej
      cases rv
      refine ⟨_, ev, env, S, F, ads, _, _, er, sm, hw, fun F1 ads1 S1 H1 d v x1 s1 r1 h1 => ?_, k.xq.kx er⟩
      obtain ⟨m, rfl, hq⟩ := h1
      cases r1
      exact ⟨_, _, rfl, rfl, k.nx _ _ _ _ _ _ x1 s1 ((er.ext x1).set (.int _)) hq⟩
    · cases h
/-! ### isinstance of the own class -/
def plTys : List String := ["int", "str", "tuple", "NoneType", "bool"]
/-- is it an instance of the class c? -/
def isCD (c : Str) (S : Sto) : D → Option Bool
  | .han i => match S[i]? with
    | some (.ins c' _) => if c' = c then some true else none
    | _ => none
  | .int _ => some false
  | .str _ => some false
  | .tup _ => some false
  | .non => some false
  | .bl _ => some false
  | _ => none
def IsCOk (Z : Cy) (c : Str) : Prop := ∃ C, PySem.W.nsIn Z.K mainGlobals c = some (some (.ref C)) ∧ Z.mg c = some (.ref C) ∧ C8.InsC Z.K C ∧ ∀ t ∈ plTys, PySem.W.kitOne Z.K (.type t) (.ref C) = some false
def wIsC (c : Str) (a : WE) : WE := fun env S Q X => a env S (fun d S1 => ∃ b, isCD c S1 d = some b ∧ Q (.bl b) S1) X
def DE.isC (c : Str) (a : DE) : DE where
  mt s e := match e with
    | .Call (.Name f _) [y, .Name z _] [] _ => f == "isinstance" && glB s "isinstance" && noStar y && a.mt s y && z == c && glB s c && !(c == ("__debug__" : Str))
    | _ => false
  wp := wIsC c a.wp
  rq Z := Z.mg "isinstance" = none ∧ IsCOk Z c ∧ a.rq Z
  ok X W T e h g q := by
    split at h
    · simp only [Bool.and_eq_true, beq_iff_eq, Bool.not_eq_true'] at h
      obtain ⟨⟨⟨⟨⟨⟨rfl, h1⟩, h2⟩, h3⟩, rfl⟩, h5⟩, h6⟩ := h
      obtain ⟨q1, ⟨C, hC, hm, ic, kf⟩, q3⟩ := q
      have hm : X.mg _ = some (.ref C) := hm
      have hC : PySem.W.nsIn X.K mainGlobals _ = some (some (.ref C)) := hC
      have ic : C8.InsC X.K C := ic
      have kf : ∀ t ∈ plTys, PySem.W.kitOne X.K (.type t) (.ref C) = some false := kf
      refine PE.imp (pe_callB call_isi (gl_of h1) q1 (by decide +kernel) (pa_cons (a.ok X W T _ h3 g q3) (pa_cons (C8.pe_gc (v := .ref C) (gl_of h5) ⟨_, hm, rfl⟩ h6) pa_nil) (starEach_cons h2)) (by decide) (by decide) (starEach_cons h2) rfl) fun σ H Q ⟨env, S, F, ads, Qd, Xd, er, sm, hw, kv, kx⟩ => ?_
      refine ⟨env, S, F, ads, _, Xd, er, sm, hw, fun F1 ads1 S1 H1 d v x1 s1 r1 hh => ?_, kx⟩
      obtain ⟨b, hb, hq⟩ := hh
      have go : ∀ (t : Value), TyX X.K H1 v t → PySem.W.kitOne X.K t (.ref C) = some b → rIsi X.K [v, .ref C] H1 Q := fun t ty e => ⟨v, .ref C, t, .ref C, b, rfl, .own C, ty, e, kv _ _ _ _ _ _ x1 s1 (.bl _) hq⟩
      have ty : ∀ t, tyD S1 d = some t → TyX X.K H1 v (.type t) := fun t ht => tyD_of s1 r1 ht
      unfold isCD at hb
      split at hb
      · split at hb
        · rename_i c' fs hS
          split at hb
          · rename_i ec
            subst ec
            cases hb
            cases r1 with
            | han ha =>
              obtain ⟨a', ha', nF, C', dx, gs, hH, hn', ek, rs⟩ := s1.at hS
              rw [ha] at ha'; cases ha'
              have : C' = C := by
                have := hn'.symm.trans hC
                simpa using this
              subst this
              exact go _ (.base (.ins hH ic.cl ic.ha ic.hn ic.htk ic.hm)) ic.me
          · cases hb
        · cases hb
      · cases hb; exact go _ (ty "int" rfl) (kf _ (by decide))
      · cases hb; exact go _ (ty "str" rfl) (kf _ (by decide))
      · cases hb; exact go _ (ty "tuple" rfl) (kf _ (by decide))
      · cases hb; exact go _ (ty "NoneType" rfl) (kf _ (by decide))
      · cases hb; exact go _ (ty "bool" rfl) (kf _ (by decide))
      · cases hb
    · cases h
theorem y32a (a : DE) : (DE.fmt a).wp = w1 oFmt a.wp := rfl
theorem y32b : DJ.nil.wp = wJn := rfl
theorem y32c (a : DE) (r : DJ) : (DJ.cons a r).wp = wJc a.wp r.wp := rfl
theorem y32d (r : DJ) : (DE.fstr r).wp = wFs r.wp := rfl
theorem y32e (i : Nat) (a : DE) : (DS.aug i a).wp = wAug i a.wp := rfl
theorem y32f (c : Str) (a : DE) : (DE.isC c a).wp = wIsC c a.wp := rfl
theorem r32a (a : DE) (Z : Cy) : (DE.fmt a).rq Z = a.rq Z := rfl
theorem r32b (Z : Cy) : DJ.nil.rq Z = True := rfl
theorem r32c (a : DE) (r : DJ) (Z : Cy) : (DJ.cons a r).rq Z = (a.rq Z ∧ r.rq Z) := rfl
theorem r32d (r : DJ) (Z : Cy) : (DE.fstr r).rq Z = r.rq Z := rfl
theorem r32e (i : Nat) (a : DE) (Z : Cy) : (DS.aug i a).rq Z = a.rq Z := rfl
theorem r32f (c : Str) (a : DE) (Z : Cy) : (DE.isC c a).rq Z = (Z.mg "isinstance" = none ∧ IsCOk Z c ∧ a.rq Z) := rfl
/-! #### DL33 -/
/-! The D layer, part 33: == and != by an own __eq__. -/
section
open PySem.W
variable {M : Model} {prog : Program} {w : World} {A : Around} {E : Value → Shared → Prop} {s : Shared} {K : PySem.W.Frag} {x C f : Addr} {ox : Obj} {od : Option Obj}
/-- __ne__ is looked up: object's own -/
theorem bound_ne {args : List Value} {Q : Option Value → Shared → Prop} (kin : K.In s.heap) (ia : PySem.W.InstAt s.heap x ox C od) (hne : PySem.W.findIn K (.ref C) "__ne__" = some (some (.builtin "object.__ne__")))
    (q : wpAny M A (call (.builtin "object.__ne__") (.ref x :: args)) (fun v => Q (some v)) E s) : wpAny M A (callSpecialIfBound? (.ref x) "__ne__" args) Q E s := by
  simp only [callSpecialIfBound?, bindSpecialIfBound?]
  refine wpAny_holding (wpAny_bind (wpAny_bind (wpAny_bind (ia.type.here ((PySem.W.looks_findIn kin hne).here ?_)))))
  refine wpAny_bind (wpAny_askSetting (wpAny_ite ?_))
  have last : wpAny M A (call (.builtin "object.__ne__") ([.ref x] ++ args) >>= fun v => pure (some v)) Q E s := wpAny_bind (wpAny_mono q (fun v s' z => wpAny_pure z) fun _ _ z => z)
  split
  · exact wpAny_bind (wpAny_of_eq (F.cmp_object.ne.bind _) (wpAny_pure (by exact last)))
  · exact wpAny_tryCatch (wpAny_bind (wpAny_of_eq (F.cmp_object.ne.bind _) (wpAny_pure (by exact last))))
/-- object.__ne__ turns __eq__'s answer -/
theorem entry_ne {y : Value} {Q : PySem.Fin → Shared → Prop} (hu : A.units < cLine) (kin : K.In s.heap) (ia : PySem.W.InstAt s.heap x ox C od) (heq : PySem.W.findIn K (.ref C) "__eq__" = some (some (.ref f))) (hf : PySem.W.isFn K (.ref f) = true)
    (q : wpAny M A (call (.ref f) [.ref x, y]) (fun v s' => ∃ b, v = .bool b ∧ Q (.done (.ret (.bool (!b)))) s') E s) :
    wpAny M A (Builtin.«object.__ne__» ⟨[.ref x, y], []⟩) Q E s := by
  unfold Builtin.«object.__ne__»
  repeat (first
    | with_reducible refine wpAny_cRoomFor hu ?_
    | (refine wpAny_bind (m := callSpecialIfBound? (.ref x) (Str.ofString "__eq__") [y]) (PySem.W.ifBound_K kin ia heq hf (wpAny_mono q (fun r s' hr => by
          obtain ⟨b, rfl, hq⟩ := hr
          repeat (first | exact hq | exact wpAny_pure hq | exact wpAny_truthy_bool hq | (refine wpAny_bind (m := truthy (.bool _)) (wpAny_truthy_bool ?_)) | wp_step)) fun _ _ z => z)))
    | wp_step)
theorem call_ne {y : Value} {Q : Value → Shared → Prop} (hu : A.units + 1 < cLine) (kin : K.In s.heap) (ia : PySem.W.InstAt s.heap x ox C od) (hm : PySem.W.mroIn K C (.type "object") = some true) (heq : PySem.W.findIn K (.ref C) "__eq__" = some (some (.ref f))) (hf : PySem.W.isFn K (.ref f) = true)
    (q : wpAny (model prog w) A.in1 (call (.ref f) [.ref x, y]) (fun v s' => ∃ b, v = .bool b ∧ Q (.bool (!b)) s') E s) :
    wpAny (model prog w) A (call (.builtin "object.__ne__") [.ref x, y]) Q E s := by
  refine wpAny_call (codeAny_call_builtin F.cmp_object.ne.plain F.cmpEntry_ne (PySem.W.check_slot F.cmpKind_ne F.cmpSplit_ne (ia.type.andThen (PySem.W.looks_mroIn kin hm)) (F.cmpArgs_ne _ _) (entry_ne (A := A.in1) hu kin ia heq hf (wpAny_mono q (fun v s' hv => ?_) fun _ _ z => z))))
  obtain ⟨b, rfl, hq⟩ := hv
  first | exact ⟨b, rfl, wpAny_pure hq⟩ | exact ⟨b, rfl, wpAny_pure (wpAny_pure hq)⟩ | exact ⟨b, rfl, hq⟩
/-- x != y -/
theorem rich_ne {y tb : Value} {Q : Value → Shared → Prop} (hu : A.units + 1 < cLine) (kin : K.In s.heap) (ia : PySem.W.InstAt s.heap x ox C od) (hm : PySem.W.mroIn K C (.type "object") = some true) (hb : Looks (model prog w) s.heap (typeOf y) tb) (hn : notFirst K C tb = true)
    (hne : PySem.W.findIn K (.ref C) "__ne__" = some (some (.builtin "object.__ne__"))) (heq : PySem.W.findIn K (.ref C) "__eq__" = some (some (.ref f))) (hf : PySem.W.isFn K (.ref f) = true)
    (q : wpAny (model prog w) A.in1 (call (.ref f) [.ref x, y]) (fun v s' => ∃ b, v = .bool b ∧ Q (.bool (!b)) s') E s) :
    wpAny (model prog w) A (richCompare .NotEq (.ref x) y) Q E s := by
  have one : wpAny (model prog w) A (tryCompare (.ref x) "__ne__" y) (fun r s' => ∃ b, r = some (.bool b) ∧ Q (.bool b) s') E s := by
    unfold tryCompare
    refine wpAny_bind (bound_ne kin ia hne (call_ne hu kin ia hm heq hf (wpAny_mono q (fun v s' hv => ?_) fun _ _ z => z)))
    obtain ⟨b, rfl, hq⟩ := hv
    exact ⟨b, rfl, wpAny_pure ⟨_, rfl, hq⟩⟩
  unfold richCompare
  simp only [oneThing_ref, cmpInfo_NotEq]
  refine wpAny_holding (wpAny_bind (wpAny_cRoomFor (by omega) ?_))
  refine wpAny_bind (ia.type.here (wpAny_bind (hb.here ?_)))
  split
  · rename_i z
    have e : subIn K tb (.ref C) = some false := by
      rcases Bool.or_eq_true_iff.mp hn with e | e
      · rw [beq_iff_eq.mp e] at z; simp at z
      · exact beq_iff_eq.mp e
    refine wpAny_bind ((looks_subIn kin e).here ?_)
    simp only [Bool.false_eq_true, if_false]
    refine wpAny_bind (wpAny_mono one (fun r s' z => ?_) fun _ _ z => z)
    obtain ⟨v, rfl, hq⟩ := z
    exact wpAny_pure hq
  · refine wpAny_bind (wpAny_pure ?_)
    simp only [Bool.false_eq_true, if_false]
    refine wpAny_bind (wpAny_mono one (fun r s' z => ?_) fun _ _ z => z)
    obtain ⟨v, rfl, hq⟩ := z
    exact wpAny_pure hq
end
/-- what the right side may be -/
def OthOk (K : PySem.W.Frag) (C : Addr) (H : Hp) (y : V) : Prop := (∃ b dx gs, y = .ref b ∧ H b = some (.ins C dx gs)) ∨ (∃ z, y = .str z) ∨ ∃ b xs, y = .ref b ∧ SqT K H b xs
theorem not_first {K : PySem.W.Frag} {C : Addr} {T : String} (e : ∃ l, fastBuiltinMro T = some l ∧ l.contains (Value.ref C) = false) : PySem.W.notFirst K C (.type T) = true := by
  obtain ⟨l, e1, e2⟩ := e
  have h : PySem.W.subIn K (.type T) (.ref C) = some false := by
    show (fastBuiltinMro T).map (·.contains (.ref C)) = some false
    rw [e1, Option.map_some, e2]
  unfold PySem.W.notFirst
  rw [h]
  simp
theorem oth_looks {X : Cx} {pins : List (Addr × Obj)} {σ : L2.St} {H : Hp} {s : Shared} {C : Addr} {y : V} {u : Value} (I : Inv X pins σ H s) (r : RelV y u) (h : OthOk X.K C H y) : ∃ tb, PySem.W.Looks (model X.prog X.w) s.heap (typeOf u) tb ∧ PySem.W.notFirst X.K C tb = true := by
  rcases h with ⟨b, dx, gs, rfl, hb⟩ | ⟨z, rfl⟩ | ⟨b, xs, rfl, hb⟩
  · cases r
    obtain ⟨mB, J, _⟩ := ins_get I.hok hb
    obtain ⟨od, J, _⟩ := J.look
    exact ⟨_, J.type, by simp [PySem.W.notFirst]⟩
  · obtain ⟨t, rfl⟩ := (show ∃ t, u = Value.str z t from r)
    exact ⟨.type "str", PySem.W.Looks.of_pure rfl, not_first ⟨[.type "str", .type "object"], by decide +kernel, rfl⟩⟩
  · cases r
    obtain ⟨its, rv, ⟨o, ho, hc, n, hd⟩, hz⟩ := I.tuple hb
    exact ⟨.type "tuple", fun A Q E s k q => wpAny_typeOf_ref (k _ _ ho) (by rw [hc]; exact q), not_first ⟨[.type "tuple", .type "object"], by decide +kernel, rfl⟩⟩
/-- what the class brings -/
structure EqC (K : PySem.W.Frag) (C f : Addr) : Prop where
  eq : PySem.W.findIn K (.ref C) "__eq__" = some (some (.ref f))
  fn : PySem.W.isFn K (.ref f) = true
  ne : PySem.W.findIn K (.ref C) "__ne__" = some (some (.builtin "object.__ne__"))
  mro : PySem.W.mroIn K C (.type "object") = some true
section
variable {X : Cx} {k : Nat} {f C : Addr} {fd : FuncData} {ps : List Str} {sp : Sp}
def rOwn (K : PySem.W.Frag) (C : Addr) (sp : Sp) (g : Bool → Bool) : R2 := fun x y H Q => ∃ a dx fs, x = .ref a ∧ H a = some (.ins C dx fs) ∧ OthOk K C H y ∧ sp [x, y] H (fun v H' => ∃ b, v = .bl b ∧ Q (.bl (g b)) H') (fun _ _ _ => False)
theorem own_call (F : FnOk X.prog X.w X.K X.mg X.base (L2.CX X.prog X.w) k f fd ps sp) (hb : L2.Binds X.K fd ps []) {A : Around} (hr : Room k A) (hf : A.frames = X.A.frames) {pins : List (Addr × Obj)} {σ : L2.St} {H : Hp} {s : Shared} {x y : V} {u v : Value} {g : Bool → Bool} {Q : VK} {R : Value → Shared → Prop}
    (I : Inv X pins σ H s) (rx : RelV x u) (ry : RelV y v) (hsp : sp [x, y] H (fun v H' => ∃ b, v = .bl b ∧ Q (.bl (g b)) H') (fun _ _ _ => False)) (hR : ∀ b s' H', Inv X pins σ H' s' → Q (.bl (g b)) H' → R (.bool b) s') :
    wpAny (model X.prog X.w) A (call (.ref f) [u, v]) R X.xe s := by
  have hl := F.len _ _ _ _ hsp
  have bd := hb s [u, v] I.kIn (by rw [List.append_nil]; exact hl)
  rw [List.append_nil] at bd
  have e0 : Env0 X.prog X.w X.K X.mg X.base A X.stack s H := by
    have e := I.env0
    exact ⟨by rw [hf]; exact e.frames, e.mod, e.bs, e.bsz, e.funs, e.frf, e.hok, e.bare⟩
  refine wpAny_call (codeAny_mono (F.run A X.stack s H _ _ _ _ (fun _ _ _ => False) hr e0 bd (.cons rx (.cons ry .nil)) hsp) fun fl s' z => ?_)
  match fl, z with
  | .error ev, z => exact (cx_no z).elim
  | .ok (.ret u), z =>
    obtain ⟨v, H', J3, rv, b, rfl, q3⟩ := I.after z
    cases rv
    exact hR b s' H' J3 q3
  | .ok .next, z => exact False.elim z
  | .ok .brk, z => exact False.elim z
  | .ok .cont, z => exact False.elim z
theorem op_eqO (F : FnOk X.prog X.w X.K X.mg X.base (L2.CX X.prog X.w) k f fd ps sp) (hr : Room (k + 1) X.A) (hb : L2.Binds X.K fd ps []) (e : EqC X.K C f) : OpR X (compareOp .Eq) (rOwn X.K C sp id) := by
  intro pins s σ H x y v u Q I rx ry h
  obtain ⟨a, dx, fs, rfl, ha, ho, hsp⟩ := h
  obtain ⟨mA, J, _⟩ := ins_get I.hok ha
  obtain ⟨od, J, _⟩ := J.look
  obtain ⟨m, hF⟩ := I.fr
  obtain ⟨tb, h1, h2⟩ := oth_looks I ry ho
  cases rx
  show wpAny (model X.prog X.w) X.A (richCompare .Eq _ u) (EP X pins σ Q) X.xe s
  refine PySem.W.cmp_K (op := .Eq) (tb := tb) (by have := hr.un; omega) hF I.ok.mod.kin J h1 h2 e.eq e.fn ?_
  exact own_call (x := .ref a) (g := id) F hb (hr.mono (Nat.le_succ _)) rfl I rfl ry hsp fun b s' H' J q => ⟨.bl b, H', J, rfl, q⟩
theorem op_neO (F : FnOk X.prog X.w X.K X.mg X.base (L2.CX X.prog X.w) k f fd ps sp) (hr : Room (k + 1) X.A) (hb : L2.Binds X.K fd ps []) (e : EqC X.K C f) : OpR X (compareOp .NotEq) (rOwn X.K C sp (!·)) := by
  intro pins s σ H x y v u Q I rx ry h
  obtain ⟨a, dx, fs, rfl, ha, ho, hsp⟩ := h
  obtain ⟨mA, J, _⟩ := ins_get I.hok ha
  obtain ⟨od, J, _⟩ := J.look
  obtain ⟨tb, h1, h2⟩ := oth_looks I ry ho
  cases rx
  show wpAny (model X.prog X.w) X.A (richCompare .NotEq _ u) (EP X pins σ Q) X.xe s
  refine rich_ne (by have := hr.un; omega) I.kIn J e.mro h1 h2 e.ne e.eq e.fn ?_
  exact own_call (x := .ref a) (g := (!·)) F hb hr.in1 rfl I rfl ry hsp fun b s' H' J q => ⟨b, rfl, .bl (!b), H', J, rfl, q⟩
end
/-! ### the words -/
def EqOk (Z : Cy) (c : Str) (Ct0 : Ct) : Prop := ∃ k C a fd ps, PySem.W.nsIn Z.K mainGlobals c = some (some (.ref C)) ∧ EqC Z.K C a ∧ FnOk Z.prog Z.w Z.K Z.mg Z.base (L2.CX Z.prog Z.w) k a fd ps (spOf ⟨Z.K, Z.T⟩ Z.mg 2 Ct0) ∧ L2.Binds Z.K fd ps [] ∧ Room (k + 1) Z.A
/-- the right side: an instance of c, a text or a tuple -/
def othD (c : Str) (S : Sto) : D → Bool
  | .han i => match S[i]? with
    | some (.ins c' _) => c' == c
    | _ => false
  | .str _ => true
  | .tup _ => true
  | _ => false
def oOwn (g : Bool → Bool) (c : Str) (C : Ct) : D → D → Sto → QD → Prop := fun x y S Q => (∃ i fs, x = .han i ∧ S[i]? = some (.ins c fs)) ∧ othD c S y = true ∧ C [x, y] S (fun v S2 => ∃ b, v = .bl b ∧ Q (.bl (g b)) S2) noX
theorem ok_own {Z : Cy} {c : Str} {Ct0 : Ct} {g : Bool → Bool} {C : Addr} (hC : PySem.W.nsIn Z.K mainGlobals c = some (some (.ref C))) : Ok2 ⟨Z.K, Z.T⟩ (oOwn g c Ct0) (rOwn Z.K C (spOf ⟨Z.K, Z.T⟩ Z.mg 2 Ct0) g) := by
  intro F ads S H x y v u Qd Q sm rx ry h kv
  obtain ⟨⟨i, fs, rfl, hS⟩, ho, hc⟩ := h
  have rx' := rx
  have ins : ∀ {j : Nat} {w : V} {gs0 : List (Str × D)}, Rp ⟨Z.K, Z.T⟩ F ads (.han j) w → S[j]? = some (.ins c gs0) → ∃ b dx gs, w = .ref b ∧ H b = some (.ins C dx gs) := by
    intro j w gs0 r hj
    cases r with
    | han ha =>
      obtain ⟨a', ha', nF, C', dx, gs, hH, hn', ek, rs⟩ := sm.at hj
      rw [ha] at ha'; cases ha'
      have : C' = C := by
        have := hn'.symm.trans hC
        simpa using this
      subst this
      exact ⟨_, dx, gs, rfl, hH⟩
  obtain ⟨a, dx, gs, rfl, hH⟩ := ins rx hS
  refine ⟨a, dx, gs, rfl, hH, ?_, [_, _], S, F, ads, _, noX, rfl, sm, .cons rx' (.cons ry .nil), hc, fun F2 ads2 S2 H2 d v x2 s2 r2 h2 => ?_, fun _ _ _ _ _ _ _ h => h⟩
  · unfold othD at ho
    split at ho
    · split at ho
      · rename_i c' fs' hj
        have ec : c' = c := beq_iff_eq.mp ho
        subst ec
        exact .inl (ins ry hj)
      · cases ho
    · cases ry; exact .inr (.inl ⟨_, rfl⟩)
    · cases ry with
      | tup ht rs => exact .inr (.inr ⟨_, _, rfl, sm.sub.tup ht⟩)
    · cases ho
  · obtain ⟨b, rfl, h2⟩ := h2
    cases r2
    exact ⟨b, rfl, kv _ _ _ _ _ _ x2 s2 (.bl _) h2⟩
def gNe (ne : Bool) : Bool → Bool := if ne then (!·) else id
def DE.eqO (ne : Bool) (c : Str) (C : Ct) (a b : DE) : DE where
  mt k e := match e with
    | .Compare x [o] [y] _ => o == (if ne then .NotEq else .Eq) && a.mt k x && b.mt k y && noSet y
    | _ => false
  wp := w2 (oOwn (gNe ne) c C) a.wp b.wp
  rq Z := EqOk Z c C ∧ a.rq Z ∧ b.rq Z
  ok X W T e h g q := by
    obtain ⟨⟨k, Ca, ad, fd, ps, hC, hc, F, hb, hr⟩, q1, q2⟩ := q
    split at h
    · simp only [Bool.and_eq_true, beq_iff_eq] at h
      obtain ⟨⟨⟨rfl, h1⟩, h2⟩, h3⟩ := h
      cases ne with
      | false => exact PE.imp (pe_cmpR (op_eqO F hr hb hc) (a.ok X W T _ h1 g q1) (b.ok X W T _ h2 g q2) (noSet_marks h3)) fun σ H Q z => seq2 (ok_own (Z := cyOf X T) hC) z
      | true => exact PE.imp (pe_cmpR (op_neO F hr hb hc) (a.ok X W T _ h1 g q1) (b.ok X W T _ h2 g q2) (noSet_marks h3)) fun σ H Q z => seq2 (ok_own (Z := cyOf X T) hC) z
    · cases h
def DT.eqO (ne : Bool) (c : Str) (C : Ct) (a b : DE) : DT where
  mt k e := match e with
    | .Compare x [o] [y] _ => o == (if ne then .NotEq else .Eq) && a.mt k x && b.mt k y && noSet y
    | _ => false
  wp := wB (w2 (oOwn (gNe ne) c C) a.wp b.wp)
  rq Z := EqOk Z c C ∧ a.rq Z ∧ b.rq Z
  ok X W T e h g q := by
    obtain ⟨⟨k, Ca, ad, fd, ps, hC, hc, F, hb, hr⟩, q1, q2⟩ := q
    split at h
    · simp only [Bool.and_eq_true, beq_iff_eq] at h
      obtain ⟨⟨⟨rfl, h1⟩, h2⟩, h3⟩ := h
      cases ne with
      | false => exact PT.imp (pt_cmpR (op_eqO F hr hb hc) (a.ok X W T _ h1 g q1) (b.ok X W T _ h2 g q2) (noSet_marks h3)) fun σ H Q z => seq2 (ok_own (Z := cyOf X T) hC) (tB_of z)
      | true => exact PT.imp (pt_cmpR (op_neO F hr hb hc) (a.ok X W T _ h1 g q1) (b.ok X W T _ h2 g q2) (noSet_marks h3)) fun σ H Q z => seq2 (ok_own (Z := cyOf X T) hC) (tB_of z)
    · cases h
theorem y33a (ne : Bool) (c : Str) (C : Ct) (a b : DE) : (DE.eqO ne c C a b).wp = w2 (oOwn (gNe ne) c C) a.wp b.wp := rfl
theorem y33b (ne : Bool) (c : Str) (C : Ct) (a b : DE) : (DT.eqO ne c C a b).wp = wB (w2 (oOwn (gNe ne) c C) a.wp b.wp) := rfl
theorem r33a (ne : Bool) (c : Str) (C : Ct) (a b : DE) (Z : Cy) : (DE.eqO ne c C a b).rq Z = (EqOk Z c C ∧ a.rq Z ∧ b.rq Z) := rfl
theorem r33b (ne : Bool) (c : Str) (C : Ct) (a b : DE) (Z : Cy) : (DT.eqO ne c C a b).rq Z = (EqOk Z c C ∧ a.rq Z ∧ b.rq Z) := rfl
/-! #### DL34 -/
/-! The D layer, part 34: x, *ys = a list. -/
section
open PySem.W PySem.Calls
variable {prog : Program} {w : World} {A : Around} {E : Value → Shared → Prop} {s : Shared}
/-- the items of a list: the first, and a new list of the others; all that was there stands -/
theorem unp_star {l : Addr} {x : Value} {xs : List Value} {Q : List Value → Shared → Prop} (hl : s.heap.IsList l (x :: xs).toArray) (hh : A.handled = none) (hz : xs.length + 1 ≤ 16384)
    (q : ∀ (g : Heap) (tk : Nat), (∀ b o, s.heap.get? b = some o → g.get? b = some o) → Q [x, .ref g.objs.size] { s with heap := g.push (seqObj "list" xs.toArray 0), toks := tk }) : wpAny (model prog w) A (unpackItems (.ref l) 2 (some 1)) Q E s := by
  obtain ⟨o0, ho0, hr0⟩ := id hl
  have lne : l ≠ s.heap.objs.size := Nat.ne_of_lt (Heap.lt_size ho0)
  have llt : l < s.heap.objs.size := Heap.lt_size ho0
  have sz : (x :: xs).toArray.size = xs.length + 1 := by simp
  unfold unpackItems
  refine wpAny_bind ?_
  unfold notIterableAtAll
  refine wpAny_bind (wpAny_specialOf (hl.typeIs) (slot_list_iter.lookup) ?_)
  refine wpAny_pure ?_
  simp only [Bool.false_eq_true, if_false]
  refine wpAny_bind (wpAny_holding (wpAny_pyIter_list hl ?_))
  refine wpAny_bind (wpAny_holding (kun_draw lne 1 0 _ _ ⟨_, Heap.get?_push_size _ rfl, rfl, rfl⟩ (hl.push _) (by rw [sz]; omega) fun g hit gs => ?_))
  have lg : g.IsList l (x :: xs).toArray := (hl.push _).extBut gs.extBut lne
  rw [Nat.zero_add] at hit
  obtain ⟨oi, hoi, _⟩ := id hit
  obtain ⟨ol, hol, _⟩ := id lg
  rw [List.drop_zero]
  rw [if_neg (show ¬ (((x :: xs).toArray.toList.take 1).length < 1) by simp)]
  refine wpAny_bind (wpAny_holding (kun_collect (s := { s with heap := g }) (T := "list_iterator") (.inr (.inr (.inl rfl))) (Walks.list (A := A.in1) hh s.heap.objs.size l lne (x :: xs).toArray) (fun j u st => (st.1).typeIs) (k := 1) (by rw [sz]; omega) ⟨hit, lg⟩ (Heap.lt_size hoi) (Heap.lt_size hol) (fun g2 tk hk => ?_) (by rw [sizeLine_eq, sz]; omega)))
  have e1 : (x :: xs).toArray.toList.drop 1 = xs := by simp
  have e2 : (x :: xs).toArray.toList.take 1 = [x] := by simp
  rw [e1, e2]
  show wpAny _ _ (if xs.length < 0 then _ else _) _ _ _
  rw [if_neg (by omega)]
  show wpAny _ _ (newList (xs.take (xs.length - 0)) >>= fun d => pure ([x] ++ [d] ++ xs.drop (xs.length - 0))) _ _ _
  rw [Nat.sub_zero, List.take_length, List.drop_length]
  have kp : ∀ b o, s.heap.get? b = some o → g2.get? b = some o := fun b o e => hk b o (Nat.ne_of_lt (Heap.lt_size e)) (gs.extBut b o (Nat.ne_of_lt (Heap.lt_size e)) (Heap.get?_push_of_some _ e))
  refine wpAny_bind (wpAny_newList (wpAny_pure ?_) (by rw [sizeLine_eq]; omega))
  exact q g2 tk kp
theorem asg_star {l : Addr} {e1 e2 : Expr} {env : PySem.Env} {p1 p2 : Pos} {k : Nat} {x : Value} {xs : List Value} {Q : Unit → Shared → Prop} (hl : s.heap.IsList l (x :: xs).toArray) (hh : A.handled = none) (hz : xs.length + 1 ≤ 16384)
    (hst : assignEach [e1, .Starred e2 p1] env = [(false, assign e1 env), (true, assign e2 env)])
    (q : ∀ (g : Heap) (tk : Nat), (∀ b o, s.heap.get? b = some o → g.get? b = some o) → wpAny (model prog w) A (assignInOrder [assign e1 env, assign e2 env] [x, .ref g.objs.size]) Q E { s with heap := g.push (seqObj "list" xs.toArray 0), toks := tk }) :
    wpAny (model prog w) A (assign (.Tuple [e1, .Starred e2 p1] k p2) env (.ref l)) Q E s := by
  rw [assign_Tuple]
  refine wpAny_bind (wpAny_standAt ?_)
  unfold unpack
  rw [hst]
  exact wpAny_bind (wpAny_holding (unp_star hl hh hz fun g tk kp => q g tk kp))
end
/-- x, *ys = a list -/
def gStar (K : PySem.W.Frag) (g1 g2 : TG) : TG := fun v σ H Q => ∃ a x xs, v = .ref a ∧ SqL K H a (x :: xs) ∧ xs.length < 16384 ∧ ∀ D, H D = none → gCons g1 (gCons g2 gNil) [x, .ref D] σ (upd H D (.lst xs)) Q
theorem pg_star {X : Cx} {e1 e2 : Expr} {p1 p2 : Pos} {k : Nat} {g1 g2 : TG} (hc : X.calm = true) (h1 : PG X e1 g1) (h2 : PG X e2 g2) (hst : assignEach [e1, .Starred e2 p1] X.env = [(false, assign e1 X.env), (true, assign e2 X.env)])
    (hss : (assignEach [e1, e2] X.env).map (·.2) = [assign e1 X.env, assign e2 X.env]) (hs2 : (assignEach [e2] X.env).map (·.2) = [assign e2 X.env]) : PG X (.Tuple [e1, .Starred e2 p1] k p2) (gStar X.K g1 g2) := by
  refine ⟨fun pins s σ H v u Q I r hw => ?_⟩
  obtain ⟨a, x, xs, rfl, hq, hz, hw⟩ := hw
  cases r
  obtain ⟨its, rv, hl, hz2⟩ := I.list hq
  cases rv with
  | @cons _ y _ ys r1 r2 =>
    refine asg_star hl.isList (I.ok.hd hc) (by rw [← r2.length]; omega) hst fun g tk kp => ?_
    have I1 : Inv X pins σ H { s with heap := g, toks := tk } := I.kept (t' := tk) kp
    have nD : H g.objs.size = none := I1.hok.fresh (Nat.le_refl _)
    have I2 := I1.laid (t' := tk) (a := g.objs.size) (o := .lst xs) (h' := g.push (seqObj "list" ys.toArray 0)) (fun b u e => Heap.get?_push_of_some _ e) (Nat.le_refl _) ⟨by show xs.length ≤ sizeLine; rw [sizeLine_eq]; omega, ys, 0, r2, Heap.get?_push_size _ rfl⟩
    have ps := pgs_cons h1 (pgs_cons h2 pgs_nil hs2) (by rw [hss, hs2])
    rw [← hss]
    exact ps.run pins _ σ _ [x, .ref g.objs.size] [y, .ref g.objs.size] Q I2 (.cons r1 (.cons rfl .nil)) (hw g.objs.size nD)
def isCallE : Expr → Bool
  | .Call _ _ _ _ => true
  | _ => false
theorem isCall_sw {sc : Scope} {ts : List Expr} {k : Nat} {p : Pos} {e : Expr} (h : isCallE e = true) : swNo sc (.Tuple ts k p) e = true := by
  cases e <;> first | rfl | cases h
theorem star_sw {e e1 e2 : Expr} {k l : Nat} {p1 p2 : Pos} {env : PySem.Env} (h : noComp e = true) : swapsWithSole [.Tuple [e1, .Starred e2 p1] k p2] e l env = pure false := by
  simp only [swapsWithSole]
  exact noComp_sw h
def wStar (i j : Nat) (a : WE) : WS := fun E env S => a env S (fun d S1 => ∃ z zs, lstOf S1 d = some (z :: zs) ∧ zs.length < 16384 ∧ E.nx ((env.set i (some z)).set j (some (.lst zs))) S1) (fun x S1 => E.xq x env S1)
def DS.star (i j : Nat) (a : DE) : DS where
  mt c s := match s with
    | .Assign [.Tuple [.Name x _, .Starred (.Name y _) _] _ _] e _ => locB c i x && locB c j y && a.mt c e && noComp e && isCallE e
    | _ => false
  wp := wStar i j a.wp
  rq := a.rq
  ok X W T s h g f q := by
    split at h
    · simp only [Bool.and_eq_true] at h
      obtain ⟨⟨⟨⟨k1, k2⟩, k3⟩, k4⟩, k5⟩ := h
      obtain ⟨h1, h2, h3⟩ := loc_of k1
      obtain ⟨h4, h5, h6⟩ := loc_of k2
      refine PS.imp (ps_asg (a.ok X W T _ k3 g q) (pg_star g.calm (pg_name g.nd h1 h2 h3) (pg_name g.nd h4 h5 h6) rfl rfl rfl) (star_sw k4) (swNo_of f.kind (isCall_sw k5)) rfl) fun D σ H ⟨env, S, F, ads, E, er, sm, hw, k⟩ => ?_
      refine ⟨env, S, F, ads, _, _, er, sm, hw, fun F1 ads1 S1 H1 d v x1 s1 r1 h1 => ?_, k.xq.kx er⟩
      obtain ⟨z, zs, hs, hz, hq⟩ := h1
      obtain ⟨a, vs, e, hv, rs⟩ := lst_sq s1 r1 hs
      subst e
      cases rs with
      | @cons _ y _ ys r t =>
        refine ⟨a, y, ys, rfl, hv, by rw [← t.length]; exact hz, fun D hD => ?_⟩
        obtain ⟨s2, x2⟩ := s1.frz hD (.lst ys)
        refine ⟨_, _, rfl, _, _, rfl, rfl, ?_⟩
        exact k.nx _ _ _ _ _ _ (x1.trans x2) s2 (((er.ext (x1.trans x2)).set (r.ext x2)).set (.lst upd_same (t.ext x2))) hq
    · cases h
theorem y34a (i j : Nat) (a : DE) : (DS.star i j a).wp = wStar i j a.wp := rfl
theorem r34a (i j : Nat) (a : DE) (Z : Cy) : (DS.star i j a).rq Z = a.rq Z := rfl
/-! #### DL35 -/
/-! The D layer, part 35: sorted(xs, reverse=True, key=f), f a def of the text. -/
/-- the heap without one object -/
def noAt (h : Heap) (a : Addr) : Heap := { h with objs := h.objs.setIfInBounds a { cls := .none, data := .freed } }
theorem noAt_self (h : Heap) (a : Addr) : (noAt h a).get? a = none := by
  unfold Heap.get? noAt
  by_cases e : a < h.objs.size
  · simp [e]
  · simp [e]
theorem noAt_ne {h : Heap} {a b : Addr} (n : b ≠ a) : (noAt h a).get? b = h.get? b := by
  unfold Heap.get? noAt
  simp only
  rw [Array.getElem?_setIfInBounds_ne (Ne.symm n)]
/-- the keys, one call after the other -/
def keysGo (sp : Sp) : List V → Hp → (List Int → Hp → Prop) → Prop
  | [], H, R => R [] H
  | v :: vs, H, R => sp [v] H (fun u H' => ∃ k, u = .int k ∧ keysGo sp vs H' fun ks H2 => R (k :: ks) H2) (fun _ _ _ => False)
/-- what is free for a built-in's own use -/
structure Lone (X : Cx) (pins : List (Addr × Obj)) (b : Addr) : Prop where
  lo : b ≠ X.env.locals
  fs : b ∉ X.fs
  ex : b ∈ X.ex ∨ X.s_0.heap.objs.size ≤ b
  ce : ∀ x c, X.env.cells.lookup x = some c → c ≠ b
  pn : ∀ p ∈ X.pn ++ pins, p.1 ≠ b
theorem Lone.fp {X : Cx} {pins : List (Addr × Obj)} {H : Hp} {b : Addr} (l : Lone X pins b) (h : H b = none) : FpOk X pins H b := ⟨h, l.lo, l.fs, l.ex, l.ce, l.pn⟩
theorem lone_of {X : Cx} {pins : List (Addr × Obj)} {σ : L2.St} {H : Hp} {s : Shared} {b : Addr} (I : Inv X pins σ H s) (hb : s.heap.objs.size ≤ b) : Lone X pins b :=
  let ⟨_, a1, a2, a3, a4, a5⟩ := I.fpOk hb (I.hok.fresh hb)
  ⟨a1, a2, a3, a4, a5⟩
section
variable {X : Cx} {pins : List (Addr × Obj)} {σ : L2.St}
/-- pinned objects are changed -/
theorem repin {H : Hp} {s : Shared} {h' : Heap} {t' : Nat} {kS a : Addr} {o1 o2 u1 u2 : Obj} (I : Inv X (pins ++ [(kS, o1), (a, o2)]) σ H s) (l1 : Lone X pins kS) (l2 : Lone X pins a)
    (k : ∀ b o, b ≠ kS → b ≠ a → s.heap.get? b = some o → h'.get? b = some o) (e1 : h'.get? kS = some u1) (e2 : h'.get? a = some u2) (n1 : ∀ v, u1.data ≠ .cell v) (n2 : ∀ v, u2.data ≠ .cell v) :
    Inv X (pins ++ [(kS, u1), (a, u2)]) σ H { s with heap := h', toks := t' } := by
  have p1 := I.pin (kS, o1) (by simp)
  have p2 := I.pin (a, o2) (by simp)
  have I1 : Inv X pins σ H s := I.unpinned
  have I2 : Inv X pins σ H { s with heap := h', toks := t' } := I1.turnedL (ch := [kS, a]) (fun b o nb e => by
    simp only [List.mem_cons, List.not_mem_nil, or_false, not_or] at nb
    exact k b o nb.1 nb.2 e) fun b hb => by
    simp only [List.mem_cons, List.not_mem_nil, or_false] at hb
    rcases hb with rfl | rfl
    · exact l1.fp p1.2.1
    · exact l2.fp p2.2.1
  refine I2.pins_of fun p hp => ?_
  rcases List.mem_append.mp hp with q | q
  · exact I2.pin p (List.mem_append_right _ q)
  · simp only [List.mem_cons, List.not_mem_nil, or_false] at q
    rcases q with rfl | rfl
    · exact ⟨e1, p1.2.1, l1.lo, l1.fs, n1⟩
    · exact ⟨e2, p2.2.1, l2.lo, l2.fs, n2⟩
theorem no_cell (xs : Array Value) (e : Nat) : ∀ v, (seqObj "list" xs e).data ≠ .cell v := fun v z => by cases z
theorem key_call {k : Nat} {f : Addr} {fd : FuncData} {ps : List Str} {sp : Sp} (F : FnOk X.prog X.w X.K X.mg X.base (L2.CX X.prog X.w) k f fd ps sp) (hb : L2.Binds X.K fd ps []) {A : Around} (hr : Room k A) (hf : A.frames = X.A.frames) {pins : List (Addr × Obj)} {H : Hp} {s : Shared} {x : V} {u : Value} {Q : VK}
    {E : Value → Shared → Prop} (I : Inv X pins σ H s) (rx : RelV x u) (hsp : sp [x] H Q (fun _ _ _ => False)) :
    wpAny (model X.prog X.w) A (call (.ref f) [u]) (fun r s' => ∃ v H', RelV v r ∧ Inv X pins σ H' s' ∧ Q v H') E s := by
  have hl := F.len _ _ _ _ hsp
  have bd := hb s [u] I.kIn (by rw [List.append_nil]; exact hl)
  rw [List.append_nil] at bd
  have e0 : Env0 X.prog X.w X.K X.mg X.base A X.stack s H := by
    have e := I.env0
    exact ⟨by rw [hf]; exact e.frames, e.mod, e.bs, e.bsz, e.funs, e.frf, e.hok, e.bare⟩
  refine wpAny_call (codeAny_mono (F.run A X.stack s H _ _ _ _ (fun _ _ _ => False) hr e0 bd (.cons rx .nil) hsp) fun fl s' z => ?_)
  match fl, z with
  | .error ev, z => exact (cx_no z).elim
  | .ok (.ret u), z =>
    obtain ⟨v, H', J3, rv, q3⟩ := I.after z
    exact ⟨v, H', rv, J3, q3⟩
  | .ok .next, z => exact False.elim z
  | .ok .brk, z => exact False.elim z
  | .ok .cont, z => exact False.elim z
end
/-- a list sorted by keys, downwards -/
def sortKR {α : Type} (ks : List Int) (xs : List α) : List α := ((ks.zip xs).mergeSort fun p q => decide (q.1 ≤ p.1)).map (·.2)
section
open PySem.W
variable {X : Cx} {pins : List (Addr × Obj)} {σ : L2.St} {k : Nat} {f : Addr} {fd : FuncData} {ps : List Str} {sp : Sp} {A : Around} {E : Value → Shared → Prop} {P : PySem.Fin → Shared → Prop} {kS a : Addr} {e1 : Nat}
theorem vals_at : ∀ {xs : List V} {us : List Value} {j : Nat} {u : Value}, Vals xs us → us[j]? = some u → ∃ x, xs[j]? = some x ∧ RelV x u
  | _, _, _, _, .nil, e => by simp at e
  | _, _, 0, _, .cons r _, e => by simp at e; subst e; exact ⟨_, rfl, r⟩
  | _, _, j + 1, u, .cons _ t, e => by
    obtain ⟨x, h1, h2⟩ := vals_at (j := j) (u := u) t (by simpa using e)
    exact ⟨x, by simpa using h1, h2⟩
theorem each_zip : ∀ {ks : List Int} {xs : List V} {us : List Value}, ks.length = xs.length → Vals xs us → PySem.W.EachIs (fun u (p : Int × V) => RelV p.2 u) us (ks.zip xs)
  | [], [], _, _, .nil => .nil
  | k :: ks, x :: xs, _, h, .cons r t => .cons r (each_zip (by simpa using h) t)
  | [], x :: xs, _, h, _ => by simp at h
  | k :: ks, [], _, h, _ => by simp at h
theorem vals_zip : ∀ {us : List Value} {L : List (Int × V)}, PySem.W.EachIs (fun u (p : Int × V) => RelV p.2 u) us L → Vals (L.map (·.2)) us
  | _, _, .nil => .nil
  | _, _, .cons r t => .cons r (vals_zip t)
theorem ints_read {h : Heap} : ∀ {us : List Value} {ks : List Int}, IntsAre us ks → PySem.W.EachIs (fun v d => ∃ as, Reads h v d as) us (ks.map PyData.int)
  | _, _, .nil => .nil
  | _, _, .cons n t r => .cons ⟨[], .int _ _⟩ (ints_read r)
theorem ints_snoc : ∀ {us : List Value} {ks : List Int} {n : Int} {t : Tok}, IntsAre us ks → IntsAre (us ++ [Value.int n t]) (ks ++ [n])
  | _, _, _, _, .nil => .cons _ _ .nil
  | _, _, _, _, .cons n t r => .cons n t (ints_snoc r)
theorem keyG_rest (F : FnOk X.prog X.w X.K X.mg X.base (L2.CX X.prog X.w) k f fd ps sp) (hb : L2.Binds X.K fd ps []) (hr : Room k A) (hf : A.frames = X.A.frames) (hu : A.units + 2 < cLine) (l1 : Lone X pins kS) (l2 : Lone X pins a) (hka : kS ≠ a)
    {xs : List V} {vs : List Value} (rv : Vals xs vs) (hZ : vs.length ≤ sizeLine) {s : Shared} {H : Hp} (I : Inv X (pins ++ [(kS, seqObj "list" #[] 0), (a, seqObj "list" #[] e1)]) σ H s) {R : List Int → Hp → Prop} (hk : keysGo sp xs H R)
    (h : ∀ ks H' s' out c, ks.length = xs.length → R ks H' → Inv X pins σ H' s' → s'.heap.get? a = some (seqObj "list" (List.toArray out) c) → H' a = none → Vals (sortKR ks xs) out → P (.done (.ret .none)) s') :
    wpAny (model X.prog X.w) A (ksk_rest a (.ref f) true vs.toArray e1 (.ref kS)) P E s := by
  unfold ksk_rest
  refine wpAny_bind (wpAny_rule ?_)
  first
    | rw [List.forIn_toArray]
    | (rw [← Array.forIn_toList]; simp only [List.toList_toArray])
    | rw [← Array.forIn_toList]
  have lx := rv.length
  refine wpAny_bind (ksk_fold (fun j s' => ∃ H' kA e ks, Inv X (pins ++ [(kS, seqObj "list" kA e), (a, seqObj "list" #[] e1)]) σ H' s' ∧ IntsAre kA.toList ks ∧ ks.length = j ∧ keysGo sp (xs.drop j) H' fun ks' H2 => R (ks ++ ks') H2) vs 0 s
    ⟨H, #[], 0, [], I, .nil, rfl, by simpa using hk⟩ ?step ?done)
  case step =>
    rintro j x s' hx ⟨H', kA, e, ks, I', hi, hl, hg⟩
    simp only [Nat.zero_add] at hl hg ⊢
    have hj : j < vs.length := (List.getElem?_eq_some_iff.mp hx).1
    obtain ⟨v, hv, rvx⟩ := vals_at rv hx
    have hd : xs.drop j = v :: xs.drop (j + 1) := by
      obtain ⟨q, e⟩ := List.getElem?_eq_some_iff.mp hv
      rw [List.drop_eq_getElem_cons q, e]
    rw [hd] at hg
    have ksz : kA.size = j := by rw [← Array.length_toList, hi.length, hl]
    refine wpAny_bind (wpAny_attempt (wpAny_mono (key_call (E := fun _ _ => False) F hb hr hf I' rvx hg) (fun u s2 z => ?_) fun _ _ z => z.elim))
    obtain ⟨w, H2, rw', I2, n, rfl, hg2⟩ := z
    obtain ⟨t, rfl⟩ : ∃ t, u = Value.int n t := rw'
    try dsimp only
    have p1 := I2.pin (kS, seqObj "list" kA e) (by simp)
    have p2 := I2.pin (a, seqObj "list" #[] e1) (by simp)
    have sb := Heap.SameBut.update s2.heap kS (Obj.mapSeq (·.push (.int n t)))
    obtain ⟨c2, hc2⟩ : ∃ c2, (s2.heap.update kS (Obj.mapSeq (·.push (.int n t)))).get? kS = some (seqObj "list" (kA.push (.int n t)) c2) := ⟨_, get?_update_seq p1.1 (·.push (.int n t))⟩
    refine wpAny_bind (listUpdate_at p1.1 rfl ?_ (by rw [ksz]; omega) (by rw [Array.size_push, ksz]; omega))
    refine wpAny_pure ⟨rfl, H2, kA.push (.int n t), c2, ks ++ [n], repin (t' := s2.toks) I2 l1 l2 (fun b o n1 n2 e => (sb.2 b n1).trans e) hc2 ((sb.2 a hka.symm).trans p2.1) (no_cell _ _) (no_cell _ _), ?_, by rw [List.length_append, hl]; rfl, ?_⟩
    · rw [Array.toList_push]; exact ints_snoc hi
    · simpa using hg2
  case done =>
    rintro s' ⟨H', kA, e, ks, I', hi, hl, hg⟩
    simp only [Nat.zero_add] at hl hg
    rw [← lx, List.drop_length] at hg
    have hg : R (ks ++ []) H' := hg
    rw [List.append_nil] at hg
    have p1 := I'.pin (kS, seqObj "list" kA e) (by simp)
    have p2 := I'.pin (a, seqObj "list" #[] e1) (by simp)
    have ksz : kA.size = vs.length := by rw [← Array.length_toList, hi.length, hl]
    try dsimp only
    refine wpAny_bind (listItems_at p1.1 rfl ?_)
    have hu' : ∀ d, d ∈ ks.map PyData.int → A.units + d.depth < cLine := fun d hd => by
      obtain ⟨i, _, rfl⟩ := List.mem_map.mp hd
      simp only [PyData.depth]; omega
    have hal : AllAlike (ks.map PyData.int) := PySem.W.AllAlike.of fun _ _ => by simp [PySem.W.alike]
    have hsk : Sortable (ks.map PyData.int) := .inr fun d hd => by
      obtain ⟨i, _, rfl⟩ := List.mem_map.mp hd
      exact ⟨by simp, fun xs z => by cases z⟩
    refine keyH_end (κ := dataKind s'.heap (ks.map PyData.int)) (h₁ := noAt s'.heap kS) (fun b o _ z => ?_) (noAt_self _ _) p1.1 p2.1 hka (SortsAt.data (s := s') (ints_read hi) hal hsk hu') ksz hZ fun h3 tk3 c k3 n3 => ?_
    · by_cases e : b = kS
      · subst e; rw [noAt_self] at z; cases z
      · rw [noAt_ne e] at z; exact z
    · have I1 : Inv X pins σ H' s' := I'.unpinned
      have I3 : Inv X pins σ H' { s' with heap := h3, toks := tk3 } := I1.turnedL (ch := [kS, a]) (fun b o nb z => by
        simp only [List.mem_cons, List.not_mem_nil, or_false, not_or] at nb
        exact k3 b o nb.2 (by rw [noAt_ne nb.1]; exact z)) fun b hb => by
        simp only [List.mem_cons, List.not_mem_nil, or_false] at hb
        rcases hb with rfl | rfl
        · exact l1.fp p1.2.1
        · exact l2.fp p2.2.1
      refine h ks H' _ _ c (by rw [hl, lx]) hg I3 n3 p2.2.1 ?_
      have ko : KeyedOut true (ks.map PyData.int) vs (sortVals (dataKind s'.heap (ks.map PyData.int)) true kA.toList vs) := ⟨s'.heap, kA.toList, hal, rfl, ints_read hi⟩
      have lk : ks.length = xs.length := by rw [hl, lx]
      have em : (ks.zip xs).map (fun p : Int × V => PyData.int p.1) = ks.map PyData.int := by
        have := congrArg (List.map PyData.int) (List.map_fst_zip (l₁ := ks) (l₂ := xs) (by omega))
        rwa [List.map_map] at this
      have eo := keyedOut_each (R := fun u (p : Int × V) => RelV p.2 u) (bs := ks.zip xs) (fun p => PyData.int p.1) (by rw [em]; exact ko) (each_zip lk rv)
      rw [dataGe_int (β := Int × V) (fun p => p.1)] at eo
      exact vals_zip eo
/-- an object of our own is tracked from now on -/
theorem track {X : Cx} {pins : List (Addr × Obj)} {σ : L2.St} {H : Hp} {s : Shared} {T : Addr} {ob : HO} (I : Inv X pins σ H s) (l : Lone X pins T) (hn : H T = none) (new : ObjOk X.prog X.w (upd H T ob) s.heap T ob) : Inv X pins σ (upd H T ob) s := by
  have far : ∀ b u, H b = some u → b ≠ T := fun b u e => ne_of_none e hn
  have go := I.step (g' := s.gens) (d' := s.drawn) (t' := s.toks) (h' := s.heap) (H' := upd H T ob) (ch := [T]) (fun b hb => ?_) (fun b o _ _ _ e _ => e) (fun b o _ _ _ e _ => ⟨o.slots, e⟩)
    (fun b o hb e n => ?_) (fun b o _ e => ⟨o, e⟩) (fun b xs e => ?_) (fun b o u e => ?_) (fun b ps e => ⟨#[], ?_⟩) (fun m hm => hm) (fun b u e => ?_) I.bare
  · exact go
  · have e : b = T := by simpa using hb
    subst e
    exact ⟨l.ex, l.lo, l.ce, l.pn⟩
  · rw [upd_ne (by simpa using hb)]; exact n
  · rw [upd_ne (far _ _ e)]; exact e
  · rw [upd_ne (far _ _ e)]; exact e
  · rw [upd_ne (far _ _ e), e]; simp
  · by_cases q : b = T
    · subst q
      rw [upd_same] at e
      cases e
      exact new
    · rw [upd_ne q] at e
      exact (I.hok b u e).stay (fun c v _ z => z) (fun c z => by rw [upd_ne (ne_of_none z hn)]; exact z) fun c xs z => by rw [upd_ne (ne_of_none z hn)]; exact z
def rSortKF (K : PySem.W.Frag) (f : Addr) (sp : Sp) : List V → List V → Hp → VK → Prop := fun vs zs H Q => ∃ a xs, vs = [V.ref a] ∧ zs = [V.bl true, V.ref f] ∧ SqL K H a xs ∧ keysGo sp xs H fun ks H1 => ks.length = xs.length → ∀ l, H1 l = none → Q (.ref l) (upd H1 l (.lst (sortKR ks xs)))
theorem cr_sortKF {X : Cx} {k : Nat} {f : Addr} {fd : FuncData} {ps : List Str} {sp : Sp} (F : FnOk X.prog X.w X.K X.mg X.base (L2.CX X.prog X.w) k f fd ps sp) (hb : L2.Binds X.K fd ps []) (hr : Room (k + 2) X.A) (hu : X.A.units + 100 < cLine) :
    CallRK X (.builtin "sorted") [Str.ofString "reverse", Str.ofString "key"] (rSortKF X.K f sp) := by
  intro pins s σ H xs zs us ws Q I r rz h
  obtain ⟨a, ys, rfl, rfl, hs, hk⟩ := h
  obtain ⟨u1, rfl, r1⟩ := vals1 r
  obtain ⟨u2, u3, rfl, r2, r3⟩ := vals2 rz
  cases r1; cases r2; cases r3
  obtain ⟨its, rv, hl, hz⟩ := I.list hs
  have hz' : its.length ≤ sizeLine := by rw [← rv.length]; exact hz
  show wpAny _ _ (call (.builtin "sorted") [.ref a] [(Str.ofString "reverse", Value.bool true), (Str.ofString "key", Value.ref f)]) _ _ s
  refine sorted_of_sort hl.isList hz' (ksk_s3 _ _ _) (fun _ => ksk_l3 _ _ _) fun E' => ?_
  rw [ksk_t3]
  have ho := copyHeap_at s.heap its
  obtain ⟨e1, ho1⟩ : ∃ e1, ((copyHeap s.heap its).update (s.heap.objs.size + 1) (Obj.mapSeq fun _ => (#[] : Array Value))).get? (s.heap.objs.size + 1) = some (seqObj "list" #[] e1) := ⟨_, get?_update_seq ho fun _ => #[]⟩
  have la : s.heap.objs.size + 1 < (copyHeap s.heap its).objs.size := Heap.lt_size ho
  have hkS : (((copyHeap s.heap its).update (s.heap.objs.size + 1) (Obj.mapSeq fun _ => (#[] : Array Value))).push (seqObj "tuple" its.toArray 0)).objs.size = (copyHeap s.heap its).objs.size + 1 := by rw [size_push', Heap.size_update]
  unfold ksk_tree
  refine wpAny_bind (listItems_at ho rfl ?_)
  refine wpAny_bind (listUpdate_at ho rfl ?_ (by rw [List.size_toArray]; exact hz') (Nat.zero_le _))
  refine wpAny_bind (seqEpoch_at ho1 rfl ?_)
  refine wpAny_bind (wpAny_newTuple ?_ (by show its.length ≤ _; exact hz'))
  refine wpAny_bind (wpAny_newList ?_ (Nat.zero_le _))
  refine wpAny_holding ?_
  have nka : (((copyHeap s.heap its).update (s.heap.objs.size + 1) (Obj.mapSeq fun _ => (#[] : Array Value))).push (seqObj "tuple" its.toArray 0)).objs.size ≠ s.heap.objs.size + 1 := by rw [hkS]; omega
  have I1 : Inv X pins σ H { s with heap := sortingHeap (copyHeap s.heap its) (s.heap.objs.size + 1) its } := I.kept (t' := s.toks) fun b u e =>
    sortingHeap_old (Nat.ne_of_lt (Nat.lt_succ_of_lt (Heap.lt_size e))) (copyHeap_old e)
  have lA := lone_of I (Nat.le_succ s.heap.objs.size)
  have lK : Lone X pins (((copyHeap s.heap its).update (s.heap.objs.size + 1) (Obj.mapSeq fun _ => (#[] : Array Value))).push (seqObj "tuple" its.toArray 0)).objs.size := lone_of I (by rw [hkS]; omega)
  have gA : (sortingHeap (copyHeap s.heap its) (s.heap.objs.size + 1) its).get? (s.heap.objs.size + 1) = some (seqObj "list" #[] e1) := Heap.get?_push_of_some _ (Heap.get?_push_of_some _ ho1)
  have gK : (sortingHeap (copyHeap s.heap its) (s.heap.objs.size + 1) its).get? (((copyHeap s.heap its).update (s.heap.objs.size + 1) (Obj.mapSeq fun _ => (#[] : Array Value))).push (seqObj "tuple" its.toArray 0)).objs.size = some (seqObj "list" #[] 0) := Heap.get?_push_size _ rfl
  have nA : H (s.heap.objs.size + 1) = none := I.hok.fresh (Nat.le_succ _)
  have nK : H (((copyHeap s.heap its).update (s.heap.objs.size + 1) (Obj.mapSeq fun _ => (#[] : Array Value))).push (seqObj "tuple" its.toArray 0)).objs.size = none := I.hok.fresh (by rw [hkS]; omega)
  have I2 : Inv X (pins ++ [((((copyHeap s.heap its).update (s.heap.objs.size + 1) (Obj.mapSeq fun _ => (#[] : Array Value))).push (seqObj "tuple" its.toArray 0)).objs.size, seqObj "list" #[] 0), (s.heap.objs.size + 1, seqObj "list" #[] e1)]) σ H { s with heap := sortingHeap (copyHeap s.heap its) (s.heap.objs.size + 1) its } := by
    refine I1.pins_of fun p hp => ?_
    rcases List.mem_append.mp hp with q | q
    · exact I1.pin p (List.mem_append_right _ q)
    · simp only [List.mem_cons, List.not_mem_nil, or_false] at q
      rcases q with rfl | rfl
      · exact ⟨gK, nK, lK.lo, lK.fs, no_cell _ _⟩
      · exact ⟨gA, nA, lA.lo, lA.fs, no_cell _ _⟩
  refine keyG_rest (A := X.A.in1.in1) (s := { s with heap := sortingHeap (copyHeap s.heap its) (s.heap.objs.size + 1) its }) F hb hr.in1.in1 rfl (by show X.A.units + 1 + 1 + 2 < cLine; omega) lK lA nka rv hz' I2 hk fun ks H' s' out c hlen hq I3 hD hn hv => ?_
  have I4 := track I3 lA hn (ob := .lst (sortKR ks ys)) ⟨by rw [hv.length, ← hv.length]; unfold sortKR; rw [List.length_map, List.length_mergeSort, List.length_zip]; omega, out, c, hv, hD⟩
  exact ⟨rfl, V.ref (s.heap.objs.size + 1), _, I4, rfl, hq hlen _ hn⟩
end
/-! ### the word -/
def keysGoD (C : Ct) : List D → Sto → (List Int → Sto → Prop) → Prop
  | [], S, R => R [] S
  | d :: ds, S, R => C [d] S (fun v S' => ∃ k, v = .int k ∧ keysGoD C ds S' fun ks S2 => R (k :: ks) S2) noX
theorem keysGo_of {K : Fg} {mg : Str → Option Value} {C : Ct} : ∀ {ds : List D} {vs : List V} {S : Sto} {F : Hp} {ads : List Addr} {H : Hp} {Rd : List Int → Sto → Prop} {R : List Int → Hp → Prop}, Sim K F ads S H → Rps K F ads ds vs → keysGoD C ds S Rd →
    (∀ F' ads' S' H' ks, Ext F ads H F' ads' H' → Sim K F' ads' S' H' → Rd ks S' → R ks H') → keysGo (spOf K mg 1 C) vs H R
  | [], [], S, F, ads, H, Rd, R, sm, _, h, k => k _ _ _ _ _ Ext.refl sm h
  | d :: ds, v :: vs, S, F, ads, H, Rd, R, sm, .cons r t, h, k => by
    refine ⟨[d], S, F, ads, _, noX, rfl, sm, .cons r .nil, h, fun F1 ads1 S1 H1 u w x1 s1 r1 hh => ?_, fun _ _ _ _ _ _ _ z => z⟩
    obtain ⟨n, rfl, hh⟩ := hh
    cases r1
    exact ⟨n, rfl, keysGo_of s1 (t.ext x1) hh fun F2 ads2 S2 H2 ks x2 s2 hr => k _ _ _ _ _ (x1.trans x2) s2 hr⟩
theorem rps_sortKR {K : Fg} {F : Hp} {ads : List Addr} {ks : List Int} {ds : List D} {vs : List V} (r : Rps K F ads ds vs) (hl : ks.length = ds.length) : Rps K F ads (sortKR ks ds) (sortKR ks vs) := by
  have l2 := r.length
  let L : List (Int × D × V) := ks.zip (ds.zip vs)
  have lz : (ds.zip vs).length = ks.length := by rw [List.length_zip]; omega
  have e1 : L.map (fun z => (z.1, z.2.1)) = ks.zip ds := by
    show (ks.zip (ds.zip vs)).map (fun z => (z.1, z.2.1)) = _
    apply List.ext_getElem
    · simp only [List.length_map, List.length_zip]; omega
    · intro i _ _; simp
  have e2 : L.map (fun z => (z.1, z.2.2)) = ks.zip vs := by
    show (ks.zip (ds.zip vs)).map (fun z => (z.1, z.2.2)) = _
    apply List.ext_getElem
    · simp only [List.length_map, List.length_zip]; omega
    · intro i _ _; simp
  have m1 : (L.mergeSort fun p q => decide (q.1 ≤ p.1)).map (fun z => (z.1, z.2.1)) = (ks.zip ds).mergeSort fun p q => decide (q.1 ≤ p.1) := by
    rw [List.map_mergeSort (s := fun p q : Int × D => decide (q.1 ≤ p.1)) (fun a _ b _ => rfl), e1]
  have m2 : (L.mergeSort fun p q => decide (q.1 ≤ p.1)).map (fun z => (z.1, z.2.2)) = (ks.zip vs).mergeSort fun p q => decide (q.1 ≤ p.1) := by
    rw [List.map_mergeSort (s := fun p q : Int × V => decide (q.1 ≤ p.1)) (fun a _ b _ => rfl), e2]
  unfold sortKR
  rw [← m1, ← m2, List.map_map, List.map_map]
  have all : ∀ z ∈ L.mergeSort fun p q => decide (q.1 ≤ p.1), Rp K F ads z.2.1 z.2.2 := by
    intro z hz
    have hz := (List.mergeSort_perm _ _).subset hz
    exact rps_zip r _ (List.of_mem_zip hz).2
  generalize (L.mergeSort fun p q => decide (q.1 ≤ p.1)) = M at all
  induction M with
  | nil => exact .nil
  | cons z M ih => exact .cons (all z (by simp)) (ih fun y hy => all y (List.mem_cons_of_mem _ hy))
def KeyOk (Z : Cy) (f : Str) (C : Ct) : Prop := ∃ k, FnAt Z.prog Z.w ⟨Z.K, Z.T⟩ Z.mg Z.base k f 1 C ∧ Room (k + 2) Z.A
def wSrtKF (C : Ct) (a : WE) : WL := fun env S Q X => a env S (fun d S1 => ∃ ds, lstOf S1 d = some ds ∧ keysGoD C ds S1 fun ks S2 => ks.length = ds.length → Q (sortKR ks ds) S2) X
def DL.srtKF (f : Str) (C : Ct) (a : DE) : DL where
  mt c e := match e with
    | .Call (.Name g _) [x] [⟨some k1, .Constant (.bool true) _ _, _⟩, ⟨some k2, .Name y _, _⟩] _ => g == "sorted" && glB c "sorted" && noStar x && a.mt c x && k1 == "reverse" && k2 == "key" && y == f && glB c f && !(f == ("__debug__" : Str))
    | _ => false
  wp := wSrtKF C a.wp
  rq Z := Z.mg "sorted" = none ∧ KeyOk Z f C ∧ a.rq Z
  ok X W T e h g q := by
    split at h
    · simp only [Bool.and_eq_true, beq_iff_eq, Bool.not_eq_true'] at h
      obtain ⟨⟨⟨⟨⟨⟨⟨⟨rfl, h1⟩, h2⟩, h3⟩, rfl⟩, rfl⟩, rfl⟩, h7⟩, h8⟩ := h
      obtain ⟨q1, ⟨k, ⟨fa, fd, ps, F, hm, hk, hb⟩, hr⟩, q3⟩ := q
      have hm : X.mg _ = some (.ref fa) := hm
      refine PE.imp (pe_callBK (cr_sortKF F hb hr (by have := g.un; omega)) (gl_of h1) q1 (by decide +kernel) (pa_cons (a.ok X W T _ h3 g q3) pa_nil (starEach_cons h2)) (pk_cons pe_bl (pk_cons (C8.pe_gc (v := .ref fa) (gl_of h7) ⟨_, hm, rfl⟩ h8) pk_nil)) (by decide) (by decide) (by rw [starEach_cons h2]; rfl) (by rw [starEach_cons h2]; rfl) rfl rfl rfl) fun σ H Q ⟨env, S, F0, ads, Qd, Xd, er, sm, hw, kv, kx⟩ => ?_
      refine ⟨env, S, F0, ads, _, Xd, er, sm, hw, fun F1 ads1 S1 H1 d v x1 s1 r1 hh => ?_, kx⟩
      obtain ⟨ds, hs, hq⟩ := hh
      obtain ⟨a, ys, e, hy, rs⟩ := lst_sq s1 r1 hs
      subst e
      refine ⟨a, ys, rfl, rfl, hy, keysGo_of s1 rs hq fun F2 ads2 S2 H2 ks x2 s2 hr2 hl l hn => ?_⟩
      have hl' : ks.length = ds.length := by rw [hl, rs.length]
      exact kv _ _ _ _ _ _ l (x1.trans x2) s2 ((rps_sortKR rs hl').ext x2) hn (hr2 hl')
    · cases h
theorem y35a (f : Str) (C : Ct) (a : DE) : (DL.srtKF f C a).wp = wSrtKF C a.wp := rfl
theorem r35a (f : Str) (C : Ct) (a : DE) (Z : Cy) : (DL.srtKF f C a).rq Z = (Z.mg "sorted" = none ∧ KeyOk Z f C ∧ a.rq Z) := rfl
/-! #### DL36 -/
/-! The D layer, part 36: str(x) by an own __str__. -/
theorem oFmt_i (i : Int) (S : Sto) (Q : QD) : oFmt (.int i) S Q = (i.natAbs.log2 < 1920 ∧ Q (.str (toString i)) S) := rfl
theorem oFmt_s (y : Str) (S : Sto) (Q : QD) : oFmt (.str y) S Q = (y.length ≤ sizeLine ∧ Q (.str y) S) := rfl
theorem isCD_t (c : Str) (S : Sto) (ds : List D) : isCD c S (.tup ds) = some false := rfl
theorem isCD_s (c : Str) (S : Sto) (y : Str) : isCD c S (.str y) = some false := rfl
theorem call_strO {X : Cx} {k : Nat} {f C : Addr} {fd : FuncData} {ps : List Str} {sp : Sp} (F : FnOk X.prog X.w X.K X.mg X.base (L2.CX X.prog X.w) k f fd ps sp) (hr : Room (k + 2) X.A) (hb : L2.Binds X.K fd ps []) (mt : Meth X.K C "__str__" f) :
    CallR X (.type "str") (fun vs H Q => ∃ a dx fs, vs = [.ref a] ∧ H a = some (.ins C dx fs) ∧ sp [.ref a] H (fun v H' => ∃ y, v = .str y ∧ Q (.str y) H') (fun _ _ _ => False)) := by
  intro pn s0 σ H vs us Q I0 r h
  obtain ⟨a, dx, fs, rfl, ea, hsp⟩ := h
  cases r with
  | cons r1 r2 =>
    cases r2
    cases r1
    obtain ⟨mA, J, _⟩ := ins_get I0.hok ea
    obtain ⟨od, J, _⟩ := J.look
    refine PySem.W.kso_call (by have := hr.un; show X.A.units + 1 + 1 < cLine; omega) I0.kIn J mt.at_ mt.fn ?_
    refine wpAny_mono (key_call (E := X.xe) F hb hr.in1.in1 rfl I0 (show L2.RelV (.ref a) (.ref a) from rfl) hsp) (fun u s' z => ?_) fun _ _ z => z
    obtain ⟨v, H', rv, J3, y, rfl, q⟩ := z
    obtain ⟨t, rfl⟩ := (show ∃ t, u = Value.str y t from rv)
    exact ⟨.str y, H', J3, ⟨t, rfl⟩, q⟩
def StrOk (Z : Cy) (c : Str) (C : Ct) : Prop := ∃ k, MethAt Z.prog Z.w ⟨Z.K, Z.T⟩ Z.mg Z.base k c "__str__" 1 C ∧ Room (k + 2) Z.A
def wStrO (c : Str) (C : Ct) (a : WE) : WE := fun env S Q X => a env S (fun d S1 => ∃ i fs, d = .han i ∧ S1[i]? = some (.ins c fs) ∧ C [d] S1 (fun v S2 => ∃ y, v = .str y ∧ Q (.str y) S2) noX) X
def DE.strO (c : Str) (C : Ct) (a : DE) : DE where
  mt s e := match e with
    | .Call (.Name x _) [y] [] _ => x == "str" && glB s "str" && noStar y && a.mt s y
    | _ => false
  wp := wStrO c C a.wp
  rq Z := Z.mg "str" = none ∧ StrOk Z c C ∧ a.rq Z
  ok X W T e h g q := by
    obtain ⟨q0, ⟨k, ⟨Ca, ad, fd, ps, hC, hc, hm, F, hb⟩, hr⟩, q2⟩ := q
    split at h
    · simp only [Bool.and_eq_true, beq_iff_eq] at h
      obtain ⟨⟨⟨rfl, h1⟩, h2⟩, h3⟩ := h
      refine PE.imp (pe_callTy (call_strO F hr hb hm) (gl_of h1) q0 (by decide +kernel) (pa_cons (a.ok X W T _ h3 g q2) pa_nil (starEach_cons h2)) (by decide) (by decide) (starEach_cons h2) rfl) fun σ H Q ⟨env, S, F, ads, Qd, Xd, er, sm, hw, kv, kx⟩ => ?_
      refine ⟨env, S, F, ads, _, Xd, er, sm, hw, fun F1 ads1 S1 H1 d v x1 s1 r1 hh => ?_, kx⟩
      obtain ⟨i, fs, rfl, hS, hw1⟩ := hh
      have r1' := r1
      cases r1 with
      | han ha =>
        obtain ⟨a', ha', nF, C', dx, gs, hH, hn', ek, rs⟩ := s1.at hS
        rw [ha] at ha'; cases ha'
        have : C' = Ca := by
          have := hn'.symm.trans hC
          simpa using this
        subst this
        refine ⟨_, dx, gs, rfl, hH, [_], S1, F1, ads1, _, noX, rfl, s1, .cons r1' .nil, hw1, fun F2 ads2 S2 H2 d v x2 s2 r2 h2 => ?_, fun _ _ _ _ _ _ _ h => h⟩
        obtain ⟨y, rfl, h2⟩ := h2
        cases r2
        exact ⟨y, rfl, kv _ _ _ _ _ _ (x1.trans x2) s2 (.str y) h2⟩
    · cases h
theorem y36a (c : Str) (C : Ct) (a : DE) : (DE.strO c C a).wp = wStrO c C a.wp := rfl
theorem r36a (c : Str) (C : Ct) (a : DE) (Z : Cy) : (DE.strO c C a).rq Z = (Z.mg "str" = none ∧ StrOk Z c C ∧ a.rq Z) := rfl
/-! #### DL37 -/
/-! The D layer, part 37: a list against [], a slice of a list that is changed later. -/
namespace PySem.SeqAt
open PySem PySem.Spec PyProof.Rows
section
variable {prog : Program} {w : World}
theorem dif_eq (l b : Addr) (us vs : Array Value) (n n2 : Nat) (dd dd2 : Option Addr) (sl sl2 : Array (Option Value)) (hd : us.size ≠ vs.size) :
    MeetsIn prog w (Builtin.«list.__eq__» ⟨[.ref l, .ref b], []⟩)
      (fun A R s => s.heap.get? l = some { cls := .type "list", dict := dd, data := .seq us n, slots := sl } ∧ s.heap.get? b = some { cls := .type "list", dict := dd2, data := .seq vs n2, slots := sl2 } ∧ R (.ok (.ret (.bool false))) s) := by
  intro A R s h
  obtain ⟨hp, g, d, tk, os⟩ := s; obtain ⟨hl, hb, h⟩ := h
  have f3 := AutoSeq1.sub_list_list
  have hne : (us.size != vs.size) = true := by simpa using hd
  wp_walk using wpAny_loadPart' hl, wpAny_loadPart' hb
  exact h
theorem dif_ne (l b : Addr) (us vs : Array Value) (n n2 : Nat) (dd dd2 : Option Addr) (sl sl2 : Array (Option Value)) (hd : us.size ≠ vs.size) :
    MeetsIn prog w (Builtin.«list.__ne__» ⟨[.ref l, .ref b], []⟩)
      (fun A R s => s.heap.get? l = some { cls := .type "list", dict := dd, data := .seq us n, slots := sl } ∧ s.heap.get? b = some { cls := .type "list", dict := dd2, data := .seq vs n2, slots := sl2 } ∧ R (.ok (.ret (.bool true))) s) := by
  intro A R s h
  obtain ⟨hp, g, d, tk, os⟩ := s; obtain ⟨hl, hb, h⟩ := h
  have f3 := AutoSeq1.sub_list_list
  have hne : (us.size != vs.size) = true := by simpa using hd
  wp_walk using wpAny_loadPart' hl, wpAny_loadPart' hb
  exact h
end
end PySem.SeqAt
open PySem.SeqAt (dif_eq dif_ne)
/-- a list against an empty one -/
def rNil (K : PySem.W.Frag) (ne : Bool) : R2 := fun x y H Q => ∃ a b xs, x = .ref a ∧ y = .ref b ∧ SqL K H a xs ∧ H b = some (.lst []) ∧ xs ≠ [] ∧ Q (.bl ne) H
theorem op_nilEq {X : Cx} (hu : X.A.units + 64 < cLine) : OpR X (compareOp .Eq) (rNil X.K false) := by
  intro pins s σ H x y v u Q I rx ry h
  obtain ⟨a, b, xs, rfl, rfl, hx, hy, hn, q⟩ := h
  cases rx; cases ry
  obtain ⟨its, rv, pl, hz⟩ := I.list hx
  obtain ⟨its2, rv2, pl2, hz2⟩ := I.list (SqL.of hy)
  obtain ⟨⟨cls, dd, data, sl⟩, ho, hc, n, hd⟩ := id pl.isList
  obtain ⟨⟨cls2, dd2, data2, sl2⟩, ho2, hc2, n2, hd2⟩ := id pl2.isList
  simp only at hc hd hc2 hd2
  subst hc hd hc2 hd2
  have e2 : its2 = [] := by cases rv2; rfl
  subst e2
  have hs : its.toArray.size ≠ ([] : List Value).toArray.size := by
    cases rv with
    | nil => exact absurd rfl hn
    | cons r t => simp
  have ta : s.TypeIs (.ref a) "list" := ⟨_, ho, rfl⟩
  have tb : s.TypeIs (.ref b) "list" := ⟨_, ho2, rfl⟩
  show wpAny (model X.prog X.w) X.A (richCompare .Eq (.ref a) (.ref b)) (EP X pins σ Q) X.xe s
  exact wpAny_richCompare_same_room (op := .Eq) ta tb F.slot_list_eq (call_meetsIn F.slot_list_eq ta F.entry_list_eq (F.args_list_eq_2 _ _) (dif_eq a b _ _ n n2 dd dd2 sl sl2 hs)
    ⟨ho, ho2, show Value.bool false ≠ Value.notImplemented ∧ EP X pins σ Q (.bool false) s from ⟨(fun x => nomatch x), .bl false, H, I, rfl, q⟩⟩) (by omega)
theorem op_nilNe {X : Cx} (hu : X.A.units + 64 < cLine) : OpR X (compareOp .NotEq) (rNil X.K true) := by
  intro pins s σ H x y v u Q I rx ry h
  obtain ⟨a, b, xs, rfl, rfl, hx, hy, hn, q⟩ := h
  cases rx; cases ry
  obtain ⟨its, rv, pl, hz⟩ := I.list hx
  obtain ⟨its2, rv2, pl2, hz2⟩ := I.list (SqL.of hy)
  obtain ⟨⟨cls, dd, data, sl⟩, ho, hc, n, hd⟩ := id pl.isList
  obtain ⟨⟨cls2, dd2, data2, sl2⟩, ho2, hc2, n2, hd2⟩ := id pl2.isList
  simp only at hc hd hc2 hd2
  subst hc hd hc2 hd2
  have e2 : its2 = [] := by cases rv2; rfl
  subst e2
  have hs : its.toArray.size ≠ ([] : List Value).toArray.size := by
    cases rv with
    | nil => exact absurd rfl hn
    | cons r t => simp
  have ta : s.TypeIs (.ref a) "list" := ⟨_, ho, rfl⟩
  have tb : s.TypeIs (.ref b) "list" := ⟨_, ho2, rfl⟩
  show wpAny (model X.prog X.w) X.A (richCompare .NotEq (.ref a) (.ref b)) (EP X pins σ Q) X.xe s
  exact wpAny_richCompare_same_room (op := .NotEq) ta tb F.slot_list_ne (call_meetsIn F.slot_list_ne ta F.entry_list_ne (F.args_list_ne_2 _ _) (dif_ne a b _ _ n n2 dd dd2 sl sl2 hs)
    ⟨ho, ho2, show Value.bool true ≠ Value.notImplemented ∧ EP X pins σ Q (.bool true) s from ⟨(fun x => nomatch x), .bl true, H, I, rfl, q⟩⟩) (by omega)
/-- [] -/
def isNilE : Expr → Bool
  | .List [] _ => true
  | _ => false
def oNil (ne : Bool) : D → Sto → QD → Prop := fun x S Q => ∃ ds, lstOf S x = some ds ∧ Q (.bl (ds.isEmpty != ne)) S
theorem nil_ok {X : Cx} {W : WX} (T : List (Addr × Str)) (g : Good X W) (ne : Bool) : ∃ r, OpR X (compareOp (if ne then .NotEq else .Eq)) r ∧ ∀ {F ads S H x v b Qd Q}, Sim (kt X T) F ads S H → Rp (kt X T) F ads x v → H b = some (.lst []) → oNil ne x S Qd → KV (kt X T) F ads H Qd Q → r v (.ref b) H Q := by
  have u64 : X.A.units + 64 < cLine := by have := g.un; omega
  cases ne with
  | false =>
    refine ⟨_, (op_eqD u64).or (op_nilEq u64), fun {F ads S H x v b Qd Q} sm rx hb h kv => ?_⟩
    obtain ⟨ds, hs, hq⟩ := h
    obtain ⟨a, vs, e, hv, rs⟩ := lst_sq sm rx hs
    subst e
    cases rs with
    | nil => exact .inl ⟨.list [], .list [], .lst hv .nil, .lst (SqL.of hb) .nil, rfl, rfl, kv _ _ _ _ _ _ Ext.refl sm (.bl _) hq⟩
    | cons r t => exact .inr ⟨a, b, _, rfl, rfl, hv, hb, by simp, kv _ _ _ _ _ _ Ext.refl sm (.bl _) hq⟩
  | true =>
    refine ⟨_, (op_neD u64).or (op_nilNe u64), fun {F ads S H x v b Qd Q} sm rx hb h kv => ?_⟩
    obtain ⟨ds, hs, hq⟩ := h
    obtain ⟨a, vs, e, hv, rs⟩ := lst_sq sm rx hs
    subst e
    cases rs with
    | nil => exact .inl ⟨.list [], .list [], .lst hv .nil, .lst (SqL.of hb) .nil, rfl, rfl, kv _ _ _ _ _ _ Ext.refl sm (.bl _) hq⟩
    | cons r t => exact .inr ⟨a, b, _, rfl, rfl, hv, hb, by simp, kv _ _ _ _ _ _ Ext.refl sm (.bl _) hq⟩
def DT.nilC (ne : Bool) (a : DE) : DT where
  mt k e := match e with
    | .Compare x [o] [y] _ => o == (if ne then .NotEq else .Eq) && a.mt k x && isNilE y
    | _ => false
  wp := wB (w1 (oNil ne) a.wp)
  rq := a.rq
  ok X W T e h g q := by
    split at h
    · simp only [Bool.and_eq_true, beq_iff_eq] at h
      obtain ⟨⟨rfl, h1⟩, h2⟩ := h
      rename_i x y p
      obtain ⟨pos, rfl⟩ : ∃ pos, y = .List [] pos := by
        unfold isNilE at h2
        split at h2
        · exact ⟨_, rfl⟩
        · cases h2
      obtain ⟨r, ho, hk⟩ := nil_ok (X := X) (W := W) T g ne
      refine PT.imp (pt_cmpR ho (a.ok X W T _ h1 g q) (pe_lst pa_nil) (noSet_marks rfl)) fun σ H Q z => ?_
      obtain ⟨env, S, F, ads, Qd, Xd, er, sm, hw, kv, kx⟩ := tB_of z
      refine ⟨env, S, F, ads, _, Xd, er, sm, hw, fun F1 ads1 S1 H1 d v x1 s1 r1 h1 => ?_, kx⟩
      refine ⟨by show 0 ≤ sizeLine; omega, fun p hp => ?_⟩
      obtain ⟨s2, x2⟩ := s1.frz hp (.lst [])
      exact hk s2 (r1.ext x2) upd_same h1 (kv.ext (x1.trans x2))
    · cases h
/-- x[a:b] of a list, a new list that is changed later -/
def oSlT (lo hi : Option Int) : D → Sto → QD → Prop := fun x S Q => ∃ ds, lstOf S x = some ds ∧ Q (.han S.length) (S ++ [.lst (cutD ds lo hi)])
def wSlT (a : WE) (lo hi : WO) : WE := fun env S Q X => a env S (fun x S1 => lo env S1 (fun l S2 => hi env S2 (fun u S3 => oSlT l u x S3 Q) X) X) X
def DE.slT (a : DE) (lo hi : DO) : DE where
  mt c e := match e with
    | .Subscript x (.Slice l u none _) _ => a.mt c x && lo.mt c l && hi.mt c u
    | _ => false
  wp := wSlT a.wp lo.wp hi.wp
  rq Z := a.rq Z ∧ lo.rq Z ∧ hi.rq Z
  ok X W T e h g q := by
    split at h
    · simp only [Bool.and_eq_true] at h
      refine PE.imp (pe_slice (sl_tupA.or (sl_list.or sl_str)) (a.ok X W T _ h.1.1 g q.1) (lo.ok X W T _ h.1.2 g q.2.1) (hi.ok X W T _ h.2 g q.2.2)) fun σ H Q ⟨env, S, F, ads, Qd, Xd, er, sm, hw, kv, kx⟩ => ?_
      refine ⟨env, S, F, ads, _, Xd, er, sm, hw, fun F1 ads1 S1 H1 d v x1 s1 r1 h1 => ?_, kx⟩
      refine ⟨env, S1, F1, ads1, _, Xd, er.ext x1, s1, h1, fun F2 ads2 S2 H2 l x2 s2 h2 => ?_, kx.ext x1⟩
      refine ⟨env, S2, F2, ads2, _, Xd, er.ext (x1.trans x2), s2, h2, fun F3 ads3 S3 H3 u x3 s3 h3 => ?_, kx.ext (x1.trans x2)⟩
      obtain ⟨ds, hs, hq⟩ := h3
      obtain ⟨a, vs, e, hv, rs⟩ := lst_sq s3 (r1.ext (x2.trans x3)) hs
      refine .inr (.inl ⟨a, vs, e, hv, fun p hp => ?_⟩)
      have pr : ∀ (i : Nat) a, ads3[i]? = some a → (ads3 ++ [p])[i]? = some a := fun i a e => by
        rw [List.getElem?_append_left (List.getElem?_eq_some_iff.mp e).1]; exact e
      obtain ⟨s4, x4⟩ := s3.thw hp (.lst (cutV vs l u)) (.lst (cutD ds l u)) ⟨(s3.fresh hp).2, _, upd_same, (cut_rp rs l u).mono (Same.refl _) pr⟩
      refine kv _ _ _ _ _ _ (((x1.trans x2).trans x3).trans x4) s4 (.han ?_) hq
      rw [← s3.len, List.getElem?_append_right (Nat.le_refl _)]
      simp
    · cases h
theorem y37a (ne : Bool) (a : DE) : (DT.nilC ne a).wp = wB (w1 (oNil ne) a.wp) := rfl
theorem y37b (a : DE) (lo hi : DO) : (DE.slT a lo hi).wp = wSlT a.wp lo.wp hi.wp := rfl
theorem r37a (ne : Bool) (a : DE) (Z : Cy) : (DT.nilC ne a).rq Z = a.rq Z := rfl
theorem r37b (a : DE) (lo hi : DO) (Z : Cy) : (DE.slT a lo hi).rq Z = (a.rq Z ∧ lo.rq Z ∧ hi.rq Z) := rfl
/-! #### HX -/
local macro_rules | `(tactic| walk_at "wp") => `(tactic| try simp only [z0, z1, z2, z3, z4, z5, z6, z7, z8, z9, z10, z11, z12, z13, z14, z15, z16, z17, z18, z19, z20, z21, z22, z23, z24, z25, z26, z27, z28, z29, z30, z31, z32, z33, z34, z35, z36, z37, z38, z39, z40, z41, z42, z43, z44, z45, z46, z47, z48, z49, z50, z51, z52, z53, z54, z55, z56, z57, z58, z59, z60, z61, z62, z63, z64, z65, z66, z67, z68, z69, z70, z71, z72, z73, z74, z75, z76, z77, z78, z79, z80, z81, z82, z83, zg0, zg1, y0, y1, y2, y3, y4, y5, y6, y7, y8, y9, y10, y11, y12, y13, y14, sg0, sg1, sg2, sg3, sg4, sn0, sn1, sn2, sn3, sn4, sn5, sn6, sn7, sn8, sn9, sp1, sp4, si0, si1, si2, si3, si4, sl0, sl1, sl2, sl3, sl4, y15, y16, y17, y18, y19, y20, y21, y22, y23, y25a, y25b, y25c, wZipJ_eq, zipJ_tt, zipJ_lt, y26a, y27a, y28a, y28b, y29a, y30a, y31a, y32a, y32b, y32c, y32d, y32e, y32f, y33a, y33b, y34a, y35a, y36a, oFmt_i, oFmt_s, isCD_t, isCD_s, y37a, y37b, wVar, wFrz, wC, wNil, wCons, w1, w2, w3, wAp, opD, cmD, oNeg, wB, wNotT, boolW, wAndT, wOrT, wNotV, boolV, wAndV, wOrV, wIte, wNo, wSo, wSl, wTup, wLst, wThw, wLof, wCat, wRep, wIsi, wM0, wM1, wIseq, wR1, wR2, wChr, wZip_eq, wEnum, wYes, wComp, wSkip, wSeq, wExpr, wRet, wCont, wSet, wAsg, wPar, wSub, wIf, wFor, wRaise, wCall, wCall0, wTry, wIsX, wIsVE, wLofS, wFld, wSetF, wMet, wMet0, wMake, wLenO, wSrtD, wComp2, wPar3, wRev, wCallT, wSrtQ, wSrtS, wDead, wAskT, wLofR, wSub2, setO, wIsLD, wJn, wJc, wFs, wAug, wIsC, wStar, wSrtKF, wStrO, wSlT, seqOf_tup, seqOf_lst, seqOf_scr, lstOf_lst, lstOf_scr, lstX_lst, tupOf_tup, srcOf_tup, srcOf_lst, srcOf_scr, srcOf_han, srcOk_nil, srcOk_cons, oAdd_ii, oAdd_ss, oAdd_tt, oAdd_ll, oSub_ii, oMul_ii, oMul_ti, oMul_si, oDiv_ii, oMod_ii, oPow_ii, oNeg_i, oEq_ii, oNe_ii, oEq_ss, oNe_ss, oI_ii, oIs_n, oIsNot_n, oIs_b, oIsNot_b, isNon_n, isNon_b, isNon_i, isNon_s, isNon_t, isNon_l, isNon_h, oIx_t, oIx_l, oIx_s, oLen_t, oLen_l, oLen_s, oLen_str, oAbs_i, oTuple_l, oTuple_t, oSl_t, oSl_l, oInt_i, oInt_b, compGo_nil, compGo_cons, forGo_nil, forGo_cons, wipeD_nil, wipeD_cons, range_3, range_2, range_1, enumD_nil, enumD_1, enumD_2, enumD_3, zipD_nil, zipD_cons, oMin_ii, oRev_t, oNe_iN, oEq_iN, ctOf, startD, List.map_cons, List.map_nil, List.length_cons, List.length_nil, List.cons_append, List.nil_append, List.append_nil, List.replicate, Nat.reduceAdd, Nat.reduceSub, Nat.sub_self, Nat.zero_add, List.getElem?_cons_zero, List.getElem?_cons_succ, List.getElem?_nil, List.set_cons_zero, List.set_cons_succ, ex_eq, ex_and, Option.some.injEq, exists_eq_left', exists_eq_left, exists_eq_right, D.bl.injEq, D.int.injEq, D.str.injEq, D.tup.injEq, D.lst.injEq, D.han.injEq, O.ins.injEq, O.lst.injEq, atI_0, atI_1, atI_2, reduceIte, zip_tt, zip_ll, ty_n, ty_b, ty_i, ty_s, ty_t, ty_l, ty_f, kit_ii, kit_ib, kit_bb, kit_bi, kit_it, kit_tt, kit_ti, kit_tb, kit_lt, kit_li, kit_st, kit_si, kit_ss, kit_nt, kit_ni, kit_fi, kit_ft, kit_is, kit_ns, kit_bt, oLen_V, Int.toNat_natCast, cut_t0, cut_t1, cut_t2, cut_f1, cut_f2, cut_f3, m2_0, m2_1, m2_2, List.take_succ_cons, List.take_zero, List.drop_succ_cons, List.drop_zero, List.take_nil, List.drop_nil, decide_true, decide_false, Bool.not_true, Bool.not_false, if_true, if_false, Bool.false_eq_true, Int.cast_ofNat_Int, Int.reduceEq, Int.reduceLT, Int.reduceLE, Int.reduceToNat, Int.reduceNeg, Nat.reduceEqDiff, decide_eq_true_eq, true_and, and_true, List.cons.injEq, and_self, Int.reduceSub, Int.reduceAdd, Int.reduceMul])
local macro_rules | `(tactic| walk_at "wps") => `(tactic| simp only [z0, z1, z2, z3, z4, z5, z6, z7, z8, z9, z10, z11, z12, z13, z14, z15, z16, z17, z18, z19, z20, z21, z22, z23, z24, z25, z26, z27, z28, z29, z30, z31, z32, z33, z34, z35, z36, z37, z38, z39, z40, z41, z42, z43, z44, z45, z46, z47, z48, z49, z50, z51, z52, z53, z54, z55, z56, z57, z58, z59, z60, z61, z62, z63, z64, z65, z66, z67, z68, z69, z70, z71, z72, z73, z74, z75, z76, z77, z78, z79, z80, z81, z82, z83, zg0, zg1, y0, y1, y2, y3, y4, y5, y6, y7, y8, y9, y10, y11, y12, y13, y14, sg0, sg1, sg2, sg3, sg4, sn0, sn1, sn2, sn3, sn4, sn5, sn6, sn7, sn8, sn9, sp1, sp4, si0, si1, si2, si3, si4, sl0, sl1, sl2, sl3, sl4, y15, y16, y17, y18, y19, y20, y21, y22, y23, y25a, y25b, y25c, wZipJ_eq, zipJ_tt, zipJ_lt, y26a, y27a, y28a, y28b, y29a, y30a, y31a, y32a, y32b, y32c, y32d, y32e, y32f, y33a, y33b, y34a, y35a, y36a, oFmt_i, oFmt_s, isCD_t, isCD_s, y37a, y37b, wVar, wFrz, wC, wNil, wCons, w1, w2, w3, wAp, opD, cmD, oNeg, wB, wNotT, boolW, wAndT, wOrT, wNotV, boolV, wAndV, wOrV, wIte, wNo, wSo, wSl, wTup, wLst, wThw, wLof, wCat, wRep, wIsi, wM0, wM1, wIseq, wR1, wR2, wChr, wZip_eq, wEnum, wYes, wComp, wSkip, wSeq, wExpr, wRet, wCont, wSet, wAsg, wPar, wSub, wIf, wFor, wRaise, wCall, wCall0, wTry, wIsX, wIsVE, wLofS, wFld, wSetF, wMet, wMet0, wMake, wLenO, wSrtD, wComp2, wPar3, wRev, wCallT, wSrtQ, wSrtS, wDead, wAskT, wLofR, wSub2, setO, wIsLD, wJn, wJc, wFs, wAug, wIsC, wStar, wSrtKF, wStrO, wSlT, seqOf_tup, seqOf_lst, seqOf_scr, lstOf_lst, lstOf_scr, lstX_lst, tupOf_tup, srcOf_tup, srcOf_lst, srcOf_scr, srcOf_han, srcOk_nil, srcOk_cons, oAdd_ii, oAdd_ss, oAdd_tt, oAdd_ll, oSub_ii, oMul_ii, oMul_ti, oMul_si, oDiv_ii, oMod_ii, oPow_ii, oNeg_i, oEq_ii, oNe_ii, oEq_ss, oNe_ss, oI_ii, oIs_n, oIsNot_n, oIs_b, oIsNot_b, isNon_n, isNon_b, isNon_i, isNon_s, isNon_t, isNon_l, isNon_h, oIx_t, oIx_l, oIx_s, oLen_t, oLen_l, oLen_s, oLen_str, oAbs_i, oTuple_l, oTuple_t, oSl_t, oSl_l, oInt_i, oInt_b, compGo_nil, compGo_cons, forGo_nil, forGo_cons, wipeD_nil, wipeD_cons, range_3, range_2, range_1, enumD_nil, enumD_1, enumD_2, enumD_3, zipD_nil, zipD_cons, oMin_ii, oRev_t, oNe_iN, oEq_iN, ctOf, startD, List.map_cons, List.map_nil, List.length_cons, List.length_nil, List.cons_append, List.nil_append, List.append_nil, List.replicate, Nat.reduceAdd, Nat.reduceSub, Nat.sub_self, Nat.zero_add, List.getElem?_cons_zero, List.getElem?_cons_succ, List.getElem?_nil, List.set_cons_zero, List.set_cons_succ, ex_eq, ex_and, Option.some.injEq, exists_eq_left', exists_eq_left, exists_eq_right, D.bl.injEq, D.int.injEq, D.str.injEq, D.tup.injEq, D.lst.injEq, D.han.injEq, O.ins.injEq, O.lst.injEq, atI_0, atI_1, atI_2, reduceIte, zip_tt, zip_ll, ty_n, ty_b, ty_i, ty_s, ty_t, ty_l, ty_f, kit_ii, kit_ib, kit_bb, kit_bi, kit_it, kit_tt, kit_ti, kit_tb, kit_lt, kit_li, kit_st, kit_si, kit_ss, kit_nt, kit_ni, kit_fi, kit_ft, kit_is, kit_ns, kit_bt, oLen_V, Int.toNat_natCast, cut_t0, cut_t1, cut_t2, cut_f1, cut_f2, cut_f3, m2_0, m2_1, m2_2, List.take_succ_cons, List.take_zero, List.drop_succ_cons, List.drop_zero, List.take_nil, List.drop_nil, decide_true, decide_false, Bool.not_true, Bool.not_false, if_true, if_false, Bool.false_eq_true, Int.cast_ofNat_Int, Int.reduceEq, Int.reduceLT, Int.reduceLE, Int.reduceToNat, Int.reduceNeg, Nat.reduceEqDiff, decide_eq_true_eq, true_and, and_true, List.cons.injEq, and_self, Int.reduceSub, Int.reduceAdd, Int.reduceMul, *])
local macro_rules | `(tactic| walk_at "wpf") => `(tactic| try simp only [z0, z1, z2, z3, z4, z5, z6, z7, z8, z9, z10, z11, z12, z13, z14, z15, z16, z17, z18, z19, z20, z21, z22, z23, z24, z25, z26, z27, z28, z29, z30, z31, z32, z33, z34, z35, z36, z37, z38, z39, z40, z41, z42, z43, z44, z45, z46, z47, z48, z49, z50, z51, z52, z53, z54, z55, z56, z57, z58, z59, z60, z61, z62, z63, z64, z65, z66, z67, z68, z69, z70, z71, z72, z73, z74, z75, z76, z77, z78, z79, z80, z81, z82, z83, zg0, zg1, y0, y1, y2, y3, y4, y5, y6, y7, y8, y9, y10, y11, y12, y13, y14, sg0, sg1, sg2, sg3, sg4, sn0, sn1, sn2, sn3, sn4, sn5, sn6, sn7, sn8, sn9, sp1, sp4, si0, si1, si2, si3, si4, sl0, sl1, sl2, sl3, sl4, y15, y16, y17, y18, y19, y20, y21, y22, y23, y25a, y25b, y25c, wZipJ_eq, zipJ_tt, zipJ_lt, y26a, y27a, y28a, y28b, y29a, y30a, y31a, y32a, y32b, y32c, y32d, y32e, y32f, y33a, y33b, y34a, y35a, y36a, oFmt_i, oFmt_s, isCD_t, isCD_s, y37a, y37b, wVar, wFrz, wC, wNil, wCons, w1, w2, w3, wAp, opD, cmD, oNeg, wB, wNotT, boolW, wAndT, wOrT, wNotV, boolV, wAndV, wOrV, wIte, wNo, wSo, wSl, wTup, wLst, wThw, wLof, wCat, wRep, wIsi, wM0, wM1, wIseq, wR1, wR2, wChr, wZip_eq, wEnum, wYes, wComp, wSkip, wSeq, wExpr, wRet, wCont, wSet, wAsg, wPar, wSub, wIf, wFor, wRaise, wCall, wCall0, wTry, wIsX, wIsVE, wLofS, wFld, wSetF, wMet, wMet0, wMake, wLenO, wSrtD, wComp2, wPar3, wRev, wCallT, wSrtQ, wSrtS, wDead, wAskT, wLofR, wSub2, setO, wIsLD, wJn, wJc, wFs, wAug, wIsC, wStar, wSrtKF, wStrO, wSlT, seqOf_tup, seqOf_lst, seqOf_scr, lstOf_lst, lstOf_scr, lstX_lst, tupOf_tup, srcOf_tup, srcOf_lst, srcOf_scr, srcOf_han, srcOk_nil, srcOk_cons, oAdd_ii, oAdd_ss, oAdd_tt, oAdd_ll, oSub_ii, oMul_ii, oMul_ti, oMul_si, oDiv_ii, oMod_ii, oPow_ii, oNeg_i, oEq_ii, oNe_ii, oEq_ss, oNe_ss, oI_ii, oIs_n, oIsNot_n, oIs_b, oIsNot_b, isNon_n, isNon_b, isNon_i, isNon_s, isNon_t, isNon_l, isNon_h, oIx_t, oIx_l, oIx_s, oLen_t, oLen_l, oLen_s, oLen_str, oAbs_i, oTuple_l, oTuple_t, oSl_t, oSl_l, oInt_i, oInt_b, compGo_nil, compGo_cons, wipeD_nil, wipeD_cons, range_3, range_2, range_1, enumD_nil, enumD_1, enumD_2, enumD_3, zipD_nil, zipD_cons, oMin_ii, oRev_t, oNe_iN, oEq_iN, ctOf, startD, List.map_cons, List.map_nil, List.length_cons, List.length_nil, List.cons_append, List.nil_append, List.append_nil, List.replicate, Nat.reduceAdd, Nat.reduceSub, Nat.sub_self, Nat.zero_add, List.getElem?_cons_zero, List.getElem?_cons_succ, List.getElem?_nil, List.set_cons_zero, List.set_cons_succ, ex_eq, ex_and, Option.some.injEq, exists_eq_left', exists_eq_left, exists_eq_right, D.bl.injEq, D.int.injEq, D.str.injEq, D.tup.injEq, D.lst.injEq, D.han.injEq, O.ins.injEq, O.lst.injEq, atI_0, atI_1, atI_2, reduceIte, zip_tt, zip_ll, ty_n, ty_b, ty_i, ty_s, ty_t, ty_l, ty_f, kit_ii, kit_ib, kit_bb, kit_bi, kit_it, kit_tt, kit_ti, kit_tb, kit_lt, kit_li, kit_st, kit_si, kit_ss, kit_nt, kit_ni, kit_fi, kit_ft, kit_is, kit_ns, kit_bt, oLen_V, Int.toNat_natCast, cut_t0, cut_t1, cut_t2, cut_f1, cut_f2, cut_f3, m2_0, m2_1, m2_2, List.take_succ_cons, List.take_zero, List.drop_succ_cons, List.drop_zero, List.take_nil, List.drop_nil, decide_true, decide_false, Bool.not_true, Bool.not_false, if_true, if_false, Bool.false_eq_true, Int.cast_ofNat_Int, Int.reduceEq, Int.reduceLT, Int.reduceLE, Int.reduceToNat, Int.reduceNeg, Nat.reduceEqDiff, decide_eq_true_eq, true_and, and_true, List.cons.injEq, and_self, Int.reduceSub, Int.reduceAdd, Int.reduceMul])
local macro_rules | `(tactic| walk_at "wpe") => `(tactic| simp only [z0, z1, z2, z3, z4, z5, z6, z7, z8, z9, z10, z11, z12, z13, z14, z15, z16, z17, z18, z19, z20, z21, z22, z23, z24, z25, z26, z27, z28, z29, z30, z31, z32, z33, z34, z35, z36, z37, z38, z39, z40, z41, z42, z43, z44, z45, z46, z47, z48, z49, z50, z51, z52, z53, z54, z55, z56, z57, z58, z59, z60, z61, z62, z63, z64, z65, z66, z67, z68, z69, z70, z71, z72, z73, z74, z75, z76, z77, z78, z79, z80, z81, z82, z83, zg0, zg1, y0, y1, y2, y3, y4, y5, y6, y7, y8, y9, y10, y11, y12, y13, y14, sg0, sg1, sg2, sg3, sg4, sn0, sn1, sn2, sn3, sn4, sn5, sn6, sn7, sn8, sn9, sp1, sp4, si0, si1, si2, si3, si4, sl0, sl1, sl2, sl3, sl4, y15, y16, y17, y18, y19, y20, y21, y22, y23, y25a, y25b, y25c, wZipJ_eq, zipJ_tt, zipJ_lt, y26a, y27a, y28a, y28b, y29a, y30a, y31a, y32a, y32b, y32c, y32d, y32e, y32f, y33a, y33b, y34a, y35a, y36a, oFmt_i, oFmt_s, isCD_t, isCD_s, y37a, y37b, wVar, wFrz, wC, wNil, wCons, w1, w2, w3, wAp, opD, cmD, oNeg, wB, wNotT, boolW, wAndT, wOrT, wNotV, boolV, wAndV, wOrV, wIte, wNo, wSo, wSl, wTup, wLst, wThw, wLof, wCat, wRep, wIsi, wM0, wM1, wIseq, wR1, wR2, wChr, wZip_eq, wEnum, wYes, wComp, wSkip, wSeq, wExpr, wRet, wCont, wSet, wAsg, wPar, wSub, wIf, wFor, wRaise, wCall, wCall0, wTry, wIsX, wIsVE, wLofS, wFld, wSetF, wMet, wMet0, wMake, wLenO, wSrtD, wComp2, wPar3, wRev, wCallT, wSrtQ, wSrtS, wDead, wAskT, wLofR, wSub2, setO, wIsLD, wJn, wJc, wFs, wAug, wIsC, wStar, wSrtKF, wStrO, wSlT, seqOf_tup, seqOf_lst, seqOf_scr, lstOf_lst, lstOf_scr, lstX_lst, tupOf_tup, srcOf_tup, srcOf_lst, srcOf_scr, srcOf_han, srcOk_nil, srcOk_cons, oAdd_ii, oAdd_ss, oAdd_tt, oAdd_ll, oSub_ii, oMul_ii, oMul_ti, oMul_si, oDiv_ii, oMod_ii, oPow_ii, oNeg_i, oEq_ii, oNe_ii, oEq_ss, oNe_ss, oI_ii, oIs_n, oIsNot_n, oIs_b, oIsNot_b, isNon_n, isNon_b, isNon_i, isNon_s, isNon_t, isNon_l, isNon_h, oIx_t, oIx_l, oIx_s, oLen_t, oLen_l, oLen_s, oLen_str, oAbs_i, oTuple_l, oTuple_t, oSl_t, oSl_l, oInt_i, oInt_b, compGo_nil, compGo_cons, wipeD_nil, wipeD_cons, range_3, range_2, range_1, enumD_nil, enumD_1, enumD_2, enumD_3, zipD_nil, zipD_cons, oMin_ii, oRev_t, oNe_iN, oEq_iN, ctOf, startD, List.map_cons, List.map_nil, List.length_cons, List.length_nil, List.cons_append, List.nil_append, List.append_nil, List.replicate, Nat.reduceAdd, Nat.reduceSub, Nat.sub_self, Nat.zero_add, List.getElem?_cons_zero, List.getElem?_cons_succ, List.getElem?_nil, List.set_cons_zero, List.set_cons_succ, ex_eq, ex_and, Option.some.injEq, exists_eq_left', exists_eq_left, exists_eq_right, D.bl.injEq, D.int.injEq, D.str.injEq, D.tup.injEq, D.lst.injEq, D.han.injEq, O.ins.injEq, O.lst.injEq, atI_0, atI_1, atI_2, reduceIte, zip_tt, zip_ll, ty_n, ty_b, ty_i, ty_s, ty_t, ty_l, ty_f, kit_ii, kit_ib, kit_bb, kit_bi, kit_it, kit_tt, kit_ti, kit_tb, kit_lt, kit_li, kit_st, kit_si, kit_ss, kit_nt, kit_ni, kit_fi, kit_ft, kit_is, kit_ns, kit_bt, oLen_V, Int.toNat_natCast, cut_t0, cut_t1, cut_t2, cut_f1, cut_f2, cut_f3, m2_0, m2_1, m2_2, List.take_succ_cons, List.take_zero, List.drop_succ_cons, List.drop_zero, List.take_nil, List.drop_nil, decide_true, decide_false, Bool.not_true, Bool.not_false, if_true, if_false, Bool.false_eq_true, Int.cast_ofNat_Int, Int.reduceEq, Int.reduceLT, Int.reduceLE, Int.reduceToNat, Int.reduceNeg, Nat.reduceEqDiff, decide_eq_true_eq, true_and, and_true, List.cons.injEq, and_self, Int.reduceSub, Int.reduceAdd, Int.reduceMul])
local macro_rules | `(tactic| walk_at "wpc") => `(tactic| try simp only [z0, z1, z2, z3, z4, z5, z6, z7, z8, z9, z10, z11, z12, z13, z14, z15, z16, z17, z18, z19, z20, z21, z22, z23, z24, z25, z26, z27, z28, z29, z30, z31, z32, z33, z34, z35, z36, z37, z38, z39, z40, z41, z42, z43, z44, z45, z46, z47, z48, z49, z50, z51, z52, z53, z54, z55, z56, z57, z58, z59, z60, z61, z62, z63, z64, z65, z66, z67, z68, z69, z70, z71, z72, z73, z74, z75, z76, z77, z78, z79, z80, z81, z82, z83, zg0, zg1, y0, y1, y2, y3, y4, y5, y6, y7, y8, y9, y10, y11, y12, y13, y14, sg0, sg1, sg2, sg3, sg4, sn0, sn1, sn2, sn3, sn4, sn5, sn6, sn7, sn8, sn9, sp1, sp4, si0, si1, si2, si3, si4, sl0, sl1, sl2, sl3, sl4, y15, y16, y17, y18, y19, y20, y21, y22, y23, y25a, y25b, y25c, wZipJ_eq, zipJ_tt, zipJ_lt, y26a, y27a, y28a, y28b, y29a, y30a, y31a, y32a, y32b, y32c, y32d, y32e, y32f, y33a, y33b, y34a, y35a, y36a, oFmt_i, oFmt_s, isCD_t, isCD_s, y37a, y37b, wVar, wFrz, wC, wNil, wCons, w1, w2, w3, wAp, opD, cmD, oNeg, wB, wNotT, boolW, wAndT, wOrT, wNotV, boolV, wAndV, wOrV, wIte, wNo, wSo, wSl, wTup, wLst, wThw, wLof, wCat, wRep, wIsi, wM0, wM1, wIseq, wR1, wR2, wChr, wZip_eq, wEnum, wYes, wComp, wSkip, wSeq, wExpr, wRet, wCont, wSet, wAsg, wPar, wSub, wIf, wFor, wRaise, wCall, wCall0, wTry, wIsX, wIsVE, wLofS, wFld, wSetF, wMet, wMet0, wMake, wLenO, wSrtD, wComp2, wPar3, wRev, wCallT, wSrtQ, wSrtS, wDead, wAskT, wLofR, wSub2, setO, wIsLD, wJn, wJc, wFs, wAug, wIsC, wStar, wSrtKF, wStrO, wSlT, seqOf_tup, seqOf_lst, seqOf_scr, lstOf_lst, lstOf_scr, lstX_lst, tupOf_tup, srcOf_tup, srcOf_lst, srcOf_scr, srcOf_han, srcOk_nil, srcOk_cons, oAdd_ii, oAdd_ss, oAdd_tt, oAdd_ll, oSub_ii, oMul_ii, oMul_ti, oMul_si, oDiv_ii, oMod_ii, oPow_ii, oNeg_i, oEq_ii, oNe_ii, oEq_ss, oNe_ss, oI_ii, oIs_n, oIsNot_n, oIs_b, oIsNot_b, isNon_n, isNon_b, isNon_i, isNon_s, isNon_t, isNon_l, isNon_h, oIx_t, oIx_l, oIx_s, oLen_t, oLen_l, oLen_s, oLen_str, oAbs_i, oTuple_l, oTuple_t, oSl_t, oSl_l, oInt_i, oInt_b, wipeD_nil, wipeD_cons, range_3, range_2, range_1, enumD_nil, enumD_1, enumD_2, enumD_3, zipD_nil, zipD_cons, oMin_ii, oRev_t, oNe_iN, oEq_iN, ctOf, startD, List.map_cons, List.map_nil, List.length_cons, List.length_nil, List.cons_append, List.nil_append, List.append_nil, List.replicate, Nat.reduceAdd, Nat.reduceSub, Nat.sub_self, Nat.zero_add, List.getElem?_cons_zero, List.getElem?_cons_succ, List.getElem?_nil, List.set_cons_zero, List.set_cons_succ, ex_eq, ex_and, Option.some.injEq, exists_eq_left', exists_eq_left, exists_eq_right, D.bl.injEq, D.int.injEq, D.str.injEq, D.tup.injEq, D.lst.injEq, D.han.injEq, O.ins.injEq, O.lst.injEq, atI_0, atI_1, atI_2, reduceIte, zip_tt, zip_ll, ty_n, ty_b, ty_i, ty_s, ty_t, ty_l, ty_f, kit_ii, kit_ib, kit_bb, kit_bi, kit_it, kit_tt, kit_ti, kit_tb, kit_lt, kit_li, kit_st, kit_si, kit_ss, kit_nt, kit_ni, kit_fi, kit_ft, kit_is, kit_ns, kit_bt, oLen_V, Int.toNat_natCast, cut_t0, cut_t1, cut_t2, cut_f1, cut_f2, cut_f3, m2_0, m2_1, m2_2, List.take_succ_cons, List.take_zero, List.drop_succ_cons, List.drop_zero, List.take_nil, List.drop_nil, decide_true, decide_false, Bool.not_true, Bool.not_false, if_true, if_false, Bool.false_eq_true, Int.cast_ofNat_Int, Int.reduceEq, Int.reduceLT, Int.reduceLE, Int.reduceToNat, Int.reduceNeg, Nat.reduceEqDiff, decide_eq_true_eq, true_and, and_true, List.cons.injEq, and_self, Int.reduceSub, Int.reduceAdd, Int.reduceMul])
/-! ### sessions: redo, ==, str -/
/-- what redo leaves -/
def redoV (s : SV) (cur' : List (List Int)) (un' : List D) (o : Op) : SV := ⟨s.n, cur', s.er ++ [.tup (s.cur.map VE)], s.dn ++ [eOp.e o], un', s.e, s.d, s.u⟩
def unE (p : Op × List (List Int)) : D := .tup [eOp.e p.1, .tup (p.2.map VE)]
def c_Session_redo : Ct := fun ds S Q X => ∃ (i : Nat) (s : SV), ds = [.han i] ∧ Ses S i s ∧ s.er.length ≤ 1000 ∧ s.dn.length ≤ 1000 ∧ ((s.un = [] ∧ X "NothingToUndo" S) ∨
  ∃ (o : Op) (un' : List D) (cur' : List (List Int)), s.un = un' ++ [unE (o, cur')] ∧ ∀ S', Ses S' i (redoV s cur' un' o) → Frm [i, s.e, s.d, s.u] S S' → Q (opNm o) S')
/-- Session_redo -/
def N_Session_redo : List Str := ["self", "operation", "vectors"]
def b_Session_redo : DB := (DB.cons (DS.iff (DT.nilC false (DE.fld "Session" (DE.var 0) "undone")) (DB.cons (DS.raise "NothingToUndo")
  DB.nil) DB.nil)
  (DB.cons (DS.asg (DG.tp (DGs.cons 1 (DGs.cons 2 DGs.nil))) (DE.pop (DE.fld "Session" (DE.var 0) "undone")))
  (DB.cons (DS.expr (DE.append (DE.fld "Session" (DE.var 0) "earlier") (DE.fld "Session" (DE.var 0) "current")))
  (DB.cons (DS.fld "Session" (DE.var 0) "current" (DE.var 2))
  (DB.cons (DS.expr (DE.append (DE.fld "Session" (DE.var 0) "done") (DE.var 1)))
  (DB.cons (DS.ret (DE.ix (DE.var 1) (DE.con (.int 0))))
  DB.nil))))))
theorem w_Session_redo {ds : List D} {S : Sto} {Q : QD} {X : XD} (h : c_Session_redo ds S Q X) : ctOf N_Session_redo.length b_Session_redo ds S Q X := by
  obtain ⟨i, s, rfl, hs, l1, l2, h⟩ := h
  have a1 := hs.ins; have a2 := hs.her; have a3 := hs.hdn; have a4 := hs.hun
  have n1 : i ≠ s.e := fun e => by rw [e, a2] at a1; cases a1
  have n2 : i ≠ s.d := fun e => by rw [e, a3] at a1; cases a1
  have n4 : i ≠ s.u := fun e => by rw [e, a4] at a1; cases a1
  have i1 : i < S.length := (List.getElem?_eq_some_iff.mp a1).1
  have i2 : s.e < S.length := (List.getElem?_eq_some_iff.mp a2).1
  have i3 : s.d < S.length := (List.getElem?_eq_some_iff.mp a3).1
  have i4 : s.u < S.length := (List.getElem?_eq_some_iff.mp a4).1
  have n3 := hs.ed
  have n5 := hs.eu
  have n6 := hs.du
  unfold b_Session_redo N_Session_redo
  walk_at "wpc"
  refine ⟨_, a1, _, sg4 _ _ _ _ _, s.un, by simp [lstOf, a4], ?_⟩
  rcases h with ⟨h1, hx⟩ | ⟨o, un', cur', h1, h⟩
  · rw [h1]
    walk_at "wpc"
    exact hx
  rw [h1] at a4 ⊢
  refine ⟨false, by simp, ?_⟩
  rw [if_neg (by simp)]
  refine ⟨_, a1, _, sg4 _ _ _ _ _, by simp [recD, a4], ?_⟩
  refine ⟨un' ++ [unE (o, cur')], unE (o, cur'), a4, by simp, ?_⟩
  rw [List.dropLast_concat]
  generalize hT : S.set s.u (.lst un') = T
  have t0 : T.length = S.length := by rw [← hT]; simp
  have t1 : T[i]? = some (.ins "Session" (sesF (.int s.n) (.tup (s.cur.map VE)) (.han s.e) (.han s.d) (.han s.u))) := by rw [← hT, List.getElem?_set_ne (Ne.symm n4)]; exact a1
  have t2 : T[s.e]? = some (.lst s.er) := by rw [← hT, List.getElem?_set_ne (Ne.symm n5)]; exact a2
  have t3 : T[s.d]? = some (.lst s.dn) := by rw [← hT, List.getElem?_set_ne (Ne.symm n6)]; exact a3
  have t4 : T[s.u]? = some (.lst un') := by rw [← hT, List.getElem?_set_self i4]
  have t5 : ∀ j, j ≠ s.u → T[j]? = S[j]? := fun j h => by rw [← hT, List.getElem?_set_ne (Ne.symm h)]
  refine ⟨[some (.han i), some (eOp.e o), some (.tup (cur'.map VE))], rfl, ?_⟩
  walk_at "wpc"
  refine ⟨_, t1, _, sg2 _ _ _ _ _, by simp [recD, t2], _, t1, _, sg1 _ _ _ _ _, ?_⟩
  refine ⟨s.er, t2, szLt (by omega), ?_⟩
  generalize hU : T.set s.e (.lst (s.er ++ [.tup (s.cur.map VE)])) = U
  have u0 : U.length = S.length := by rw [← hU]; simp [t0]
  have u1 : U[i]? = some (.ins "Session" (sesF (.int s.n) (.tup (s.cur.map VE)) (.han s.e) (.han s.d) (.han s.u))) := by rw [← hU, List.getElem?_set_ne (Ne.symm n1)]; exact t1
  have u2 : U[s.e]? = some (.lst (s.er ++ [.tup (s.cur.map VE)])) := by rw [← hU, List.getElem?_set_self (by omega)]
  have u3 : U[s.d]? = some (.lst s.dn) := by rw [← hU, List.getElem?_set_ne n3]; exact t3
  have u4 : U[s.u]? = some (.lst un') := by rw [← hU, List.getElem?_set_ne n5]; exact t4
  have u5 : ∀ j, j ≠ s.e → j ≠ s.u → U[j]? = S[j]? := fun j h1 h2 => by rw [← hU, List.getElem?_set_ne (Ne.symm h1)]; exact t5 j h2
  refine ⟨_, u1, by rw [sl0]; omega, ?_⟩
  rw [sp1]
  generalize hV : U.set i (.ins "Session" (sesF (.int s.n) (.tup (cur'.map VE)) (.han s.e) (.han s.d) (.han s.u))) = V
  have v0 : V.length = S.length := by rw [← hV]; simp [u0]
  have v1 : V[i]? = some (.ins "Session" (sesF (.int s.n) (.tup (cur'.map VE)) (.han s.e) (.han s.d) (.han s.u))) := by rw [← hV, List.getElem?_set_self (by omega)]
  have v2 : V[s.e]? = some (.lst (s.er ++ [.tup (s.cur.map VE)])) := by rw [← hV, List.getElem?_set_ne n1]; exact u2
  have v3 : V[s.d]? = some (.lst s.dn) := by rw [← hV, List.getElem?_set_ne n2]; exact u3
  have v4 : V[s.u]? = some (.lst un') := by rw [← hV, List.getElem?_set_ne n4]; exact u4
  have v5 : ∀ j, j ≠ i → j ≠ s.e → j ≠ s.u → V[j]? = S[j]? := fun j h1 h2 h3 => by rw [← hV, List.getElem?_set_ne (Ne.symm h1)]; exact u5 j h2 h3
  refine ⟨_, v1, _, sg3 _ _ _ _ _, by simp [recD, v3], ?_⟩
  refine ⟨s.dn, v3, szLt (by omega), ?_⟩
  refine opNm_at o _ _ (h _ ⟨?_, ?_, ?_, ?_, n3, n5, n6⟩ ⟨by simp [v0], fun j hj nj => ?_⟩)
  · rw [List.getElem?_set_ne (Ne.symm n2)]; exact v1
  · show (_ : Sto)[s.e]? = _
    rw [List.getElem?_set_ne (Ne.symm n3)]; exact v2
  · show (_ : Sto)[s.d]? = _
    rw [List.getElem?_set_self (by omega)]; rfl
  · show (_ : Sto)[s.u]? = _
    rw [List.getElem?_set_ne n6]; exact v4
  · simp only [List.mem_cons, List.not_mem_nil, or_false, not_or] at nj
    rw [List.getElem?_set_ne (Ne.symm nj.2.2.1)]
    exact v5 j nj.1 nj.2.1 nj.2.2.2
/-- two lists of the store -/
theorem oEq_hh {α : Type} [DecidableEq α] (E : Enc α) (hn : E.n ≤ 50) {S : Sto} {i j : Nat} {l m : List α} (h : S[i]? = some (.lst (l.map E.e))) (h' : S[j]? = some (.lst (m.map E.e))) {Q : QD} (q : Q (.bl (decide (l = m))) S) : oEq (.han i) (.han j) S Q := by
  have h1 : pyOf S (.han i) = some ((eL E).p l) := by
    unfold pyOf
    simp only [h]
    exact (eL E).hp l
  have h2 : pyOf S (.han j) = some ((eL E).p m) := by
    unfold pyOf
    simp only [h']
    exact (eL E).hp m
  refine ⟨_, _, h1, h2, (eL E).shp (by show E.n + 1 ≤ 60; omega) _, (eL E).shp (by show E.n + 1 ≤ 60; omega) _, ?_⟩
  rw [(eL E).eq l m]
  exact q
theorem lg_nat {a : Nat} (h : a ≤ 1000000) : ((a : Nat) : Int).natAbs.log2 < 1920 := by
  rw [Int.natAbs_natCast]
  by_cases z : a = 0
  · subst z; decide
  · exact (Nat.log2_lt z).mpr (Nat.lt_of_le_of_lt h (Nat.lt_of_lt_of_le (by decide : 1000000 < 2 ^ 20) (Nat.pow_le_pow_right (by omega) (by omega))))
def grC : List Nat := [32, 103, 101, 110, 101, 114, 97, 116, 111, 114, 115, 44, 32, 114, 97, 110, 107, 32]
theorem gr_S : (" generators, rank " : Str) = SX.S grC := by decide +kernel
theorem emp_S : Str.empty = SX.S [] := rfl
def strT (a b : Nat) : Str := ((Str.empty ++ (toString (a : Int) : Str)) ++ " generators, rank ") ++ (toString (b : Int) : Str)
def c_Session___eq__ : Ct := fun ds S Q _ => ∃ (i : Nat) (s : SV) (ops : List Op) (y : D), ds = [.han i, y] ∧ Ses S i s ∧ s.dn = ops.map eOp.e ∧ ((∃ (j : Nat) (t : SV) (ops2 : List Op), y = .han j ∧ Ses S j t ∧ t.dn = ops2.map eOp.e ∧ Q (.bl (decide (s.n = t.n) && decide (ops = ops2))) S) ∨
  (isCD "Session" S y = some false ∧ Q (.bl false) S))
/-- Session___eq__ -/
def N_Session___eq__ : List Str := ["self", "other"]
def b_Session___eq__ : DB := (DB.cons (DS.ret (DE.bool (DV.cons (DE.isC "Session" (DE.var 1)) (DV.cons (DE.cmp .Eq (DE.fld "Session" (DE.var 0) "size") (DE.fld "Session" (DE.var 1) "size")) (DV.one .And (DE.cmp .Eq (DE.fld "Session" (DE.var 0) "done") (DE.fld "Session" (DE.var 1) "done")))))))
  DB.nil)
theorem w_Session___eq__ {ds : List D} {S : Sto} {Q : QD} {X : XD} (h : c_Session___eq__ ds S Q X) : ctOf N_Session___eq__.length b_Session___eq__ ds S Q X := by
  obtain ⟨i, s, ops, y, rfl, hs, ho, h⟩ := h
  unfold b_Session___eq__ N_Session___eq__
  walk_at "wpc"
  rcases h with ⟨j, t, ops2, rfl, ht, ho2, h⟩ | ⟨hc, h⟩
  · refine ⟨true, by simp [isCD, ht.ins], ?_⟩
    rw [if_pos rfl]
    refine ⟨_, hs.ins, _, sg0 _ _ _ _ _, j, rfl, _, ht.ins, _, sg0 _ _ _ _ _, ?_⟩
    rw [oEq_ii]
    refine ⟨_, rfl, ?_⟩
    have en : decide ((s.n : Int) = (t.n : Int)) = decide (s.n = t.n) := by
      by_cases e : s.n = t.n
      · simp [e]
      · have : ¬ (s.n : Int) = t.n := by omega
        simp [e, this]
    rw [en]
    by_cases e : s.n = t.n
    · rw [if_pos (by simp [e])]
      refine ⟨_, hs.ins, _, sg3 _ _ _ _ _, j, rfl, _, ht.ins, _, sg3 _ _ _ _ _, ?_⟩
      simp only [e, decide_true, Bool.true_and] at h
      exact oEq_hh eOp (by decide) (by rw [← ho]; exact hs.hdn) (by rw [← ho2]; exact ht.hdn) h
    · rw [if_neg (by simp [e])]
      simpa [e] using h
  · refine ⟨false, hc, ?_⟩
    simpa using h
def c_Session___str__ : Ct := fun ds S Q _ => ∃ (i : Nat) (s : SV), ds = [.han i] ∧ Ses S i s ∧ SOk s ∧ ∀ F, IsNF s.n s.cur F → Q (.str (strT s.cur.length F.length)) S
/-- Session___str__ -/
def N_Session___str__ : List Str := ["self"]
def b_Session___str__ : DB := (DB.cons (DS.ret (DE.fstr (DJ.cons (DE.fmt (DE.len (DA.cons (DE.fld "Session" (DE.var 0) "current") DA.nil))) (DJ.cons (DE.con (.str " generators, rank ")) (DJ.cons (DE.fmt (DE.len (DA.cons (DE.met0 "Session" "rows" c_Session_rows (DE.var 0)) DA.nil))) DJ.nil)))))
  DB.nil)
theorem w_Session___str__ {ds : List D} {S : Sto} {Q : QD} {X : XD} (h : c_Session___str__ ds S Q X) : ctOf N_Session___str__.length b_Session___str__ ds S Q X := by
  obtain ⟨i, s, rfl, hs, ok, h⟩ := h
  unfold b_Session___str__ N_Session___str__
  walk_at "wpc"
  refine ⟨_, hs.ins, _, sg1 _ _ _ _ _, ?_⟩
  walk_at "wpc"
  rw [List.length_map]
  have few := ok.few
  have k1 : (TL.numL s.cur.length).length ≤ 2 := TL.numL_len (by omega) (by omega)
  refine ⟨lg_nat (by omega), ?_, ?_, ?_⟩
  · rw [SX.num_S, emp_S, SX.S_cat, SX.S_len]
    simp only [List.nil_append]
    rw [sizeLine_eq]; omega
  · rw [SX.num_S, emp_S, gr_S, SX.S_cat, SX.S_cat, SX.S_len]
    simp only [List.nil_append, List.length_append, grC, List.length_cons, List.length_nil]
    rw [sizeLine_eq]; omega
  refine ⟨_, hs.ins, rfl, i, s, rfl, hs, ok, fun F hF hb => ?_⟩
  walk_at "wpc"
  rw [List.length_map]
  have hl : F.length ≤ 3 := (nf_gen ok.len ok.n3 hF hb).2.1
  have k2 : (TL.numL F.length).length ≤ 2 := TL.numL_len (by omega) (by omega)
  refine ⟨lg_nat (by omega), ?_, h F hF⟩
  rw [SX.num_S, SX.num_S, emp_S, gr_S, SX.S_cat, SX.S_cat, SX.S_cat, SX.S_len]
  simp only [List.nil_append, List.length_append, grC, List.length_cons, List.length_nil]
  rw [sizeLine_eq]; omega
/-! #### HY -/
/-! ### operations drawn -/
def c__law_do : Ct := fun ds S Q X => ∃ (i : Nat) (a : D), (ds = [.han i, .str "add", a] ∧ c_Session_add [.han i, a] S Q X) ∨ (ds = [.han i, .str "remove", a] ∧ c_Session_remove [.han i, a] S Q X)
/-- _law_do -/
def N__law_do : List Str := ["session", "name", "argument"]
def b__law_do : DB := (DB.cons (DS.ret (DE.ite (DT.cmp .Eq (DE.var 1) (DE.con (.str "add"))) (DE.met "Session" "add" c_Session_add (DE.var 0) (DA.cons (DE.var 2) DA.nil)) (DE.met "Session" "remove" c_Session_remove (DE.var 0) (DA.cons (DE.var 2) DA.nil))))
  DB.nil)
theorem w__law_do {ds : List D} {S : Sto} {Q : QD} {X : XD} (h : c__law_do ds S Q X) : ctOf N__law_do.length b__law_do ds S Q X := by
  obtain ⟨i, a, ⟨rfl, h⟩ | ⟨rfl, h⟩⟩ := h
  · unfold b__law_do N__law_do
    obtain ⟨i', s, d, e, hs, r⟩ := id h
    cases e
    walk_at "wpc"
    exact ⟨_, hs.ins, rfl, h⟩
  · unfold b__law_do N__law_do
    obtain ⟨i', s, d, e, hs, r⟩ := id h
    cases e
    walk_at "wpc"
    rw [if_neg (by decide)]
    exact ⟨_, hs.ins, rfl, h⟩
def c__law_back : Ct := fun ds S Q X => ∃ (i w : Nat), ds = [.int (w : Nat), .han i] ∧ ((w = 0 ∧ c_Session_undo [.han i] S Q X) ∨ (w ≠ 0 ∧ c_Session_redo [.han i] S Q X))
/-- _law_back -/
def N__law_back : List Str := ["way", "session"]
def b__law_back : DB := (DB.cons (DS.ret (DE.ite (DT.cmp .Eq (DE.var 0) (DE.con (.int 0))) (DE.met0 "Session" "undo" c_Session_undo (DE.var 1)) (DE.met0 "Session" "redo" c_Session_redo (DE.var 1))))
  DB.nil)
theorem w__law_back {ds : List D} {S : Sto} {Q : QD} {X : XD} (h : c__law_back ds S Q X) : ctOf N__law_back.length b__law_back ds S Q X := by
  obtain ⟨i, w, rfl, ⟨rfl, h⟩ | ⟨hw, h⟩⟩ := h
  · unfold b__law_back N__law_back
    obtain ⟨i', s, e, hs, r⟩ := id h
    cases e
    walk_at "wpc"
    exact ⟨_, hs.ins, rfl, h⟩
  · unfold b__law_back N__law_back
    obtain ⟨i', s, e, hs, r⟩ := id h
    cases e
    walk_at "wpc"
    have : ¬ ((w : Nat) : Int) = 0 := by omega
    simp only [this, decide_false, Bool.false_eq_true, if_false]
    exact ⟨_, hs.ins, rfl, h⟩
/-- an operation drawn: the town alone is touched -/
def c__law_edit : Ct := fun ds S Q _ => ∃ (ns : List Int) (k n B : Nat) (cur : List (List Int)), ds = [.scr (ns.map .int), .han 0, .int (n : Nat), .tup (cur.map VE)] ∧ Tw ns (k + 20) S ∧ 1 ≤ n ∧ n ≤ 3 ∧ Len n cur ∧ (∀ u ∈ cur, Bd B u) ∧ B ≤ 1000000 ∧ cur.length ≤ 8 ∧
  (∀ (j : Nat) S', j < cur.length → Tw ns k S' → Frm [0] S S' → S'.length = S.length → Q (.tup [.str "remove", .int (j : Nat), .tup ((cur.eraseIdx j).map VE)]) S') ∧
  (cur.length < 8 → ∀ (v : List Int) S', v.length = n → Bd (6 + 2 * B) v → Tw ns k S' → Frm [0] S S' → S'.length = S.length → Q (.tup [.str "add", VE v, .tup ((cur ++ [v]).map VE)]) S')
/-- _law_edit -/
def N__law_edit : List Str := ["script", "town", "n", "vectors", "number", "vector", "k", "entry"]
def b__law_edit_c3 : DB := (DB.cons (DS.ret (DE.tup (DA.cons (DE.con (.str "add")) (DA.cons (DE.var 5) (DA.cons (DE.op .Add (DE.var 3) (DE.tup (DA.cons (DE.var 5) DA.nil))) DA.nil)))))
  DB.nil)
def b__law_edit_c2 : DB := (DB.cons (DS.iff (DT.bool (DW.cons (DT.cmp .NotEq (DE.var 3) (DE.tup DA.nil)) (DW.one .And (DT.cmp .Eq (DE.call "_law_draw" c__law_draw (DA.cons (DE.var 0) (DA.cons (DE.var 1) (DA.cons (DE.con (.int 3)) DA.nil)))) (DE.con (.int 0)))))) (DB.cons (DS.set 5 (DE.tuple (DA.cons (DE.lst (DL.comp [("entry", 7)] (DG.nm 7) (DI.seq (DE.ix (DE.var 3) (DE.call "_law_draw" c__law_draw (DA.cons (DE.var 0) (DA.cons (DE.var 1) (DA.cons (DE.len (DA.cons (DE.var 3) DA.nil)) DA.nil)))))) DF.no (DE.op .Mult (DE.con (.int 2)) (DE.var 7)))) DA.nil)))
  DB.nil) DB.nil)
  b__law_edit_c3)
def b__law_edit_c1 : DB := (DB.cons (DS.set 5 (DE.tuple (DA.cons (DE.lst (DL.comp [("k", 6)] (DG.nm 6) (DI.range1 (DE.var 2)) DF.no (DE.op .Sub (DE.call "_law_draw" c__law_draw (DA.cons (DE.var 0) (DA.cons (DE.var 1) (DA.cons (DE.con (.int 13)) DA.nil)))) (DE.con (.int 6))))) DA.nil)))
  b__law_edit_c2)
def b__law_edit : DB := (DB.cons (DS.iff (DT.bool (DW.cons (DT.cmp .Eq (DE.len (DA.cons (DE.var 3) DA.nil)) (DE.con (.int 8))) (DW.one .Or (DT.bool (DW.cons (DT.cmp .NotEq (DE.var 3) (DE.tup DA.nil)) (DW.one .And (DT.cmp .Eq (DE.call "_law_draw" c__law_draw (DA.cons (DE.var 0) (DA.cons (DE.var 1) (DA.cons (DE.con (.int 4)) DA.nil)))) (DE.con (.int 0))))))))) (DB.cons (DS.set 4 (DE.call "_law_draw" c__law_draw (DA.cons (DE.var 0) (DA.cons (DE.var 1) (DA.cons (DE.len (DA.cons (DE.var 3) DA.nil)) DA.nil)))))
  (DB.cons (DS.ret (DE.tup (DA.cons (DE.con (.str "remove")) (DA.cons (DE.var 4) (DA.cons (DE.op .Add (DE.sl (DE.var 3) DO.no (DO.so (DE.var 4))) (DE.sl (DE.var 3) (DO.so (DE.op .Add (DE.var 4) (DE.con (.int 1)))) DO.no)) DA.nil)))))
  DB.nil)) DB.nil)
  b__law_edit_c1)
structure TwF (ns : List Int) (S0 : Sto) (k : Nat) (S : Sto) : Prop where
  tw : Tw ns k S
  fr : Frm [0] S0 S
  ln : S.length = S0.length
theorem TwF.draw {ns : List Int} {S0 : Sto} {k : Nat} {S : Sto} {limit : Int} {Q : QD} {X : XD} (t : TwF ns S0 (k + 1) S) (h0 : 0 < limit) (hl : limit ≤ 1000000000) (q : ∀ (r : Int) (S' : Sto), 0 ≤ r → r < limit → TwF ns S0 k S' → Q (.int r) S') : c__law_draw [.scr (ns.map .int), .han 0, .int limit] S Q X :=
  t.tw.drawF h0 hl fun r S' r0 r1 t' f l => q r S' r0 r1 ⟨t', t.fr.trans f, l.trans t.ln⟩
theorem TwF.mono {ns : List Int} {S0 : Sto} {j k : Nat} {S : Sto} (t : TwF ns S0 k S) (h : j ≤ k) : TwF ns S0 j S := ⟨t.tw.mono h, t.fr, t.ln⟩
theorem edit_rem {ns : List Int} {S0 S : Sto} {k : Nat} {cur : List (List Int)} {Q : QD} {X : XD} (t : TwF ns S0 (k + 1) S) (few : cur.length ≤ 8) (h0 : 0 < cur.length)
    (h1 : ∀ (j : Nat) S', j < cur.length → TwF ns S0 k S' → Q (.tup [.str "remove", .int (j : Nat), .tup ((cur.eraseIdx j).map VE)]) S') :
    c__law_draw [.scr (ns.map .int), .han 0, .int ((cur.map VE).length : Nat)] S (fun d S1 => ∃ i, d = .int i ∧ oAdd d (.int 1) S1 fun d1 S1 => ∃ i1, d1 = .int i1 ∧ (cutD (cur.map VE) none (some i)).length + (cutD (cur.map VE) (some i1) none).length ≤ sizeLine ∧
      Q (.tup [.str "remove", d, .tup (cutD (cur.map VE) none (some i) ++ cutD (cur.map VE) (some i1) none)]) S1) X := by
  rw [List.length_map]
  refine t.draw (by omega) (by omega) fun r S' r0 r1 t' => ?_
  obtain ⟨j, rfl⟩ : ∃ j : Nat, r = j := ⟨r.toNat, by omega⟩
  refine ⟨_, rfl, ?_⟩
  rw [oAdd_ii]
  refine ⟨_, rfl, ?_⟩
  rw [cut_to, show ((j : Int) + 1) = ((j + 1 : Nat) : Int) by omega, cut_from]
  rw [← List.map_take, ← List.map_drop]
  refine ⟨by simp only [List.length_map, List.length_take, List.length_drop]; exact szLe (by omega), ?_⟩
  rw [← List.map_append, erase_take]
  exact h1 j S' (by omega) t'
theorem w__law_edit {ds : List D} {S : Sto} {Q : QD} {X : XD} (h : c__law_edit ds S Q X) : ctOf N__law_edit.length b__law_edit ds S Q X := by
  obtain ⟨ns, k, n, B, cur, rfl, t, n1, n3, hl, hb, hB, few, h1, h2⟩ := h
  have t0 : TwF ns S (k + 20) S := ⟨t, Frm.refl _ _, rfl⟩
  have h1 : ∀ (j : Nat) S', j < cur.length → TwF ns S k S' → Q (.tup [.str "remove", .int (j : Nat), .tup ((cur.eraseIdx j).map VE)]) S' := fun j S' hj q => h1 j S' hj q.tw q.fr q.ln
  have h2 : cur.length < 8 → ∀ (v : List Int) S', v.length = n → Bd (6 + 2 * B) v → TwF ns S k S' → Q (.tup [.str "add", VE v, .tup ((cur ++ [v]).map VE)]) S' := fun h v S' e1 e2 q => h2 h v S' e1 e2 q.tw q.fr q.ln
  clear t
  unfold b__law_edit N__law_edit
  walk_at "wpc"
  by_cases h8 : cur.length = 8
  · rw [if_pos (by rw [List.length_map]; omega)]
    exact edit_rem (k := k) (t0.mono (by omega)) few (by omega) h1
  rw [if_neg (by rw [List.length_map]; omega)]
  -- a vector is added
  have add : ∀ (a4 a5 a6 a7 : Option D) (S1 : Sto), TwF ns S (k + 18) S1 → b__law_edit_c1.wp { nx := fun x S' => Q D.non S', rt := Q, xq := fun x x_1 S' => X x S' } [some (.scr (ns.map .int)), some (.han 0), some (.int n), some (.tup (cur.map VE)), a4, a5, a6, a7] S1 := by
    intro a4 a5 a6 a7 S1 t1
    unfold b__law_edit_c1
    walk_at "wpc"
    refine ⟨by omega, by omega, by rw [range_len]; exact szLe (by omega), ?_⟩
    refine compGo_dr (fun j : Nat => D.int (0 + (j : Nat))) D.int (fun _ x => x.natAbs ≤ 6) (fun k T => TwF ns S k T) (k + 4) 1 (List.range n) [] S1 (t1.mono (by rw [List.length_range]; omega)) (fun a ha j S' t' => ⟨_, rfl, fun Qd hq => ?_⟩) fun xs S' hx t' => ?_
    · walk_at "wpc"
      refine t'.draw (by omega) (by omega) fun r S3 r0 r1 t3 => ?_
      walk_at "wpc"
      exact hq _ _ (by omega) t3
    have lx : xs.length = n := by have := hx.len; rwa [List.length_range] at this
    have bx : Bd (6 + 2 * B) xs := fun x hx' => by
      obtain ⟨_, _, p⟩ := hx.mem x hx'
      omega
    have lc : cur.length < 8 := by omega
    have fin : ∀ (a4 a6 a7 : Option D) (v : List Int) (S2 : Sto), v.length = n → Bd (6 + 2 * B) v → TwF ns S k S2 → b__law_edit_c3.wp { nx := fun x S' => Q D.non S', rt := Q, xq := fun x x_1 S' => X x S' } [some (.scr (ns.map .int)), some (.han 0), some (.int n), some (.tup (cur.map VE)), a4, some (VE v), a6, a7] S2 := by
      intro a4 a6 a7 v S2 lv bv t2
      unfold b__law_edit_c3
      walk_at "wpc"
      refine ⟨szLe (by simp; omega), ?_⟩
      have := h2 lc v S2 lv bv t2
      rw [List.map_append] at this
      exact this
    rw [List.nil_append]
    unfold b__law_edit_c2
    walk_at "wpc"
    refine oNe_M cur [] _ _ ⟨_, rfl, ?_⟩
    by_cases hc : cur = []
    · rw [if_neg (by simp [hc])]
      exact fin _ _ _ xs _ lx bx (t'.mono (by omega))
    · rw [if_pos (by simp [hc])]
      have l0 : 0 < cur.length := by
        cases cur with
        | nil => exact absurd rfl hc
        | cons _ _ => simp
      refine (t'.mono (show (k + 3) + 1 ≤ k + 4 by omega)).draw (by omega) (by omega) fun r S2 r0 r1 t2 => ?_
      rw [oEq_ii]
      refine ⟨_, rfl, ?_⟩
      by_cases e : r = 0
      · rw [if_pos (by simp [e])]
        rw [List.length_map]
        refine (t2.mono (show (k + 2) + 1 ≤ k + 3 by omega)).draw (by omega) (by omega) fun r2 S3 r2a r2b t3 => ?_
        obtain ⟨j, rfl⟩ : ∃ j : Nat, r2 = j := ⟨r2.toNat, by omega⟩
        have hj : j < cur.length := by omega
        rw [ix_M hj]
        have mj : cur[j] ∈ cur := List.getElem_mem hj
        have lj : (cur[j]).length = n := hl _ mj
        have bj : Bd B cur[j] := hb _ mj
        refine ⟨(cur[j]).map .int, rfl, by rw [List.length_map]; exact szLe (by omega), ?_⟩
        show compGo _ _ _ _ [] _ _ _ _
        refine compGo_all0 D.int (fun x => .int (2 * x)) cur[j] (fun x hx => ⟨_, rfl, fun Qd hq => ?_⟩) ?_
        · walk_at "wpc"
          have h2 : Sm 2 2 := by unfold Sm; decide
          have hx2 : Sm 20 x := by
            have := bj x hx
            unfold Sm
            omega
          exact ⟨h2.ok hx2 (by omega), hq⟩
        rw [show ((cur[j]).map fun x => D.int (2 * x)) = ((cur[j]).map fun x => 2 * x).map .int by rw [List.map_map]; rfl]
        refine fin _ _ _ ((cur[j]).map fun x => 2 * x) _ (by rw [List.length_map]; exact lj) (fun x hx => ?_) (t3.mono (by omega))
        obtain ⟨y, hy, rfl⟩ := List.mem_map.mp hx
        have := bj y hy
        omega
      · rw [if_neg (by simp [e])]
        exact fin _ _ _ xs _ lx bx (t2.mono (by omega))
  refine oNe_M cur [] _ _ ⟨_, rfl, ?_⟩
  by_cases hc : cur = []
  · rw [if_neg (by simp [hc])]
    exact add _ _ _ _ _ (t0.mono (by omega))
  · rw [if_pos (by simp [hc])]
    have l0 : 0 < cur.length := by
      cases cur with
      | nil => exact absurd rfl hc
      | cons _ _ => simp
    refine (t0.mono (show (k + 18) + 1 ≤ k + 20 by omega)).draw (by omega) (by omega) fun r S1 r0 r1 t1 => ?_
    rw [oEq_ii]
    refine ⟨_, rfl, ?_⟩
    by_cases e : r = 0
    · rw [if_pos (by simp [e])]
      exact edit_rem (k := k) (t1.mono (by omega)) few l0 h1
    · rw [if_neg (by simp [e])]
      exact add _ _ _ _ _ t1
/-! #### HZ -/
/-! ### the history of a session -/
def app1 (c : List (List Int)) : Op → List (List Int)
  | .add v => c ++ [v]
  | .rem k => c.eraseIdx k.toNat
def st (l : List Op) : List (List Int) := l.foldl app1 []
theorem st_snoc (l : List Op) (o : Op) : st (l ++ [o]) = app1 (st l) o := by simp [st]
/-- may be done at the state c -/
def okOp (n : Nat) (c : List (List Int)) : Op → Prop
  | .add v => isV n v = true ∧ c.length < 8
  | .rem k => ∃ j : Nat, k = j ∧ j < c.length
/-- all may be done, one after the other, from l0 on -/
def okOps (n : Nat) : List Op → List Op → Prop
  | _, [] => True
  | l0, o :: r => okOp n (st l0) o ∧ okOps n (l0 ++ [o]) r
theorem okOps_app {n : Nat} : ∀ {a b l0 : List Op}, okOps n l0 (a ++ b) ↔ okOps n l0 a ∧ okOps n (l0 ++ a) b
  | [], b, l0 => by simp [okOps]
  | o :: a, b, l0 => by
    rw [List.cons_append]
    show okOp n (st l0) o ∧ okOps n (l0 ++ [o]) (a ++ b) ↔ (okOp n (st l0) o ∧ okOps n (l0 ++ [o]) a) ∧ okOps n (l0 ++ o :: a) b
    rw [okOps_app (a := a), List.append_assoc, List.singleton_append, and_assoc]
theorem st_ok {n : Nat} : ∀ {r l0 : List Op}, (Len n (st l0) ∧ (∀ u ∈ st l0, Bd 1000000 u) ∧ (st l0).length ≤ 8) → okOps n l0 r → Len n (st (l0 ++ r)) ∧ (∀ u ∈ st (l0 ++ r), Bd 1000000 u) ∧ (st (l0 ++ r)).length ≤ 8
  | [], l0, h, _ => by simpa using h
  | o :: r, l0, ⟨h1, h2, h3⟩, h => by
    obtain ⟨ho, hr⟩ := h
    have key : Len n (st (l0 ++ [o])) ∧ (∀ u ∈ st (l0 ++ [o]), Bd 1000000 u) ∧ (st (l0 ++ [o])).length ≤ 8 := by
      rw [st_snoc]
      cases o with
      | add v =>
        obtain ⟨hv, hl⟩ := ho
        refine ⟨fun u hu => ?_, fun u hu => ?_, by simp [app1]; omega⟩
        · rcases List.mem_append.mp hu with q | q
          · exact h1 u q
          · have : u = v := by simpa using q
            subst this
            have := (isV_bd hv).1
            omega
        · rcases List.mem_append.mp hu with q | q
          · exact h2 u q
          · have : u = v := by simpa using q
            subst this
            exact (isV_bd hv).2
      | rem k =>
        refine ⟨fun u hu => h1 u (List.mem_of_mem_eraseIdx hu), fun u hu => h2 u (List.mem_of_mem_eraseIdx hu), ?_⟩
        have := List.length_eraseIdx_le (st l0) k.toNat
        simp only [app1]; omega
    have := st_ok (r := r) key hr
    rwa [List.append_assoc, List.singleton_append] at this
theorem st_nil {n : Nat} : Len n (st []) ∧ (∀ u ∈ st [], Bd 1000000 u) ∧ (st []).length ≤ 8 := ⟨fun u hu => (by cases hu), fun u hu => (by cases hu), (by simp [st])⟩
/-- the generators before each operation -/
def erL (ops : List Op) : List D := (List.range ops.length).map fun k => .tup ((st (ops.take k)).map VE)
theorem erL_snoc (ops : List Op) (o : Op) : erL (ops ++ [o]) = erL ops ++ [.tup ((st ops).map VE)] := by
  unfold erL
  rw [List.length_append, List.length_singleton, List.range_succ, List.map_append]
  congr 1
  · refine List.map_congr_left fun k hk => ?_
    have := List.mem_range.mp hk
    rw [List.take_append_of_le_length (by omega)]
  · simp
theorem erL_len (ops : List Op) : (erL ops).length = ops.length := by simp [erL]
/-- what can be redone, the next one last -/
def unL : List Op → List Op → List D
  | _, [] => []
  | base, o :: r => unL (base ++ [o]) r ++ [unE (o, st (base ++ [o]))]
theorem unL_len : ∀ (r base : List Op), (unL base r).length = r.length
  | [], _ => rfl
  | o :: r, base => by simp [unL, unL_len r]
structure Hs (s : SV) (ops r : List Op) : Prop where
  n1 : 1 ≤ s.n
  n3 : s.n ≤ 3
  ok : okOps s.n [] (ops ++ r)
  few : ops.length + r.length ≤ 100
  cur : s.cur = st ops
  er : s.er = erL ops
  dn : s.dn = ops.map eOp.e
  un : s.un = unL ops r
theorem Hs.ok1 {s : SV} {ops r : List Op} (h : Hs s ops r) : okOps s.n [] ops := (okOps_app.mp h.ok).1
theorem Hs.sok {s : SV} {ops r : List Op} (h : Hs s ops r) : SOk s := by
  obtain ⟨h1, h2, h3⟩ := st_ok (n := s.n) (r := ops) (l0 := []) st_nil h.ok1
  rw [List.nil_append, ← h.cur] at h1 h2 h3
  have := h.few
  exact ⟨h.n1, h.n3, h1, h2, h3, by rw [h.er, erL_len]; omega, by rw [h.dn, List.length_map]; omega⟩
/-- an operation is done -/
theorem Hs.add {s : SV} {ops r : List Op} {i : Nat} {v : List Int} {S : Sto} {Q : QD} {X : XD} (h : Hs s ops r) (hs : Ses S i s) (hv : isV s.n v = true) (hl : s.cur.length < 8) (hf : ops.length < 100)
    (q : ∀ (b : Bool) (S' : Sto) (s' : SV), (b = false ↔ Lat s.n s.cur v) → Ses S' i s' → Hs s' (ops ++ [.add v]) [] → s'.n = s.n → s'.e = s.e → s'.d = s.d → s'.u = S.length → Frm [i, s.e, s.d] S S' → Q (.bl b) S') : c_Session_add [.han i, VE v] S Q X := by
  have n3 := h.n3
  refine ⟨i, s, VE v, rfl, hs, h.sok, okVec_V (by have := (isV_bd hv).1; omega), ?_⟩
  rw [if_pos (by rw [isVD_V]; exact hv), if_neg (by omega)]
  intro v' ev hv' b hb S' h1 h2
  have ev' : v = v' := by
    have := congrArg toV ev
    rwa [toV_V, toV_V] at this
  subst ev'
  refine q b S' _ hb h1 ⟨h.n1, h.n3, ?_, by simp; omega, ?_, ?_, ?_, rfl⟩ rfl rfl rfl rfl h2
  · rw [List.append_nil]
    refine okOps_app.mpr ⟨h.ok1, ⟨⟨hv, ?_⟩, trivial⟩⟩
    rw [List.nil_append, ← h.cur]; exact hl
  · show s.cur ++ [v] = _
    rw [st_snoc, h.cur]; rfl
  · show s.er ++ _ = _
    rw [erL_snoc, h.er, h.cur]
  · show s.dn ++ _ = _
    rw [List.map_append, h.dn]; rfl
theorem Hs.rem {s : SV} {ops r : List Op} {i j : Nat} {S : Sto} {Q : QD} {X : XD} (h : Hs s ops r) (hs : Ses S i s) (hj : j < s.cur.length) (hf : ops.length < 100)
    (q : ∀ (S' : Sto) (s' : SV), Ses S' i s' → Hs s' (ops ++ [.rem j]) [] → s'.n = s.n → s'.e = s.e → s'.d = s.d → s'.u = S.length → Frm [i, s.e, s.d] S S' → Q (VE s.cur[j]) S') : c_Session_remove [.han i, .int (j : Nat)] S Q X := by
  refine ⟨i, s, _, rfl, hs, h.sok, rfl, ?_⟩
  rw [if_pos (by simp [btw]; omega)]
  intro j' hj' ej S' h1 h2
  have ej' : j = j' := by
    have : (j : Int) = j' := by injection ej
    omega
  subst ej'
  refine q S' _ h1 ⟨h.n1, h.n3, ?_, by simp; omega, ?_, ?_, ?_, rfl⟩ rfl rfl rfl rfl h2
  · rw [List.append_nil]
    refine okOps_app.mpr ⟨h.ok1, ⟨⟨j, rfl, ?_⟩, trivial⟩⟩
    rw [List.nil_append, ← h.cur]; exact hj
  · show s.cur.eraseIdx j = _
    rw [st_snoc, h.cur]; rfl
  · show s.er ++ _ = _
    rw [erL_snoc, h.er, h.cur]
  · show s.dn ++ _ = _
    rw [List.map_append, h.dn]; rfl
/-- undone -/
theorem Hs.undo {s : SV} {ops r : List Op} {i : Nat} {S : Sto} {Q : QD} {X : XD} (h : Hs s ops r) (hs : Ses S i s) (q0 : ops = [] → X "NothingToUndo" S)
    (q : ∀ (ops' : List Op) (o : Op) (S' : Sto) (s' : SV), ops = ops' ++ [o] → Ses S' i s' → Hs s' ops' (o :: r) → s'.n = s.n → s'.e = s.e → s'.d = s.d → s'.u = s.u → Frm [i, s.e, s.d, s.u] S S' → Q (opNm o) S') : c_Session_undo [.han i] S Q X := by
  have few := h.few
  refine ⟨i, s, rfl, hs, by rw [h.un, unL_len]; omega, ?_⟩
  rcases List.eq_nil_or_concat ops with e | ⟨ops', o, e⟩
  · exact .inl ⟨by rw [h.dn, e]; rfl, q0 e⟩
  · rw [List.concat_eq_append] at e
    subst e
    refine .inr ⟨o, ops', st ops', erL ops', h.dn, by rw [h.er, erL_snoc], fun S' h1 h2 => q ops' o S' _ rfl h1 ⟨h.n1, h.n3, ?_, ?_, rfl, rfl, rfl, ?_⟩ rfl rfl rfl rfl h2⟩
    · have := h.ok
      rwa [List.append_assoc, List.singleton_append] at this
    · simp only [List.length_append, List.length_singleton] at few
      simp only [List.length_cons]; omega
    · show s.un ++ [_] = unL ops' (o :: r)
      rw [h.un, h.cur]; rfl
theorem Hs.redo {s : SV} {ops r : List Op} {i : Nat} {S : Sto} {Q : QD} {X : XD} (h : Hs s ops r) (hs : Ses S i s) (q0 : r = [] → X "NothingToUndo" S)
    (q : ∀ (o : Op) (r' : List Op) (S' : Sto) (s' : SV), r = o :: r' → Ses S' i s' → Hs s' (ops ++ [o]) r' → s'.n = s.n → s'.e = s.e → s'.d = s.d → s'.u = s.u → Frm [i, s.e, s.d, s.u] S S' → Q (opNm o) S') : c_Session_redo [.han i] S Q X := by
  have few := h.few
  refine ⟨i, s, rfl, hs, by rw [h.er, erL_len]; omega, by rw [h.dn, List.length_map]; omega, ?_⟩
  cases r with
  | nil => exact .inl ⟨by rw [h.un]; rfl, q0 rfl⟩
  | cons o r' =>
    refine .inr ⟨o, unL (ops ++ [o]) r', st (ops ++ [o]), by rw [h.un]; rfl, fun S' h1 h2 => q o r' S' _ rfl h1 ⟨h.n1, h.n3, ?_, ?_, rfl, ?_, ?_, rfl⟩ rfl rfl rfl rfl h2⟩
    · have := h.ok
      rw [List.append_assoc, List.singleton_append]; exact this
    · simp only [List.length_cons] at few
      simp only [List.length_append, List.length_singleton]; omega
    · show s.er ++ [_] = _
      rw [erL_snoc, h.er, h.cur]
    · show s.dn ++ [_] = _
      rw [List.map_append, h.dn]; rfl
theorem Hs.start {S : Sto} {n : Nat} {P : Sto → Prop} {X : XD} (h1 : 1 ≤ n) (h3 : n ≤ 3) (q : ∀ (S' : Sto) (s : SV), Ses S' S.length s → Hs s [] [] → s.n = n → s.e = S.length + 1 → s.d = S.length + 2 → s.u = S.length + 3 → Frm [] S S' → P S') :
    c_Session___init__ [.han S.length, .int n] (S ++ [.ins "Session" []]) (fun v S2 => v = .non ∧ P S2) X := by
  refine ⟨S.length, .int n, rfl, rfl, by simp, ?_⟩
  rw [if_pos (by simp [btw]; omega)]
  intro n' en S' hs hf
  have en' : n = n' := by
    have : (n : Int) = n' := by injection en
    omega
  subst en'
  refine ⟨rfl, q S' _ hs ⟨h1, h3, trivial, by simp, rfl, rfl, rfl, rfl⟩ rfl (by simp) (by simp) (by simp) ⟨by have := hf.1; simp at this; omega, fun j hj nj => ?_⟩⟩
  rw [hf.2 j (by simp; omega) (by simp; omega)]
  exact List.getElem?_append_left hj
theorem Hs.gen {s : SV} {ops r : List Op} {i : Nat} {S : Sto} {Q : QD} {X : XD} (h : Hs s ops r) (hs : Ses S i s) (q : Q (.tup ((st ops).map VE)) S) : c_Session_generators [.han i] S Q X := ⟨i, s, rfl, hs, by rw [h.cur]; exact q⟩
/-! #### IA -/
/-! ### saved sessions as texts -/
def opT : Op → List Nat
  | .add v => [97, 100, 100, 32] ++ vT v
  | .rem k => [114, 101, 109, 111, 118, 101, 32] ++ numT k
theorem add_S : ("add " : Str) = SX.S [97, 100, 100, 32] := by decide +kernel
theorem rem_S : ("remove " : Str) = SX.S [114, 101, 109, 111, 118, 101, 32] := by decide +kernel
theorem ad_S : ("add" : Str) = SX.S [97, 100, 100] := by decide +kernel
theorem re_S : ("remove" : Str) = SX.S [114, 101, 109, 111, 118, 101] := by decide +kernel
theorem q_S : ("?" : Str) = SX.S [63] := by decide +kernel
theorem pi_S : ("|" : Str) = SX.S [124] := by decide +kernel
theorem dot_S : ("." : Str) = SX.S [46] := by decide +kernel
/-- small enough to be written -/
def OpL : Op → Prop
  | .add v => LimV v ∧ v ≠ []
  | .rem k => ∃ j : Nat, k = j ∧ j ≤ 1000
theorem opT_len {o : Op} (h : OpL o) : (opT o).length ≤ 31 := by
  cases o with
  | add v =>
    have := vT_len h.1
    simp [opT]; omega
  | rem k =>
    obtain ⟨j, rfl, hj⟩ := h
    have := numT_len (i := (j : Int)) (by omega)
    simp [opT]; omega
def c_operation_text : Ct := fun ds S Q _ => ∃ o, ds = [eOp.e o] ∧ OpL o ∧ Q (.str (SX.S (opT o))) S
/-- operation_text -/
def N_operation_text : List Str := ["operation"]
def b_operation_text : DB := (DB.cons (DS.ret (DE.ite (DT.cmp .Eq (DE.ix (DE.var 0) (DE.con (.int 0))) (DE.con (.str "add"))) (DE.op .Add (DE.con (.str "add ")) (DE.call "vector_text" c_vector_text (DA.cons (DE.ix (DE.var 0) (DE.con (.int 1))) DA.nil))) (DE.fstr (DJ.cons (DE.con (.str "remove ")) (DJ.cons (DE.fmt (DE.ix (DE.var 0) (DE.con (.int 1)))) DJ.nil)))))
  DB.nil)
theorem w_operation_text {ds : List D} {S : Sto} {Q : QD} {X : XD} (h : c_operation_text ds S Q X) : ctOf N_operation_text.length b_operation_text ds S Q X := by
  obtain ⟨o, rfl, ho, h⟩ := h
  unfold b_operation_text N_operation_text
  cases o with
  | add v =>
    have e : eOp.e (.add v) = .tup [.str "add", VE v] := rfl
    rw [e]
    walk_at "wpc"
    refine ⟨v, rfl, ho.1, ?_⟩
    rw [add_S]
    walk_at "wpc"
    have l := vT_len ho.1
    refine ⟨by rw [SX.S_len, SX.S_len, sizeLine_eq]; simp only [List.length_cons, List.length_nil]; omega, ?_⟩
    rw [SX.S_cat]; exact h
  | rem k =>
    obtain ⟨j, rfl, hj⟩ := ho
    have e : eOp.e (.rem (j : Int)) = .tup [.str "remove", .int (j : Nat)] := rfl
    rw [e]
    walk_at "wpc"
    rw [if_neg (by decide)]
    have l := numT_len (i := (j : Int)) (by omega)
    refine ⟨?_, lg_nat (by omega), ?_, ?_⟩
    · rw [rem_S, emp_S, SX.S_cat, SX.S_len, sizeLine_eq]; decide
    · rw [rem_S, emp_S, SX.S_cat, str_S, SX.S_cat, SX.S_len, sizeLine_eq]
      simp only [List.length_append, List.nil_append, List.length_cons, List.length_nil]; omega
    · rw [rem_S, emp_S, SX.S_cat, str_S, SX.S_cat]; exact h
theorem okOp_lim {n : Nat} {c : List (List Int)} {o : Op} (h1 : 1 ≤ n) (h3 : n ≤ 3) (hc : c.length ≤ 8) (h : okOp n c o) : OpL o := by
  cases o with
  | add v =>
    obtain ⟨l, b⟩ := isV_bd h.1
    refine ⟨⟨by omega, b⟩, fun e => ?_⟩
    subst e
    simp at l; omega
  | rem k =>
    obtain ⟨j, rfl, hj⟩ := h
    exact ⟨j, rfl, by omega⟩
theorem okOps_lim {n : Nat} (h1 : 1 ≤ n) (h3 : n ≤ 3) : ∀ {r l0 : List Op}, (Len n (st l0) ∧ (∀ u ∈ st l0, Bd 1000000 u) ∧ (st l0).length ≤ 8) → okOps n l0 r → ∀ o ∈ r, OpL o
  | [], _, _, _, o, ho => by cases ho
  | a :: r, l0, h, ⟨ha, hr⟩, o, ho => by
    rcases List.mem_cons.mp ho with rfl | q
    · exact okOp_lim h1 h3 h.2.2 ha
    · exact okOps_lim h1 h3 (st_ok (r := [a]) h ⟨ha, trivial⟩) hr o q
theorem Hs.lim {s : SV} {ops r : List Op} (h : Hs s ops r) : ∀ o ∈ ops ++ r, OpL o := okOps_lim h.n1 h.n3 (st_nil (n := s.n)) h.ok
def svT (ops r : List Op) : List (List Nat) := ops.map opT ++ r.map fun o => 63 :: opT o
def saveT (n : Nat) (ops r : List Op) : List Nat := TL.joinL [124] (numT n :: svT ops r) ++ [46]
theorem unL_rev : ∀ (r base : List Op), ∃ cs : List (List (List Int)), cs.length = r.length ∧ (unL base r).reverse = (r.zip cs).map unE
  | [], _ => ⟨[], rfl, rfl⟩
  | o :: r, base => by
    obtain ⟨cs, h1, h2⟩ := unL_rev r (base ++ [o])
    refine ⟨st (base ++ [o]) :: cs, by simp [h1], ?_⟩
    unfold unL
    rw [List.reverse_append, h2]
    rfl
theorem svT_len {ops r : List Op} (h : ∀ o ∈ ops ++ r, OpL o) : ∀ p ∈ svT ops r, p.length ≤ 32 := by
  intro p hp
  rcases List.mem_append.mp hp with q | q
  · obtain ⟨o, ho, rfl⟩ := List.mem_map.mp q
    have := opT_len (h o (List.mem_append_left _ ho)); omega
  · obtain ⟨o, ho, rfl⟩ := List.mem_map.mp q
    have := opT_len (h o (List.mem_append_right _ ho))
    simp; omega
theorem saveT_len {n : Nat} {ops r : List Op} (hn : n ≤ 3) (h : ∀ o ∈ ops ++ r, OpL o) (few : ops.length + r.length ≤ 20) : (saveT n ops r).length ≤ 700 := by
  have := join_len (sep := [124]) (k := 32) (ps := numT n :: svT ops r) fun p hp => by
    rcases List.mem_cons.mp hp with rfl | q
    · have := numT_len (i := (n : Int)) (by omega); omega
    · exact svT_len h p q
  unfold saveT
  simp only [List.length_append, List.length_cons, List.length_nil, svT, List.length_map] at this ⊢
  omega
def c_save : Ct := fun ds S Q _ => ∃ (i : Nat) (s : SV) (ops r : List Op), ds = [.han i] ∧ Ses S i s ∧ Hs s ops r ∧ ops.length + r.length ≤ 20 ∧ ∀ S', Gr S S' → Q (.str (SX.S (saveT s.n ops r))) S'
/-- save -/
def N_save : List Str := ["session", "rows", "operation", "vectors"]
def b_save_c2 : DB := (DB.cons (DS.ret (DE.op .Add (DE.join (DE.con (.str "|")) (DE.op .Add (DE.lst (DL.dis (DA.cons (DE.str (DA.cons (DE.fld "Session" (DE.var 0) "size") DA.nil)) DA.nil))) (DE.var 1))) (DE.con (.str "."))))
  DB.nil)
def b_save_c1 : DB := (DB.cons (DS.expr (DE.extend (DE.var 1) (DE.lst (DL.comp [("operation", 2), ("vectors", 3)] (DG.tp (DGs.cons 2 (DGs.cons 3 DGs.nil))) (DI.seq (DE.rev (DE.fld "Session" (DE.var 0) "undone"))) DF.no (DE.op .Add (DE.con (.str "?")) (DE.call "operation_text" c_operation_text (DA.cons (DE.var 2) DA.nil)))))))
  b_save_c2)
def b_save : DB := (DB.cons (DS.setCT 1 [("operation", 2)] (DG.nm 2) (DI.seq (DE.fld "Session" (DE.var 0) "done")) DF.no (DE.call "operation_text" c_operation_text (DA.cons (DE.var 2) DA.nil)))
  b_save_c1)
theorem w_save {ds : List D} {S : Sto} {Q : QD} {X : XD} (h : c_save ds S Q X) : ctOf N_save.length b_save ds S Q X := by
  obtain ⟨i, s, ops, r, rfl, hs, hh, few, h⟩ := h
  have lim := hh.lim
  have n3 := hh.n3
  unfold b_save N_save
  walk_at "wpc"
  have hd := hs.hdn
  rw [hh.dn] at hd
  refine ⟨_, hs.ins, _, sg3 _ _ _ _ _, ops.map eOp.e, by simp [seqOf, tupOf, lstOf, hd], by rw [List.length_map]; exact szLe (by omega), ?_⟩
  refine compGo_all eOp.e (fun o => .str (SX.S (opT o))) (by simp [srcOf, srcOk, hd]) ops (fun o ho => ⟨_, rfl, fun Qd hq => ?_⟩) ?_
  · walk_at "wpc"
    exact ⟨o, rfl, lim o (List.mem_append_left _ ho), hq⟩
  have il : i < S.length := (List.getElem?_eq_some_iff.mp hs.ins).1
  have app : ∀ (j : Nat) (o : O) (J : Sto), S[j]? = some o → (S ++ J)[j]? = some o := fun j o J e => by rw [List.getElem?_append_left (List.getElem?_eq_some_iff.mp e).1]; exact e
  unfold b_save_c1
  walk_at "wpc"
  refine ⟨by simp [recD], _, app i _ _ hs.ins, _, sg4 _ _ _ _ _, ?_⟩
  obtain ⟨cs, c1, c2⟩ := unL_rev r ops
  have hu := app s.u _ [.lst (ops.map fun o => .str (SX.S (opT o)))] hs.hun
  refine ⟨s.un, by simp [lstOf, hu], ?_⟩
  rw [hh.un, c2]
  walk_at "wpc"
  have lz : (r.zip cs).length = r.length := by rw [List.length_zip]; omega
  refine ⟨by rw [List.length_map]; exact szLe (by omega), ?_⟩
  refine compGo_all0 unE (fun p => .str (SX.S (63 :: opT p.1))) (r.zip cs) (fun p hp => ⟨_, rfl, fun Qd hq => ?_⟩) ?_
  · have hp1 : p.1 ∈ r := (List.of_mem_zip hp).1
    have lo := lim p.1 (List.mem_append_right _ hp1)
    walk_at "wpc"
    refine ⟨p.1, rfl, lo, ?_⟩
    have l := opT_len lo
    rw [q_S]
    walk_at "wpc"
    refine ⟨by rw [SX.S_len, SX.S_len, sizeLine_eq]; simp only [List.length_cons, List.length_nil]; omega, ?_⟩
    rw [SX.S_cat]; exact hq
  have er : (r.zip cs).map (fun p => D.str (SX.S (63 :: opT p.1))) = r.map fun o => D.str (SX.S (63 :: opT o)) := by
    have := congrArg (List.map fun o => D.str (SX.S (63 :: opT o))) (List.map_fst_zip (l₁ := r) (l₂ := cs) (by omega))
    rwa [List.map_map] at this
  rw [er]
  refine ⟨_, _, by rw [List.getElem?_append_right (Nat.le_refl _)]; simp; rfl, rfl, by simp only [List.length_map]; exact szLe (by omega), ?_⟩
  have es : (S ++ [O.lst (ops.map fun o => .str (SX.S (opT o)))]).set S.length (.lst ((ops.map fun o => D.str (SX.S (opT o))) ++ r.map fun o => D.str (SX.S (63 :: opT o)))) = S ++ [.lst ((svT ops r).map fun p => .str (SX.S p))] := by
    rw [List.set_append_right _ _ (Nat.le_refl _)]
    simp [svT]
    rfl
  rw [es]
  unfold b_save_c2
  walk_at "wpc"
  refine ⟨rfl, _, app i _ _ hs.ins, _, sg0 _ _ _ _ _, ?_⟩
  refine oStr_i _ _ _ (by omega) ?_
  have hl : lstX (S ++ [.lst ((svT ops r).map fun p => D.str (SX.S p))]) (.han S.length) = some ((svT ops r).map fun p => D.str (SX.S p)) := lstX_last _ _
  refine ⟨_, _, rfl, hl, by simp only [List.length_map, List.length_cons, List.length_nil, svT, List.length_append]; exact szLe (by omega), ?_⟩
  rw [pi_S]
  have e1 : [D.str (SX.S (numT (s.n : Int)))] ++ (svT ops r).map (fun p => D.str (SX.S p)) = (numT (s.n : Int) :: svT ops r).map fun p => D.str (SX.S p) := rfl
  rw [e1]
  have lr := svT_len lim
  have ln : (svT ops r).length = ops.length + r.length := by simp [svT]
  refine join_call (k := 32) (fun p hp => ?_) (by simp only [List.length_cons, List.length_nil, ln]; omega) ?_
  · rcases List.mem_cons.mp hp with rfl | q
    · have := numT_len (i := (s.n : Int)) (by omega); omega
    · exact lr p q
  have jl := join_len (sep := [124]) (k := 32) (ps := numT s.n :: svT ops r) fun p hp => by
    rcases List.mem_cons.mp hp with rfl | q
    · have := numT_len (i := (s.n : Int)) (by omega); omega
    · exact lr p q
  simp only [List.length_cons, List.length_nil, ln] at jl
  rw [dot_S]
  walk_at "wpc"
  refine ⟨by rw [SX.S_len, SX.S_len, sizeLine_eq]; simp only [List.length_cons, List.length_nil]; omega, ?_⟩
  rw [SX.S_cat]
  exact h _ ⟨_, rfl⟩
/-! #### IB -/
/-! ### saved sessions are loaded -/
theorem opT_add (v : List Int) (h : v ≠ []) : opT (.add v) = TL.joinL [32] ([97, 100, 100] :: v.map numT) := by
  cases v with
  | nil => exact absurd rfl h
  | cons x v => rfl
theorem opT_rem (k : Int) : opT (.rem k) = TL.joinL [32] [[114, 101, 109, 111, 118, 101], numT k] := rfl
theorem no_sp (x : Int) : 32 ∉ numT x := fun h => by
  rcases numT_mem h with q | q <;> omega
def c_perform : Ct := fun ds S Q _ => ∃ (i : Nat) (s : SV) (ops r : List Op) (o : Op), ds = [.han i, .str (SX.S (opT o))] ∧ Ses S i s ∧ Hs s ops r ∧ okOp s.n s.cur o ∧ ops.length < 100 ∧
  ∀ (S' : Sto) (s' : SV), Ses S' i s' → Hs s' (ops ++ [o]) [] → s'.n = s.n → s'.e = s.e → s'.d = s.d → s'.u = S.length → Frm [i, s.e, s.d] S S' → Q .non S'
/-- perform -/
def N_perform : List Str := ["session", "text", "name", "numbers", "word"]
def b_perform_c1 : DB := (DB.cons (DS.iff (DT.cmp .Eq (DE.var 2) (DE.con (.str "add"))) (DB.cons (DS.expr (DE.met "Session" "add" c_Session_add (DE.var 0) (DA.cons (DE.tuple (DA.cons (DE.lst (DL.comp [("word", 4)] (DG.nm 4) (DI.seq (DE.var 3)) DF.no (DE.int (DA.cons (DE.var 4) DA.nil)))) DA.nil)) DA.nil)))
  DB.nil) (DB.cons (DS.expr (DE.met "Session" "remove" c_Session_remove (DE.var 0) (DA.cons (DE.int (DA.cons (DE.ix (DE.var 3) (DE.con (.int 0))) DA.nil)) DA.nil)))
  DB.nil))
  DB.nil)
def b_perform : DB := (DB.cons (DS.star 2 3 (DE.split (DE.var 1) (DE.con (.str " "))))
  b_perform_c1)
theorem w_perform {ds : List D} {S : Sto} {Q : QD} {X : XD} (h : c_perform ds S Q X) : ctOf N_perform.length b_perform ds S Q X := by
  obtain ⟨i, s, ops, r, o, rfl, hs, hh, ho, hf, h⟩ := h
  have ol : OpL o := okOp_lim hh.n1 hh.n3 hh.sok.few ho
  have tl := opT_len ol
  unfold b_perform N_perform
  walk_at "wpc"
  refine ⟨rfl, ?_⟩
  rw [sp_S]
  refine split_call (by simp) (by decide) (by omega) ?_
  cases o with
  | add v =>
    rw [opT_add v ol.2, TL.spl_join (by simp) (fun p hp => by
      rcases List.mem_cons.mp hp with rfl | q
      · decide
      · obtain ⟨x, _, rfl⟩ := List.mem_map.mp q
        exact no_sp x)]
    have lv : v.length ≤ 3 := ol.1.1
    refine ⟨.str (SX.S [97, 100, 100]), (v.map numT).map fun p => .str (SX.S p), rfl, by simp only [List.length_map]; omega, ?_⟩
    unfold b_perform_c1
    rw [← ad_S]
    walk_at "wpc"
    refine ⟨_, hs.ins, rfl, by simp only [List.length_map]; exact szLe (by omega), ?_⟩
    rw [List.map_map]
    refine compGo_all0 (fun x : Int => D.str (SX.S (numT x))) D.int v (fun x hx => ⟨_, rfl, fun Qd hq => ?_⟩) ?_
    · walk_at "wpc"
      obtain ⟨e1, e2⟩ := int_of (rdW_num (ol.1.2 x hx))
      exact ⟨x, e1, by rw [SX.S_len]; omega, hq⟩
    walk_at "wpc"
    refine hh.add hs ho.1 ho.2 hf fun b S' s' _ h1 h2 e1 e2 e3 e4 f => ?_
    exact h S' s' h1 h2 e1 e2 e3 e4 f
  | rem k =>
    obtain ⟨j, rfl, hj⟩ := id ho
    rw [opT_rem, TL.spl_join (by simp) (fun p hp => by
      simp only [List.mem_cons, List.not_mem_nil, or_false] at hp
      rcases hp with rfl | rfl
      · decide
      · exact no_sp _)]
    refine ⟨.str (SX.S [114, 101, 109, 111, 118, 101]), [.str (SX.S (numT (j : Int)))], rfl, by simp, ?_⟩
    unfold b_perform_c1
    rw [← re_S]
    walk_at "wpc"
    rw [if_neg (by decide)]
    obtain ⟨e1, e2⟩ := int_of (rdW_num (i := (j : Int)) (by have := hh.sok.few; omega))
    refine ⟨_, hs.ins, rfl, (j : Int), e1, by rw [SX.S_len]; omega, ?_⟩
    refine hh.rem hs hj hf fun S' s' h1 h2 e1 e2 e3 e4 f => ?_
    exact h S' s' h1 h2 e1 e2 e3 e4 f
def badL (d : D) : Prop := (∃ t, d = .str (SX.S t) ∧ t.length ≤ 1000 ∧ t.drop (t.length - 1) ≠ [46]) ∨ (okD d = true ∧ (∀ z, d ≠ .str z))
def c_load : Ct := fun ds S Q X => ∃ d, ds = [d] ∧ ((badL d ∧ X "InvalidText" S) ∨ ∃ (n : Nat) (ops r : List Op), d = .str (SX.S (saveT n ops r)) ∧ 1 ≤ n ∧ n ≤ 3 ∧ okOps n [] (ops ++ r) ∧ ops.length + r.length ≤ 20 ∧
  ∀ (S' : Sto) (s : SV), Ses S' S.length s → Hs s ops r → s.n = n → S.length < s.e → S.length < s.d → S.length < s.u → Frm [] S S' → Q (.han S.length) S')
/-- load -/
def N_load : List Str := ["text", "size", "rows", "found", "undone", "row", "turn"]
def b_load_f4 : DB := (DB.cons (DS.aug 4 (DE.int (DA.cons (DE.cmp .Eq (DE.sl (DE.var 5) DO.no (DO.so (DE.con (.int 1)))) (DE.con (.str "?"))) DA.nil)))
  (DB.cons (DS.expr (DE.call "perform" c_perform (DA.cons (DE.var 3) (DA.cons (DE.ite (DT.cmp .Eq (DE.sl (DE.var 5) DO.no (DO.so (DE.con (.int 1)))) (DE.con (.str "?"))) (DE.sl (DE.var 5) (DO.so (DE.con (.int 1))) DO.no) (DE.var 5)) DA.nil))))
  DB.nil))
def b_load_c6 : DB := (DB.cons (DS.ret (DE.var 3))
  DB.nil)
def b_load_c5 : DB := (DB.cons (DS.for (DG.nm 6) (DI.range1 (DE.var 4)) (DB.cons (DS.expr (DE.met0 "Session" "undo" c_Session_undo (DE.var 3)))
  DB.nil))
  b_load_c6)
def b_load_c4 : DB := (DB.cons (DS.for (DG.nm 5) (DI.seq (DE.var 2)) b_load_f4)
  b_load_c5)
def b_load_c3 : DB := (DB.cons (DS.set 4 (DE.con (.int 0)))
  b_load_c4)
def b_load_c1 : DB := (DB.cons (DS.star 1 2 (DE.split (DE.sl (DE.var 0) DO.no (DO.so (DE.neg (DE.con (.int 1))))) (DE.con (.str "|"))))
  (DB.cons (DS.set 3 (DE.make "Session" c_Session___init__ (DA.cons (DE.int (DA.cons (DE.var 1) DA.nil)) DA.nil)))
  b_load_c3))
def b_load : DB := (DB.cons (DS.iff (DT.bool (DW.cons (DT.not (DT.val (DE.isStr (DE.var 0)))) (DW.one .Or (DT.cmp .NotEq (DE.sl (DE.var 0) (DO.so (DE.neg (DE.con (.int 1)))) DO.no) (DE.con (.str ".")))))) (DB.cons (DS.raise "InvalidText")
  DB.nil) DB.nil)
  b_load_c1)
theorem cut_last (t : List Nat) : cutS (SX.S t) (some (-1)) none = SX.S (t.drop (t.length - 1)) := by
  rw [C8.cutS_slice]
  cases t with
  | nil => decide +kernel
  | cons a l => exact SX.slice_last (by simp)
theorem cut_but (t : List Nat) : cutS (SX.S (t ++ [46])) none (some (-1)) = SX.S t := by
  rw [C8.cutS_slice]; exact SX.butlast_snoc t 46
theorem dec_S (a b : List Nat) : decide (SX.S a = SX.S b) = decide (a = b) := by
  by_cases e : a = b
  · simp [e]
  · have : ¬ SX.S a = SX.S b := fun h => e (SX.S_inj h)
    simp [e, this]
/-- the rows of a saved text: an operation, to be undone or not -/
def rw1 (p : Bool × Op) : List Nat := if p.1 then 63 :: opT p.2 else opT p.2
def itm (ops r : List Op) : List (Bool × Op) := ops.map (fun o => (false, o)) ++ r.map fun o => (true, o)
theorem svT_itm (ops r : List Op) : svT ops r = (itm ops r).map rw1 := by
  simp [svT, itm, rw1, Function.comp_def]
theorem opT_head (o : Op) : ∃ c l, opT o = c :: l ∧ c ≠ 63 ∧ c ≠ 124 := by
  cases o with
  | add v => exact ⟨97, _, rfl, by decide, by decide⟩
  | rem k => exact ⟨114, _, rfl, by decide, by decide⟩
theorem numT_free {x : Int} {c : Nat} (h1 : c ≠ 45) (h2 : c < 48 ∨ 57 < c) : c ∉ numT x := fun h => by
  rcases numT_mem h with q | q <;> omega
theorem join_mem {sep : List Nat} {c : Nat} : ∀ {ps : List (List Nat)}, c ∈ TL.joinL sep ps → c ∈ sep ∨ ∃ p ∈ ps, c ∈ p
  | [], h => by simp [TL.joinL] at h
  | [p], h => .inr ⟨p, by simp, h⟩
  | p :: q :: r, h => by
    have h : c ∈ p ++ (sep ++ TL.joinL sep (q :: r)) := h
    rcases List.mem_append.mp h with h | h
    · exact .inr ⟨p, by simp, h⟩
    · rcases List.mem_append.mp h with h | h
      · exact .inl h
      · rcases join_mem h with h | ⟨x, hx, hc⟩
        · exact .inl h
        · exact .inr ⟨x, List.mem_cons_of_mem _ hx, hc⟩
theorem opT_free (o : Op) {c : Nat} (h : c = 124 ∨ c = 46) : c ∉ opT o := by
  have hc : c ≠ 45 ∧ (c < 48 ∨ 57 < c) := by omega
  cases o with
  | add v =>
    intro q
    rcases List.mem_append.mp q with q | q
    · simp only [List.mem_cons, List.not_mem_nil, or_false] at q; omega
    · rcases join_mem q with q | ⟨p, hp, q⟩
      · simp only [List.mem_cons, List.not_mem_nil, or_false] at q; omega
      · obtain ⟨x, _, rfl⟩ := List.mem_map.mp hp
        exact numT_free hc.1 hc.2 q
  | rem k =>
    intro q
    rcases List.mem_append.mp q with q | q
    · simp only [List.mem_cons, List.not_mem_nil, or_false] at q; omega
    · exact numT_free hc.1 hc.2 q
theorem rw1_free (p : Bool × Op) {c : Nat} (h : c = 124 ∨ c = 46) : c ∉ rw1 p := by
  unfold rw1
  split
  · intro q
    rcases List.mem_cons.mp q with q | q
    · omega
    · exact opT_free p.2 h q
  · exact opT_free p.2 h
theorem rw1_1 (p : Bool × Op) : decide ((rw1 p).take 1 = [63]) = p.1 := by
  obtain ⟨c, l, e, h, _⟩ := opT_head p.2
  unfold rw1
  cases p.1 with
  | true => simp
  | false => simp [e, h]
theorem rw1_drop (o : Op) : (rw1 (true, o)).drop 1 = opT o := rfl
theorem Frm.low {S0 S S' : Sto} {L : List Nat} (h : Frm [] S0 S) (f : Frm L S S') (hl : ∀ j ∈ L, S0.length ≤ j) : Frm [] S0 S' := by
  refine ⟨Nat.le_trans h.1 f.1, fun j hj nj => ?_⟩
  rw [f.2 j (Nat.lt_of_lt_of_le hj h.1) fun q => by have := hl j q; omega]
  exact h.2 j hj nj
theorem load_go {n : Nat} {ops r : List Op} {i : Nat} {S S1 : Sto} {s1 : SV} {a0 a1 a5 a6 : Option D} {Q : QD} {X : XD} (n1 : 1 ≤ n) (n3 : n ≤ 3) (hok : okOps n [] (ops ++ r)) (few : ops.length + r.length ≤ 20) (q1 : Ses S1 i s1) (q2 : Hs s1 [] []) (q3 : s1.n = n)
    (q4 : S.length ≤ i ∧ i < s1.e) (q5 : i < s1.d) (q6 : i < s1.u) (q7 : Frm [] S S1)
    (h : ∀ (S' : Sto) (s : SV), Ses S' i s → Hs s ops r → s.n = n → i < s.e → i < s.d → i < s.u → Frm [] S S' → Q (.han i) S') :
    b_load_c4.wp { nx := fun x S' => Q D.non S', rt := Q, xq := fun x x_1 S' => X x S' } [a0, a1, some (.lst (((itm ops r).map rw1).map fun p => .str (SX.S p))), some (.han i), some (.int 0), a5, a6] S1 := by
  have li : (itm ops r).length = ops.length + r.length := by simp [itm]
  have im : (itm ops r).map (·.2) = ops ++ r := by simp [itm, Function.comp_def]
  have ic : ((itm ops r).filter (·.1)).length = r.length := by
    unfold itm
    rw [List.filter_append, List.filter_eq_nil_iff.mpr (by simp), List.filter_eq_self.mpr (by simp), List.nil_append, List.length_map]
  unfold b_load_c4
  walk_at "wpc"
  rw [List.map_map]
  refine forGo_pre (fun p : Bool × Op => D.str (SX.S (rw1 p))) (itm ops r) (fun pre env T => ∃ (a5 a6 : Option D) (s : SV), env = [a0, a1, some (.lst ((itm ops r).map fun p => .str (SX.S (rw1 p)))), some (.han i), some (.int ((pre.filter (·.1)).length : Nat)), a5, a6] ∧
    Ses T i s ∧ Hs s (pre.map (·.2)) [] ∧ s.n = n ∧ i < s.e ∧ i < s.d ∧ i < s.u ∧ Frm [] S T) ?_ ?_ ⟨a5, a6, s1, rfl, q1, q2, q3, q4.2, q5, q6, q7⟩
  · rintro pre p post he env1 T ⟨a5, a6, s, rfl, t1, t2, t3, t4, t5, t6, t7⟩
    refine ⟨trivial, _, rfl, fun nx hnx => ?_⟩
    have ho : okOp s.n s.cur p.2 := by
      rw [t3, t2.cur]
      have := hok
      rw [← im, he, List.map_append, okOps_app, List.nil_append] at this
      exact this.2.1
    have lp : (pre.map (·.2)).length < 100 := by
      have := congrArg List.length he
      rw [List.length_append, List.length_cons] at this
      rw [List.length_map]; omega
    have lw : (rw1 p).length ≤ 32 := by
      have := opT_len (okOp_lim t2.n1 t2.n3 t2.sok.few ho)
      unfold rw1
      split
      · simp; omega
      · omega
    have fin : ∀ (a5 : Option D), c_perform [.han i, .str (SX.S (opT p.2))] T (fun _ T2 => nx [a0, a1, some (.lst ((itm ops r).map fun p => .str (SX.S (rw1 p)))), some (.han i), some (.int (((pre ++ [p]).filter (·.1)).length : Nat)), a5, a6] T2) X := by
      intro a5
      refine ⟨i, s, _, _, p.2, rfl, t1, t2, ho, lp, fun T2 s2 u1 u2 u3 u4 u5 u6 u7 => hnx _ _ ⟨a5, a6, s2, rfl, u1, by rw [List.map_append]; exact u2, by omega, by omega, by omega, ?_, t7.low u7 ?_⟩⟩
      · have := (List.getElem?_eq_some_iff.mp t1.ins).1; omega
      · intro j hj
        have := q4.1
        simp only [List.mem_cons, List.not_mem_nil, or_false] at hj
        rcases hj with rfl | rfl | rfl <;> omega
    unfold b_load_f4
    walk_at "wpc"
    refine ⟨by rw [SX.S_len]; exact szLe (by omega), ?_⟩
    rw [cut_S1, q_S]
    walk_at "wpc"
    refine ⟨by rw [SX.S_len]; exact szLe (by omega), ?_⟩
    rw [cut_S1]
    walk_at "wpc"
    have hd := dec_S ((rw1 p).take 1) [63]
    rw [rw1_1] at hd
    obtain ⟨fl, o⟩ := p
    cases fl with
    | true =>
      have e : SX.S ((rw1 (true, o)).take 1) = SX.S [63] := by simpa using hd
      rw [if_pos e, if_pos e]
      refine ⟨by rw [SX.S_len]; exact szLe (by omega), ?_⟩
      rw [cut_S2, rw1_drop]
      have ec : (((pre ++ [(true, o)]).filter (·.1)).length : Int) = ((pre.filter (·.1)).length : Int) + 1 := by
        rw [List.filter_append]; simp
      have := fin (some (.str (SX.S (rw1 (true, o)))))
      rw [ec] at this
      exact this
    | false =>
      have e : ¬ SX.S ((rw1 (false, o)).take 1) = SX.S [63] := by simpa using hd
      rw [if_neg e, if_neg e]
      have ec : (((pre ++ [(false, o)]).filter (·.1)).length : Int) = ((pre.filter (·.1)).length : Int) + 0 := by
        rw [List.filter_append]; simp
      have := fin (some (.str (SX.S (rw1 (false, o)))))
      rw [ec] at this
      exact this
  · rintro env1 T ⟨a5, a6, s, rfl, t1, t2, t3, t4, t5, t6, t7⟩
    refine ⟨trivial, ?_⟩
    rw [ic]
    rw [im] at t2
    unfold b_load_c5
    walk_at "wpc"
    refine ⟨by omega, by omega, ?_⟩
    have il := (List.getElem?_eq_some_iff.mp t1.ins).1
    refine forGo_pre (fun k : Nat => D.int (0 + (k : Nat))) (List.range r.length) (fun pre env T => ∃ (a6 : Option D) (s : SV) (x y : List Op), env = [a0, a1, some (.lst ((itm ops r).map fun p => .str (SX.S (rw1 p)))), some (.han i), some (.int (r.length : Nat)), a5, a6] ∧
      r = x ++ y ∧ y.length = pre.length ∧ Ses T i s ∧ Hs s (ops ++ x) y ∧ s.n = n ∧ i < s.e ∧ i < s.d ∧ i < s.u ∧ Frm [] S T) ?_ ?_ ⟨a6, s, r, [], rfl, by simp, rfl, t1, t2, t3, t4, t5, t6, t7⟩
    · rintro pre k post he env1 T ⟨a6, s, x, y, rfl, e1, e2, u1, u2, u3, u4, u5, u6, u7⟩
      refine ⟨trivial, _, rfl, fun nx hnx => ?_⟩
      walk_at "wpc"
      refine ⟨_, u1.ins, rfl, ?_⟩
      refine u2.undo u1 (fun e => ?_) fun ops' o T2 s2 e3 v1 v2 v3 v4 v5 v6 v7 => ?_
      · have h1 := congrArg List.length he
        have h2 := congrArg List.length e1
        have h3 := congrArg List.length e
        simp only [List.length_range, List.length_append, List.length_cons, List.length_nil] at h1 h2 h3
        omega
      · rcases List.eq_nil_or_concat x with ex | ⟨x', o', ex⟩
        · exfalso
          have h1 := congrArg List.length he
          have h2 := congrArg List.length e1
          rw [ex] at h2
          simp only [List.length_range, List.length_append, List.length_cons, List.length_nil] at h1 h2
          omega
        · rw [List.concat_eq_append] at ex
          subst ex
          have e4 : ops ++ x' ++ [o'] = ops' ++ [o] := by rw [← e3, List.append_assoc]
          have e5 := List.append_inj_left' e4 rfl
          have e6 := List.append_inj_right' e4 rfl
          have e7 : o' = o := by simpa using e6
          subst e7
          rw [← e5] at v2
          refine hnx _ _ ⟨_, s2, x', o' :: y, rfl, by rw [e1]; simp, by simp [e2], v1, v2, by omega, by omega, by omega, by omega, u7.low v7 ?_⟩
          intro j hj
          have := q4.1
          simp only [List.mem_cons, List.not_mem_nil, or_false] at hj
          rcases hj with rfl | rfl | rfl | rfl <;> omega
    · rintro env1 T ⟨a6, s, x, y, rfl, e1, e2, u1, u2, u3, u4, u5, u6, u7⟩
      refine ⟨trivial, ?_⟩
      have ex : x = [] := by
        have := congrArg List.length e1
        rw [List.length_append, e2, List.length_range] at this
        exact List.length_eq_zero_iff.mp (by omega)
      subst ex
      rw [List.append_nil] at u2
      rw [List.nil_append] at e1
      subst e1
      unfold b_load_c6
      walk_at "wpc"
      exact h _ s u1 u2 u3 u4 u5 u6 u7
theorem w_load {ds : List D} {S : Sto} {Q : QD} {X : XD} (h : c_load ds S Q X) : ctOf N_load.length b_load ds S Q X := by
  obtain ⟨d, rfl, ⟨hb, h⟩ | ⟨n, ops, r, rfl, n1, n3, hok, few, h⟩⟩ := h
  · unfold b_load N_load
    rcases hb with ⟨t, rfl, ht, hl⟩ | ⟨hd, hn⟩
    · walk_at "wpc"
      refine ⟨by rw [SX.S_len]; exact szLe (by omega), ?_⟩
      rw [cut_last, dot_S]
      walk_at "wpc"
      rw [dec_S]
      simp only [hl, decide_false, Bool.not_false, if_true]
      exact h
    · match d, hd, hn with
      | .non, _, _ => walk_at "wpc"; exact h
      | .bl _, _, _ => walk_at "wpc"; exact ⟨false, by decide +kernel, h⟩
      | .int _, _, _ => walk_at "wpc"; exact h
      | .str z, _, hn => exact absurd rfl (hn z)
      | .flt _, _, _ => walk_at "wpc"; exact ⟨false, by decide +kernel, h⟩
      | .lst _, _, _ => walk_at "wpc"; exact ⟨false, by decide +kernel, h⟩
      | .tup _, _, _ => walk_at "wpc"; exact ⟨false, by decide +kernel, h⟩
  · have lim : ∀ o ∈ ops ++ r, OpL o := okOps_lim n1 n3 (st_nil (n := n)) hok
    have ln := saveT_len n3 lim few
    unfold b_load N_load
    walk_at "wpc"
    refine ⟨by rw [SX.S_len]; exact szLe (by omega), ?_⟩
    rw [cut_last, dot_S]
    walk_at "wpc"
    have e1 : (saveT n ops r).drop ((saveT n ops r).length - 1) = [46] := by simp [saveT]
    rw [e1, dec_S]
    simp only [decide_true, Bool.not_true, Bool.false_eq_true, if_false]
    unfold b_load_c1
    walk_at "wpc"
    refine ⟨by rw [SX.S_len]; exact szLe (by omega), rfl, ?_⟩
    have e2 : cutS (SX.S (saveT n ops r)) none (some (-1)) = SX.S (TL.joinL [124] (numT n :: svT ops r)) := cut_but _
    rw [e2, pi_S]
    refine split_call (by simp) (by decide) (by unfold saveT at ln; simp at ln; omega) ?_
    rw [TL.spl_join (by simp) (fun p hp => by
      rcases List.mem_cons.mp hp with rfl | q
      · exact numT_free (by decide) (by decide)
      · rw [svT_itm] at q
        obtain ⟨x, _, rfl⟩ := List.mem_map.mp q
        exact rw1_free x (.inl rfl))]
    have li : (itm ops r).length = ops.length + r.length := by simp [itm]
    rw [svT_itm]
    refine ⟨.str (SX.S (numT (n : Int))), ((itm ops r).map rw1).map fun p => .str (SX.S p), rfl, by simp only [List.length_map]; omega, ?_⟩
    obtain ⟨i1, i2⟩ := int_of (rdW_num (i := (n : Int)) (by omega))
    unfold b_load_c3
    walk_at "wpc"
    refine ⟨(n : Int), i1, by rw [SX.S_len]; omega, ?_⟩
    refine Hs.start n1 n3 fun S1 s1 q1 q2 q3 q4 q5 q6 q7 => ?_
    exact load_go n1 n3 hok few q1 q2 q3 (by omega) (by omega) (by omega) q7 h
/-! #### L64 -/
open SX (S)
def isAdd : Op → Bool
  | .add _ => true
  | .rem _ => false
def eNm : Enc Bool where
  e b := .str (if b = true then "add" else "remove")
  p b := .str (if b = true then "add" else "remove")
  n := 0
  hp b := rfl
  lay b := by cases b <;> decide +kernel
  dp b := by cases b <;> exact Nat.le_refl _
  eq a b := by cases a <;> cases b <;> decide +kernel
theorem opNm_e (o : Op) : opNm o = eNm.e (isAdd o) := by cases o <;> rfl
def c__law_call : Ct := fun ds S Q X => ∃ (w : Nat) (a : D), ds = [.int (w : Nat), a] ∧ ((w = 3 ∧ c_load [a] S Q X) ∨ (w ≠ 3 ∧ c__law_back [.int (w : Nat), a] S Q X))
/-- _law_call -/
def N__law_call : List Str := ["way", "arguments"]
def b__law_call : DB := (DB.cons (DS.ret (DE.ite (DT.cmp .Eq (DE.var 0) (DE.con (.int 3))) (DE.call "load" c_load (DA.cons (DE.var 1) DA.nil)) (DE.call "_law_back" c__law_back (DA.cons (DE.var 0) (DA.cons (DE.var 1) DA.nil)))))
  DB.nil)
theorem w__law_call {ds : List D} {S' : Sto} {Q : QD} {X : XD} (h : c__law_call ds S' Q X) : ctOf N__law_call.length b__law_call ds S' Q X := by
  unfold b__law_call N__law_call
  obtain ⟨w, a, rfl, ⟨rfl, h⟩ | ⟨hw, h⟩⟩ := h
  · walk_at "wpc"
    exact h
  · walk_at "wpc"
    have : ¬ ((w : Nat) : Int) = 3 := by omega
    simp only [this, decide_false, Bool.false_eq_true, if_false]
    exact h
def c__law_outcome : Ct := fun ds S' Q _ => ∃ a b, ds = [a, b] ∧ ∀ (Q2 : QD) (X2 : XD), (∀ d S2, Q (.tup [.str "returned", d]) S2 → Q2 d S2) → (∀ x S2, x ∈ exNs → Q (.tup [.str "raised", .int (exIx x : Nat)]) S2 → X2 x S2) → c__law_call [a, b] S' Q2 X2
/-- _law_outcome -/
def N__law_outcome : List Str := ["way", "arguments", "caught", "result", "error"]
def b__law_outcome : DB := (DB.cons (DS.set 2 (DE.con .non))
  (DB.cons (DS.set 3 (DE.con .non))
  (DB.cons (DS.tryK 4 2 (DB.cons (DS.set 3 (DE.call "_law_call" c__law_call (DA.cons (DE.var 0) (DA.cons (DE.var 1) DA.nil))))
  DB.nil))
  (DB.cons (DS.iff (DT.cmp .Is (DE.var 2) (DE.con .non)) (DB.cons (DS.ret (DE.tup (DA.cons (DE.con (.str "returned")) (DA.cons (DE.var 3) DA.nil))))
  DB.nil) DB.nil)
  (DB.cons (DS.ret (DE.tup (DA.cons (DE.con (.str "raised")) (DA.cons (DE.call "_law_name" c__law_name (DA.cons (DE.var 2) DA.nil)) DA.nil))))
  DB.nil)))))
theorem w__law_outcome {ds : List D} {S' : Sto} {Q : QD} {X : XD} (h : c__law_outcome ds S' Q X) : ctOf N__law_outcome.length b__law_outcome ds S' Q X := by
  obtain ⟨a, b, rfl, h⟩ := h
  unfold b__law_outcome N__law_outcome
  walk_at "wpf"
  refine h _ _ (fun d S2 hq => ?_) (fun x S2 hx hq => ?_)
  · exact hq
  · refine ⟨hx, by omega, false, rfl, ?_⟩
    walk_at "wpf"
    exact ⟨x, rfl, hx, hq⟩
theorem ex_und : ("NothingToUndo" : Str) ∈ exNs ∧ exIx "NothingToUndo" = 11 := by decide +kernel
theorem ex_txt : ("InvalidText" : Str) ∈ exNs ∧ exIx "InvalidText" = 6 := by decide +kernel
theorem rai_txt {S' : Sto} {Q : QD} {X : XD} (q : Q (.tup [.str "raised", .int 6]) S') : c__law_raises [.str "text"] S' Q X := ⟨"text", 6, rfl, by decide +kernel, by decide +kernel, q⟩
/-- what undo or redo gives -/
def stepR (w : Nat) (ops r : List Op) : Oc Bool × List Op × List Op :=
  if w = 0 then match ops.reverse with
    | [] => (.rai 11, ops, r)
    | o :: l => (.ret (isAdd o), l.reverse, o :: r)
  else match r with
    | [] => (.rai 11, ops, r)
    | o :: r' => (.ret (isAdd o), ops ++ [o], r')
theorem stepR_len (w : Nat) (ops r : List Op) : (stepR w ops r).2.1.length + (stepR w ops r).2.2.length = ops.length + r.length := by
  unfold stepR
  split
  · split
    · rfl
    · rename_i o l e
      have := congrArg List.length e
      simp at this ⊢; omega
  · split
    · rfl
    · simp; omega
theorem out_back {w i : Nat} {s : SV} {ops r : List Op} {T : Sto} {Q : QD} {X : XD} (hw : w ≤ 1) (hh : Hs s ops r) (hs : Ses T i s)
    (q : ∀ (T' : Sto) (s' : SV), Ses T' i s' → Hs s' (stepR w ops r).2.1 (stepR w ops r).2.2 → s'.n = s.n → s'.e = s.e → s'.d = s.d → s'.u = s.u → Frm [i, s.e, s.d, s.u] T T' → Q ((eO eNm).e (stepR w ops r).1) T') : c__law_outcome [.int (w : Nat), .han i] T Q X := by
  refine ⟨_, _, rfl, fun Q2 X2 hQ hX => ⟨w, _, rfl, .inr ⟨by omega, i, w, rfl, ?_⟩⟩⟩
  have rai : (stepR w ops r).1 = .rai 11 → (stepR w ops r).2.1 = ops → (stepR w ops r).2.2 = r → X2 "NothingToUndo" T := fun e1 e2 e3 => hX _ _ ex_und.1 (by
    rw [ex_und.2]
    have := q T s hs (by rw [e2, e3]; exact hh) rfl rfl rfl rfl (Frm.refl _ _)
    rw [e1] at this
    exact this)
  by_cases e : w = 0
  · subst e
    refine .inl ⟨rfl, hh.undo hs (fun e => ?_) fun ops' o T' s' e h1 h2 e1 e2 e3 e4 f => hQ _ _ ?_⟩
    · subst e; exact rai rfl rfl rfl
    · subst e
      have es : stepR 0 (ops' ++ [o]) r = (.ret (isAdd o), ops', o :: r) := by simp [stepR]
      rw [es] at q
      rw [opNm_e]
      exact q T' s' h1 h2 e1 e2 e3 e4 f
  · refine .inr ⟨e, hh.redo hs (fun e' => ?_) fun o r' T' s' e' h1 h2 e1 e2 e3 e4 f => hQ _ _ ?_⟩
    · subst e'
      have es : stepR w ops [] = (.rai 11, ops, []) := by simp [stepR, e]
      rw [es] at rai
      exact rai rfl rfl rfl
    · subst e'
      have es : stepR w ops (o :: r') = (.ret (isAdd o), ops ++ [o], r') := by simp [stepR, e]
      rw [es] at q
      rw [opNm_e]
      exact q T' s' h1 h2 e1 e2 e3 e4 f
theorem out_txt {d : D} {T : Sto} {Q : QD} {X : XD} (h : badL d) (q : Q (.tup [.str "raised", .int 6]) T) : c__law_outcome [.int 3, d] T Q X := by
  refine ⟨_, _, rfl, fun Q2 X2 hQ hX => ⟨3, d, rfl, .inl ⟨rfl, d, rfl, .inl ⟨h, hX _ _ ex_txt.1 (by rw [ex_txt.2]; exact q)⟩⟩⟩⟩
/-- law -/
def N_law : List Str := ["script", "town", "n", "session", "k", "name", "argument", "vectors", "now", "text", "other", "way", "cut", "bad"]
def b_law_f3 : DB := (DB.cons (DS.asg (DG.tp (DGs.cons 5 (DGs.cons 6 (DGs.cons 7 DGs.nil)))) (DE.call "_law_edit" c__law_edit (DA.cons (DE.var 0) (DA.cons (DE.var 1) (DA.cons (DE.var 2) (DA.cons (DE.met0 "Session" "generators" c_Session_generators (DE.var 3)) DA.nil))))))
  (DB.cons (DS.expr (DE.call "_law_do" c__law_do (DA.cons (DE.var 3) (DA.cons (DE.var 5) (DA.cons (DE.var 6) DA.nil)))))
  DB.nil))
def b_law_f4 : DB := (DB.cons (DS.expr (DE.call "_law_outcome" c__law_outcome (DA.cons (DE.con (.int 0)) (DA.cons (DE.var 3) DA.nil))))
  DB.nil)
def b_law_f10 : DB := (DB.cons (DS.iff (DT.bool (DW.cons (DT.cmp .NotEq (DE.call "_law_outcome" c__law_outcome (DA.cons (DE.var 11) (DA.cons (DE.var 3) DA.nil))) (DE.call "_law_outcome" c__law_outcome (DA.cons (DE.var 11) (DA.cons (DE.var 10) DA.nil)))) (DW.one .Or (DT.cmp .NotEq (DE.met0 "Session" "generators" c_Session_generators (DE.var 3)) (DE.met0 "Session" "generators" c_Session_generators (DE.var 10)))))) (DB.cons (DS.ret (DE.con (.bl false)))
  DB.nil) DB.nil)
  DB.nil)
def b_law_f11 : DB := (DB.cons (DS.set 12 (DE.op .Add (DE.con (.int 1)) (DE.call "_law_draw" c__law_draw (DA.cons (DE.var 0) (DA.cons (DE.var 1) (DA.cons (DE.len (DA.cons (DE.var 9) DA.nil)) DA.nil))))))
  (DB.cons (DS.iff (DT.cmp .NotEq (DE.call "_law_outcome" c__law_outcome (DA.cons (DE.con (.int 3)) (DA.cons (DE.sl (DE.var 9) DO.no (DO.so (DE.op .Sub (DE.len (DA.cons (DE.var 9) DA.nil)) (DE.var 12)))) DA.nil))) (DE.call "_law_raises" c__law_raises (DA.cons (DE.con (.str "text")) DA.nil))) (DB.cons (DS.ret (DE.con (.bl false)))
  DB.nil) DB.nil)
  DB.nil))
def b_law_c12 : DB := (DB.cons (DS.ret (DE.cmp .Eq (DE.lst (DL.comp [("bad", 13)] (DG.nm 13) (DI.seq (DE.tup (DA.cons (DE.con .non) (DA.cons (DE.con (.int 5)) (DA.cons (DE.con (.bl true)) (DA.cons (DE.lst (DL.dis (DA.cons (DE.var 9) DA.nil))) (DA.cons (DE.tup (DA.cons (DE.var 9) DA.nil)) DA.nil))))))) DF.no (DE.call "_law_outcome" c__law_outcome (DA.cons (DE.con (.int 3)) (DA.cons (DE.var 13) DA.nil))))) (DE.lst (DL.rep (DE.lst (DL.dis (DA.cons (DE.call "_law_raises" c__law_raises (DA.cons (DE.con (.str "text")) DA.nil)) DA.nil))) (DE.con (.int 5))))))
  DB.nil)
def b_law_c11 : DB := (DB.cons (DS.for (DG.nm 4) (DI.range1 (DE.con (.int 4))) b_law_f11)
  b_law_c12)
def b_law_c10 : DB := (DB.cons (DS.for (DG.nm 11) (DI.seq (DE.op .Add (DE.op .Add (DE.lst (DL.rep (DE.lst (DL.dis (DA.cons (DE.con (.int 1)) DA.nil))) (DE.con (.int 8)))) (DE.lst (DL.rep (DE.lst (DL.dis (DA.cons (DE.con (.int 0)) DA.nil))) (DE.con (.int 17))))) (DE.lst (DL.rep (DE.lst (DL.dis (DA.cons (DE.con (.int 1)) DA.nil))) (DE.con (.int 4)))))) b_law_f10)
  b_law_c11)
def b_law_c9 : DB := (DB.cons (DS.iff (DT.bool (DW.cons (DT.eqO true "Session" c_Session___eq__ (DE.var 10) (DE.var 3)) (DW.cons (DT.cmp .NotEq (DE.met0 "Session" "generators" c_Session_generators (DE.var 10)) (DE.var 8)) (DW.one .Or (DT.cmp .NotEq (DE.strO "Session" c_Session___str__ (DE.var 10)) (DE.strO "Session" c_Session___str__ (DE.var 3))))))) (DB.cons (DS.ret (DE.con (.bl false)))
  DB.nil) DB.nil)
  b_law_c10)
def b_law_c8 : DB := (DB.cons (DS.set 10 (DE.call "load" c_load (DA.cons (DE.var 9) DA.nil)))
  b_law_c9)
def b_law_c7 : DB := (DB.cons (DS.iff (DT.bool (DW.cons (DT.not (DT.val (DE.isStr (DE.var 9)))) (DW.one .Or (DT.cmp .NotEq (DE.met0 "Session" "generators" c_Session_generators (DE.var 3)) (DE.var 8))))) (DB.cons (DS.ret (DE.con (.bl false)))
  DB.nil) DB.nil)
  b_law_c8)
def b_law_c6 : DB := (DB.cons (DS.set 9 (DE.call "save" c_save (DA.cons (DE.var 3) DA.nil)))
  b_law_c7)
def b_law_c5 : DB := (DB.cons (DS.set 8 (DE.met0 "Session" "generators" c_Session_generators (DE.var 3)))
  b_law_c6)
def b_law_c4 : DB := (DB.cons (DS.for (DG.nm 4) (DI.range1 (DE.call "_law_draw" c__law_draw (DA.cons (DE.var 0) (DA.cons (DE.var 1) (DA.cons (DE.con (.int 6)) DA.nil))))) b_law_f4)
  b_law_c5)
def b_law : DB := (DB.cons (DS.set 1 (DE.call "_law_town" c__law_town (DA.cons (DE.var 0) DA.nil)))
  (DB.cons (DS.set 2 (DE.op .Add (DE.con (.int 1)) (DE.call "_law_draw" c__law_draw (DA.cons (DE.var 0) (DA.cons (DE.var 1) (DA.cons (DE.con (.int 3)) DA.nil))))))
  (DB.cons (DS.set 3 (DE.make "Session" c_Session___init__ (DA.cons (DE.var 2) DA.nil)))
  (DB.cons (DS.for (DG.nm 4) (DI.range1 (DE.call "_law_draw" c__law_draw (DA.cons (DE.var 0) (DA.cons (DE.var 1) (DA.cons (DE.con (.int 9)) DA.nil))))) b_law_f3)
  b_law_c4))))
/-- the town and a session -/
theorem nin1 {a b : Nat} (h : a ≠ b) : a ∉ [b] := by simpa using h
structure T1 (ns : List Int) (k : Nat) (T : Sto) (i : Nat) (s : SV) (ops r : List Op) : Prop where
  tw : Tw ns k T
  ses : Ses T i s
  hs : Hs s ops r
  i0 : 0 < i
  e0 : 0 < s.e
  d0 : 0 < s.d
  u0 : 0 < s.u
theorem T1.mono {ns : List Int} {j k : Nat} {T : Sto} {i : Nat} {s : SV} {ops r : List Op} (t : T1 ns k T i s ops r) (h : j ≤ k) : T1 ns j T i s ops r := ⟨t.tw.mono h, t.ses, t.hs, t.i0, t.e0, t.d0, t.u0⟩
theorem bd_up (k : Nat) : 6 + 2 * (6 * 2 ^ k - 6) ≤ 6 * 2 ^ (k + 1) - 6 := by
  have := Nat.one_le_two_pow (n := k)
  rw [Nat.pow_succ]; omega
/-- the edits -/
theorem k64_f3 {E : DEnds} {ns : List Int} {n i many : Nat} {s : SV} {a4 a5 a6 a7 a8 a9 a10 a11 a12 a13 : Option D} {T : Sto} (hm : many ≤ 8) (t : T1 ns 900000 T i s [] []) (hn : s.n = n)
    (hE : ∀ a4 a5 a6 a7 T2 s2 ops, T1 ns 800000 T2 i s2 ops [] → s2.n = n → ops.length ≤ 8 → E.nx [some (.scr (ns.map .int)), some (.han 0), some (.int n), some (.han i), a4, a5, a6, a7, a8, a9, a10, a11, a12, a13] T2) :
    forGo (fun d env x => some (List.set env 4 (some d))) b_law_f3.wp E [] (rangeD 0 many) [some (.scr (ns.map .int)), some (.han 0), some (.int n), some (.han i), a4, a5, a6, a7, a8, a9, a10, a11, a12, a13] T := by
  refine forGo_pre (fun k : Nat => D.int (0 + (k : Nat))) (List.range many) (fun pre env T => ∃ (a4 a5 a6 a7 : Option D) (s2 : SV) (ops : List Op), env = [some (.scr (ns.map .int)), some (.han 0), some (.int n), some (.han i), a4, a5, a6, a7, a8, a9, a10, a11, a12, a13] ∧
    s2.n = n ∧ ops.length = pre.length ∧ (∀ u ∈ s2.cur, Bd (6 * 2 ^ pre.length - 6) u) ∧ T1 ns (900000 - 100 * pre.length) T i s2 ops []) ?_ ?_ ⟨a4, a5, a6, a7, s, [], rfl, hn, rfl, (fun u hu => by rw [t.hs.cur] at hu; cases hu), (by simpa using t)⟩
  · rintro pre k post he env1 T ⟨a4, a5, a6, a7, s2, ops, rfl, e1, e2, hb, t⟩
    have lp : pre.length < 8 := by
      have := congrArg List.length he
      simp at this; omega
    refine ⟨trivial, _, rfl, fun nx hnx => ?_⟩
    have n1 := t.hs.n1
    have n3 := t.hs.n3
    have sok := t.hs.sok
    unfold b_law_f3
    walk_at "wpc"
    refine ⟨_, t.ses.ins, rfl, i, s2, rfl, t.ses, ?_⟩
    have p6 : 6 * 2 ^ pre.length - 6 ≤ 1000000 := by
      have : 2 ^ pre.length ≤ 2 ^ 8 := Nat.pow_le_pow_right (by omega) (by omega)
      omega
    rw [e1] at n1 n3
    have sl := sok.len
    rw [e1] at sl
    have it := (List.getElem?_eq_some_iff.mp t.ses.ins).1
    refine ⟨ns, 900000 - 100 * (pre.length + 1), n, 6 * 2 ^ pre.length - 6, s2.cur, rfl, t.tw.mono (by omega), n1, n3, sl, hb, p6, sok.few, fun j T2 hj tw f l => ?_, fun hl v T2 lv bv tw f l => ?_⟩
    · have ses2 : Ses T2 i s2 := t.ses.frm f (by simp; have := t.i0; omega) (by simp; have := t.e0; omega) (by simp; have := t.d0; omega) (by simp; have := t.u0; omega)
      refine ⟨_, rfl, _, rfl, _, rfl, _, rfl, ?_⟩
      refine ⟨i, _, .inr ⟨rfl, ?_⟩⟩
      refine t.hs.rem ses2 hj (by omega) fun T3 s3 h1 h2 e3 e4 e5 e6 f3 => hnx _ _ ⟨_, _, _, _, s3, _, rfl, by omega, by simp [e2], ?_, ⟨(by rw [List.length_append, List.length_singleton]; exact tw.frm f3 (by simp; have := t.i0; have := t.e0; have := t.d0; omega)), h1, h2, t.i0, by rw [e4]; exact t.e0, by rw [e5]; exact t.d0, by omega⟩⟩
      intro u hu
      rw [h2.cur, st_snoc, ← t.hs.cur] at hu
      have := hb u (List.mem_of_mem_eraseIdx hu)
      rw [List.length_append, List.length_singleton]
      exact this.mono (by have := bd_up pre.length; omega)
    · have ses2 : Ses T2 i s2 := t.ses.frm f (by simp; have := t.i0; omega) (by simp; have := t.e0; omega) (by simp; have := t.d0; omega) (by simp; have := t.u0; omega)
      have hv : isV s2.n v = true := by
        simp only [isV, Bool.and_eq_true, decide_eq_true_eq, List.all_eq_true]
        refine ⟨by omega, fun x hx => lim_iff.mpr ?_⟩
        have := bv x hx
        have h2 := bd_up pre.length
        have : 2 ^ (pre.length + 1) ≤ 2 ^ 9 := Nat.pow_le_pow_right (by omega) (by omega)
        omega
      refine ⟨_, rfl, _, rfl, _, rfl, _, rfl, ?_⟩
      refine ⟨i, _, .inl ⟨rfl, ?_⟩⟩
      refine t.hs.add ses2 hv hl (by omega) fun b T3 s3 _ h1 h2 e3 e4 e5 e6 f3 => hnx _ _ ⟨_, _, _, _, s3, _, rfl, by omega, by simp [e2], ?_, ⟨(by rw [List.length_append, List.length_singleton]; exact tw.frm f3 (by simp; have := t.i0; have := t.e0; have := t.d0; omega)), h1, h2, t.i0, by rw [e4]; exact t.e0, by rw [e5]; exact t.d0, by omega⟩⟩
      intro u hu
      rw [h2.cur, st_snoc, ← t.hs.cur] at hu
      rw [List.length_append, List.length_singleton]
      have h9 := bd_up pre.length
      rcases List.mem_append.mp hu with q | q
      · exact (hb u q).mono (by omega)
      · have : u = v := by simpa using q
        subst this
        exact bv.mono (by omega)
  · rintro env1 T ⟨a4, a5, a6, a7, s2, ops, rfl, e1, e2, hb, t⟩
    refine ⟨trivial, hE _ _ _ _ _ s2 ops (t.mono (by simp; omega)) e1 (by simp at e2; omega)⟩
/-- undone some times -/
theorem k64_f4 {E : DEnds} {ns : List Int} {n i many : Nat} {s : SV} {ops : List Op} {a4 a5 a6 a7 a8 a9 a10 a11 a12 a13 : Option D} {T : Sto} (t : T1 ns 700000 T i s ops []) (hm : many ≤ 100) (hf : ops.length ≤ 8) (hn : s.n = n)
    (hE : ∀ a4 T2 s2 ops r, T1 ns 700000 T2 i s2 ops r → s2.n = n → ops.length + r.length ≤ 8 → E.nx [some (.scr (ns.map .int)), some (.han 0), some (.int n), some (.han i), a4, a5, a6, a7, a8, a9, a10, a11, a12, a13] T2) :
    forGo (fun d env x => some (List.set env 4 (some d))) b_law_f4.wp E [] (rangeD 0 many) [some (.scr (ns.map .int)), some (.han 0), some (.int n), some (.han i), a4, a5, a6, a7, a8, a9, a10, a11, a12, a13] T := by
  refine forGo_pre (fun k : Nat => D.int (0 + (k : Nat))) (List.range many) (fun pre env T => ∃ (a4 : Option D) (s2 : SV) (ops r : List Op), env = [some (.scr (ns.map .int)), some (.han 0), some (.int n), some (.han i), a4, a5, a6, a7, a8, a9, a10, a11, a12, a13] ∧
    s2.n = n ∧ ops.length + r.length ≤ 8 ∧ T1 ns 700000 T i s2 ops r) ?_ ?_ ⟨a4, s, ops, [], rfl, hn, (by simpa using hf), t⟩
  · rintro pre k post he env1 T ⟨a4, s2, ops, r, rfl, e1, e2, t⟩
    refine ⟨trivial, _, rfl, fun nx hnx => ?_⟩
    unfold b_law_f4
    walk_at "wpc"
    refine out_back (w := 0) (by omega) t.hs t.ses fun T2 s3 h1 h2 e3 e4 e5 e6 f => ?_
    refine hnx _ _ ⟨_, s3, _, _, rfl, by omega, ?_, ⟨t.tw.frm f ?_, h1, h2, t.i0, by rw [e4]; exact t.e0, by rw [e5]; exact t.d0, by rw [e6]; exact t.u0⟩⟩
    · rw [stepR_len]; exact e2
    · have := t.i0; have := t.e0; have := t.d0; have := t.u0
      simp only [List.mem_cons, List.not_mem_nil, or_false]; omega
  · rintro env1 T ⟨a4, s2, ops, r, rfl, e1, e2, t⟩
    exact ⟨trivial, hE _ _ _ _ _ t e1 e2⟩
/-- the town and two sessions with one history -/
structure T2 (ns : List Int) (k : Nat) (T : Sto) (i : Nat) (s : SV) (j : Nat) (t : SV) (ops r : List Op) : Prop where
  tw : Tw ns k T
  s1 : Ses T i s
  s2 : Ses T j t
  h1 : Hs s ops r
  h2 : Hs t ops r
  nn : s.n = t.n
  i0 : 0 < i
  e0 : 0 < s.e
  d0 : 0 < s.d
  u0 : 0 < s.u
  ji : i < j ∧ s.e < j ∧ s.d < j ∧ s.u < j
  je : j < t.e
  jd : j < t.d
  ju : j < t.u
theorem k64_f10 {E : DEnds} {ns : List Int} {i j : Nat} {s t : SV} {ops r : List Op} {a2 a4 a5 a6 a7 a8 a9 a11 a12 a13 : Option D} {T : Sto} (ws : List Nat) (hw : ∀ w ∈ ws, w ≤ 1) (t2 : T2 ns 600000 T i s j t ops r)
    (hE : ∀ a11 T3, Tw ns 600000 T3 → E.nx [some (.scr (ns.map .int)), some (.han 0), a2, some (.han i), a4, a5, a6, a7, a8, a9, some (.han j), a11, a12, a13] T3) :
    forGo (fun d env x => some (List.set env 11 (some d))) b_law_f10.wp E [] (ws.map fun w => .int (w : Nat)) [some (.scr (ns.map .int)), some (.han 0), a2, some (.han i), a4, a5, a6, a7, a8, a9, some (.han j), a11, a12, a13] T := by
  refine forGo_pre (fun w : Nat => D.int (w : Nat)) ws (fun pre env T => ∃ (a11 : Option D) (s t : SV) (ops r : List Op), env = [some (.scr (ns.map .int)), some (.han 0), a2, some (.han i), a4, a5, a6, a7, a8, a9, some (.han j), a11, a12, a13] ∧
    T2 ns 600000 T i s j t ops r) ?_ ?_ ⟨a11, s, t, ops, r, rfl, t2⟩
  · rintro pre w post he env1 T ⟨a11, s, t, ops, r, rfl, k⟩
    have w1 : w ≤ 1 := hw w (by rw [he]; simp)
    refine ⟨trivial, _, rfl, fun nx hnx => ?_⟩
    unfold b_law_f10
    walk_at "wpc"
    have q1 := k.i0; have q2 := k.e0; have q3 := k.d0; have q4 := k.u0; have q5 := k.ji; have q6 := k.je; have q7 := k.jd; have q8 := k.ju
    refine out_back w1 k.h1 k.s1 fun T3 s3 h1 h2 e3 e4 e5 e6 f => ?_
    have t3 : Ses T3 j t := k.s2.frm f (by simp; omega) (by simp; omega) (by simp; omega) (by simp; omega)
    have w3 := k.tw.frm f (by simp; omega)
    refine out_back w1 k.h2 t3 fun T4 t4 g1 g2 e7 e8 e9 e10 f2 => ?_
    have s4 : Ses T4 i s3 := h1.frm f2 (by simp; omega) (by simp; omega) (by simp; omega) (by simp; omega)
    have w4 := w3.frm f2 (by simp; omega)
    refine oNe_O eNm (by decide) _ _ _ _ ⟨_, rfl, ?_⟩
    rw [if_neg (by simp)]
    refine ⟨_, s4.ins, rfl, h2.gen s4 ⟨_, g1.ins, rfl, g2.gen g1 ?_⟩⟩
    refine oNe_M _ _ _ _ ⟨_, rfl, ?_⟩
    rw [if_neg (by simp)]
    exact hnx _ _ ⟨_, s3, t4, _, _, rfl, ⟨w4, s4, g1, h2, g2, by rw [e3, e7]; exact k.nn, q1, by omega, by omega, by omega, by omega, by omega, by omega, by omega⟩⟩
  · rintro env1 T ⟨a11, s, t, ops, r, rfl, k⟩
    exact ⟨trivial, hE _ _ k.tw⟩
theorem cut_bad {J : List Nat} (h : 46 ∉ J) {m : Nat} (hm : m ≤ J.length) (hl : J.length ≤ 900) : badL (.str (S ((J ++ [46]).take m))) := by
  refine .inl ⟨_, rfl, by rw [List.length_take]; omega, fun e => h ?_⟩
  rw [List.take_append_of_le_length hm] at e
  have : 46 ∈ (J.take m).drop ((J.take m).length - 1) := by rw [e]; simp
  exact List.mem_of_mem_take (List.mem_of_mem_drop this)
theorem k64_f11 {E : DEnds} {ns : List Int} {J : List Nat} {a2 a3 a4 a5 a6 a7 a8 a10 a11 a12 a13 : Option D} {T : Sto} (hJ : 46 ∉ J) (hl : J.length ≤ 900) (t : Tw ns 600000 T)
    (hE : ∀ a4 a12 T3, Tw ns 500000 T3 → E.nx [some (.scr (ns.map .int)), some (.han 0), a2, a3, a4, a5, a6, a7, a8, some (.str (S (J ++ [46]))), a10, a11, a12, a13] T3) :
    forGo (fun d env x => some (List.set env 4 (some d))) b_law_f11.wp E [] (rangeD 0 4) [some (.scr (ns.map .int)), some (.han 0), a2, a3, a4, a5, a6, a7, a8, some (.str (S (J ++ [46]))), a10, a11, a12, a13] T := by
  refine forGo_pre (fun k : Nat => D.int (0 + (k : Nat))) (List.range 4) (fun pre env T => ∃ (a4 a12 : Option D), env = [some (.scr (ns.map .int)), some (.han 0), a2, a3, a4, a5, a6, a7, a8, some (.str (S (J ++ [46]))), a10, a11, a12, a13] ∧ Tw ns (600000 - pre.length) T) ?_ ?_ ⟨a4, a12, rfl, t⟩
  · rintro pre k post he env1 T ⟨a4, a12, rfl, t⟩
    have lp : pre.length < 4 := by
      have := congrArg List.length he
      simp at this; omega
    refine ⟨trivial, _, rfl, fun nx hnx => ?_⟩
    unfold b_law_f11
    walk_at "wpc"
    rw [SX.S_len]
    have lj : (J ++ [46]).length = J.length + 1 := by simp
    refine ⟨szLe (by omega), ?_⟩
    refine (t.mono (show (599999 - pre.length) + 1 ≤ 600000 - pre.length by omega)).draw (by omega) (by omega) fun r T2 r0 r1 t2 => ?_
    rw [oAdd_ii]
    refine ⟨szLe (by omega), ?_⟩
    rw [oSub_ii]
    refine ⟨_, rfl, ?_⟩
    walk_at "wpc"
    refine ⟨by rw [SX.S_len]; exact szLe (by omega), ?_⟩
    obtain ⟨m, hm, hm2⟩ : ∃ m : Nat, ((J ++ [46]).length : Int) - (1 + r) = m ∧ m ≤ J.length := ⟨(((J ++ [46]).length : Int) - (1 + r)).toNat, by omega, by omega⟩
    rw [hm, C8.cutS_slice, SX.slice_to (by omega), Int.toNat_natCast]
    refine out_txt (cut_bad hJ hm2 hl) (rai_txt ?_)
    refine oNe_O eNm (by decide) (Oc.rai 6) (Oc.rai 6) _ _ ⟨_, rfl, ?_⟩
    rw [if_neg (by simp)]
    exact hnx _ _ ⟨_, _, rfl, t2.mono (by rw [List.length_append, List.length_singleton]; omega)⟩
  · rintro env1 T ⟨a4, a12, rfl, t⟩
    exact ⟨trivial, hE _ _ _ (t.mono (by simp))⟩
theorem k64_c12 {E : DEnds} {x : Str} {a0 a1 a2 a3 a4 a5 a6 a7 a8 a10 a11 a12 a13 : Option D} {T : Sto} (hE : ∀ T3, E.rt (.bl true) T3) :
    b_law_c12.wp E [a0, a1, a2, a3, a4, a5, a6, a7, a8, some (.str x), a10, a11, a12, a13] T := by
  unfold b_law_c12
  walk_at "wpc"
  refine ⟨szLe (by simp), ?_⟩
  have bads : ∀ d ∈ [D.non, .int 5, .bl true, .lst [.str x], .tup [.str x]], badL d := by
    intro d hd
    simp only [List.mem_cons, List.not_mem_nil, or_false] at hd
    rcases hd with rfl | rfl | rfl | rfl | rfl <;> exact .inr ⟨rfl, fun z e => by cases e⟩
  refine compGo_all0 id (fun _ => .tup [.str "raised", .int 6]) [D.non, .int 5, .bl true, .lst [.str x], .tup [.str x]] (fun d hd => ⟨_, rfl, fun Qd hq => ?_⟩) ?_
  · walk_at "wpc"
    exact out_txt (bads d hd) hq
  refine rai_txt ⟨by omega, by omega, szLe (by omega), ?_⟩
  exact oEq_L (eO eNm) (by decide) [Oc.rai 6, Oc.rai 6, Oc.rai 6, Oc.rai 6, Oc.rai 6] [Oc.rai 6, Oc.rai 6, Oc.rai 6, Oc.rai 6, Oc.rai 6] _ _ (by simpa using hE T)
theorem dot_free (n : Nat) (ops r : List Op) : 46 ∉ TL.joinL [124] (numT n :: svT ops r) := fun q => by
  rcases join_mem q with q | ⟨p, hp, q⟩
  · simp at q
  · rcases List.mem_cons.mp hp with rfl | hp
    · exact numT_free (by decide) (by decide) q
    · rw [svT_itm] at hp
      obtain ⟨x, _, rfl⟩ := List.mem_map.mp hp
      exact rw1_free x (.inr rfl) q
theorem w_law {ds : List D} {S' : Sto} {Q : QD} {X : XD} (h : cLaw ds S' Q X) : ctOf N_law.length b_law ds S' Q X := by
  obtain ⟨ns, rfl, hl, rfl, h⟩ := h
  unfold b_law N_law
  walk_at "wpc"
  refine Tw.town hl fun S1 t1 => ?_
  walk_at "wpc"
  refine t1.draw (k := 999998) (by omega) (by omega) fun r S2 r0 r1 t2 => ?_
  obtain ⟨n, en, n1, n3⟩ : ∃ n : Nat, 1 + r = (n : Int) ∧ 1 ≤ n ∧ n ≤ 3 := ⟨(1 + r).toNat, by omega, by omega, by omega⟩
  walk_at "wpc"
  rw [en]
  have z2 := t2.at0
  refine Hs.start n1 n3 fun S3 s q1 q2 q3 q4 q5 q6 q7 => ?_
  have t3 := t2.frm q7 (by simp)
  walk_at "wpc"
  refine t3.drawF (k := 999997) (by omega) (by omega) fun m S4 m0 m1 t4 f4 l4 => ?_
  obtain ⟨many, rfl⟩ : ∃ many : Nat, m = many := ⟨m.toNat, by omega⟩
  have z4 : 0 < S2.length := z2
  have k3 : T1 ns 900000 S4 S2.length s [] [] := ⟨t4.mono (by omega), q1.frm f4 (nin1 (by omega)) (nin1 (by omega)) (nin1 (by omega)) (nin1 (by omega)), q2, z2, by omega, by omega, by omega⟩
  refine ⟨(many : Int), rfl, by omega, by omega, ?_⟩
  rw [Int.toNat_natCast]
  refine k64_f3 (by omega) k3 q3 fun a4 a5 a6 a7 S5 s5 ops k5 e5 l5 => ?_
  unfold b_law_c4
  walk_at "wpc"
  refine (k5.tw.mono (show 799999 + 1 ≤ 800000 by omega)).drawF (by omega) (by omega) fun m2 S6 m20 m21 t6 f6 l6 => ?_
  obtain ⟨many2, rfl⟩ : ∃ many : Nat, m2 = many := ⟨m2.toNat, by omega⟩
  have k6 : T1 ns 700000 S6 S2.length s5 ops [] := ⟨t6.mono (by omega), k5.ses.frm f6 (nin1 (by omega)) (nin1 (by have := k5.e0; omega)) (nin1 (by have := k5.d0; omega)) (nin1 (by have := k5.u0; omega)), k5.hs, k5.i0, k5.e0, k5.d0, k5.u0⟩
  refine ⟨(many2 : Int), rfl, by omega, by omega, ?_⟩
  rw [Int.toNat_natCast]
  refine k64_f4 k6 (by omega) l5 e5 fun a4 S7 s7 ops r k7 e7 l7 => ?_
  unfold b_law_c5
  walk_at "wpc"
  refine ⟨_, k7.ses.ins, rfl, k7.hs.gen k7.ses ?_⟩
  unfold b_law_c6
  walk_at "wpc"
  refine ⟨S2.length, s7, ops, r, rfl, k7.ses, k7.hs, by omega, fun S8 g8 => ?_⟩
  have f8 := g8.frm
  have s8 : Ses S8 S2.length s7 := k7.ses.frm f8 (by simp) (by simp) (by simp) (by simp)
  have w8 := k7.tw.gr g8
  unfold b_law_c7
  walk_at "wpc"
  refine ⟨_, s8.ins, rfl, k7.hs.gen s8 ?_⟩
  refine oNe_M _ _ _ _ ⟨_, rfl, ?_⟩
  rw [if_neg (by simp)]
  unfold b_law_c8
  walk_at "wpc"
  refine ⟨_, rfl, .inr ⟨s7.n, ops, r, rfl, k7.hs.n1, k7.hs.n3, k7.hs.ok, by omega, fun S9 t9 p1 p2 p3 p4 p5 p6 f9 => ?_⟩⟩
  have i1 := (List.getElem?_eq_some_iff.mp s8.ins).1
  have i2 := (List.getElem?_eq_some_iff.mp s8.her).1
  have i3 := (List.getElem?_eq_some_iff.mp s8.hdn).1
  have i4 := (List.getElem?_eq_some_iff.mp s8.hun).1
  have k9 : T2 ns 600000 S9 S2.length s7 S8.length t9 ops r := ⟨(w8.frm f9 (by simp)).mono (by omega), s8.frm f9 (by simp) (by simp) (by simp) (by simp), p1, k7.hs, p2, by omega, k7.i0, k7.e0, k7.d0, k7.u0, ⟨by omega, by omega, by omega, by omega⟩, p4, p5, p6⟩
  unfold b_law_c9
  walk_at "wpc"
  refine ⟨⟨_, _, rfl, p1.ins⟩, ?_, ?_⟩
  · simp [othD, k9.s1.ins]
  refine ⟨S8.length, t9, ops, _, rfl, p1, p2.dn, .inl ⟨S2.length, s7, ops, rfl, k9.s1, k7.hs.dn, _, rfl, false, by simp [gNe, p3], ?_⟩⟩
  rw [if_neg (by simp)]
  refine ⟨_, p1.ins, rfl, p2.gen p1 ?_⟩
  refine oNe_M _ _ _ _ ⟨_, rfl, ?_⟩
  rw [if_neg (by simp)]
  refine ⟨_, p1.ins, S8.length, t9, rfl, p1, p2.sok, fun F hF => ⟨_, rfl, _, k9.s1.ins, S2.length, s7, rfl, k9.s1, k7.hs.sok, fun G hG => ⟨_, rfl, ?_⟩⟩⟩
  have ec : t9.cur = s7.cur := by rw [p2.cur, k7.hs.cur]
  have eFG : F = G := nf_uniq p2.sok.len p2.sok.len (SameL.refl _ _) hF (by rw [p3, ec]; exact hG)
  rw [if_neg (by rw [eFG, ec]; simp)]
  unfold b_law_c10
  walk_at "wpc"
  refine ⟨by omega, by omega, szLe (by omega), by omega, by omega, szLe (by omega), szLe (by simp), by omega, by omega, szLe (by omega), ?_⟩
  refine ⟨szLe (by simp), ?_⟩
  refine k64_f10 (List.replicate 8 1 ++ List.replicate 17 0 ++ List.replicate 4 1) (fun w hw => ?_) k9 fun a11 T3 w3 => ?_
  · simp only [List.mem_append, List.mem_replicate] at hw
    omega
  unfold b_law_c11
  walk_at "wpc"
  refine ⟨by omega, by omega, ?_⟩
  have sl := saveT_len k7.hs.n3 k7.hs.lim (show ops.length + r.length ≤ 20 by omega)
  refine k64_f11 (J := TL.joinL [124] (numT s7.n :: svT ops r)) (dot_free _ _ _) (by unfold saveT at sl; simp at sl; omega) w3 fun a4 a12 T4 w4 => ?_
  exact k64_c12 h
def topS (i : Nat) : Stmt := PySem.Challenge.pw_gridbases_k64_saved_sessions.main.body.getD i (.Pass ⟨0, 0, 0, 0⟩)
theorem m_is_integer : b_is_integer.mt ⟨N_is_integer, defScope (topS 16), fun _ => true⟩ (defBody (topS 16)) = true := by decide +kernel
theorem sc_is_integer : FnScope N_is_integer ["value"] (defScope (topS 16)) := ⟨rfl, rfl, rfl, by decide +kernel, rfl, by decide +kernel, by decide +kernel⟩
theorem m_is_between : b_is_between.mt ⟨N_is_between, defScope (topS 17), fun _ => true⟩ (defBody (topS 17)) = true := by decide +kernel
theorem sc_is_between : FnScope N_is_between ["value", "low", "high"] (defScope (topS 17)) := ⟨rfl, rfl, rfl, by decide +kernel, rfl, by decide +kernel, by decide +kernel⟩
theorem m_is_vector : b_is_vector.mt ⟨N_is_vector, defScope (topS 20), fun _ => true⟩ (defBody (topS 20)) = true := by decide +kernel
theorem sc_is_vector : FnScope N_is_vector ["n", "value"] (defScope (topS 20)) := ⟨rfl, rfl, rfl, by decide +kernel, rfl, by decide +kernel, by decide +kernel⟩
theorem m_check_vector : b_check_vector.mt ⟨N_check_vector, defScope (topS 21), fun _ => true⟩ (defBody (topS 21)) = true := by decide +kernel
theorem sc_check_vector : FnScope N_check_vector ["n", "value"] (defScope (topS 21)) := ⟨rfl, rfl, rfl, by decide +kernel, rfl, by decide +kernel, by decide +kernel⟩
theorem m_plus : b_plus.mt ⟨N_plus, defScope (topS 22), fun _ => true⟩ (defBody (topS 22)) = true := by decide +kernel
theorem sc_plus : FnScope N_plus ["one", "factor", "other"] (defScope (topS 22)) := ⟨rfl, rfl, rfl, by decide +kernel, rfl, by decide +kernel, by decide +kernel⟩
theorem m_sifted : b_sifted.mt ⟨N_sifted, defScope (topS 23), fun _ => true⟩ (defBody (topS 23)) = true := by decide +kernel
theorem sc_sifted : FnScope N_sifted ["rows", "n"] (defScope (topS 23)) := ⟨rfl, rfl, rfl, by decide +kernel, rfl, by decide +kernel, by decide +kernel⟩
theorem m_echelon : b_echelon.mt ⟨N_echelon, defScope (topS 24), fun _ => true⟩ (defBody (topS 24)) = true := by decide +kernel
theorem sc_echelon : FnScope N_echelon ["rows", "n"] (defScope (topS 24)) := ⟨rfl, rfl, rfl, by decide +kernel, rfl, by decide +kernel, by decide +kernel⟩
theorem m_is_generated : b_is_generated.mt ⟨N_is_generated, defScope (topS 26), fun _ => true⟩ (defBody (topS 26)) = true := by decide +kernel
theorem sc_is_generated : FnScope N_is_generated ["rows", "vector"] (defScope (topS 26)) := ⟨rfl, rfl, rfl, by decide +kernel, rfl, by decide +kernel, by decide +kernel⟩
theorem m_vector_text : b_vector_text.mt ⟨N_vector_text, defScope (topS 29), fun _ => true⟩ (defBody (topS 29)) = true := by decide +kernel
theorem sc_vector_text : FnScope N_vector_text ["vector"] (defScope (topS 29)) := ⟨rfl, rfl, rfl, by decide +kernel, rfl, by decide +kernel, by decide +kernel⟩
theorem m_operation_text : b_operation_text.mt ⟨N_operation_text, defScope (topS 31), fun _ => true⟩ (defBody (topS 31)) = true := by decide +kernel
theorem sc_operation_text : FnScope N_operation_text ["operation"] (defScope (topS 31)) := ⟨rfl, rfl, rfl, by decide +kernel, rfl, by decide +kernel, by decide +kernel⟩
theorem m_save : b_save.mt ⟨N_save, defScope (topS 32), fun _ => true⟩ (defBody (topS 32)) = true := by decide +kernel
theorem sc_save : FnScope N_save ["session"] (defScope (topS 32)) := ⟨rfl, rfl, rfl, by decide +kernel, rfl, by decide +kernel, by decide +kernel⟩
theorem m_Session_rows : b_Session_rows.mt ⟨N_Session_rows, defScope (inClass (topS 27) 8), fun _ => true⟩ (defBody (inClass (topS 27) 8)) = true := by decide +kernel
theorem sc_Session_rows : FnScope N_Session_rows ["self"] (defScope (inClass (topS 27) 8)) := ⟨rfl, rfl, rfl, by decide +kernel, rfl, by decide +kernel, by decide +kernel⟩
theorem m_Session_perform : b_Session_perform.mt ⟨N_Session_perform, defScope (inClass (topS 27) 4), fun _ => true⟩ (defBody (inClass (topS 27) 4)) = true := by decide +kernel
theorem sc_Session_perform : FnScope N_Session_perform ["self", "vectors", "operation"] (defScope (inClass (topS 27) 4)) := ⟨rfl, rfl, rfl, by decide +kernel, rfl, by decide +kernel, by decide +kernel⟩
theorem m_Session_add : b_Session_add.mt ⟨N_Session_add, defScope (inClass (topS 27) 5), fun _ => true⟩ (defBody (inClass (topS 27) 5)) = true := by decide +kernel
theorem sc_Session_add : FnScope N_Session_add ["self", "vector"] (defScope (inClass (topS 27) 5)) := ⟨rfl, rfl, rfl, by decide +kernel, rfl, by decide +kernel, by decide +kernel⟩
theorem m_Session_remove : b_Session_remove.mt ⟨N_Session_remove, defScope (inClass (topS 27) 6), fun _ => true⟩ (defBody (inClass (topS 27) 6)) = true := by decide +kernel
theorem sc_Session_remove : FnScope N_Session_remove ["self", "number"] (defScope (inClass (topS 27) 6)) := ⟨rfl, rfl, rfl, by decide +kernel, rfl, by decide +kernel, by decide +kernel⟩
theorem m_perform : b_perform.mt ⟨N_perform, defScope (topS 33), fun _ => true⟩ (defBody (topS 33)) = true := by decide +kernel
theorem sc_perform : FnScope N_perform ["session", "text"] (defScope (topS 33)) := ⟨rfl, rfl, rfl, by decide +kernel, rfl, by decide +kernel, by decide +kernel⟩
theorem m_Session_undo : b_Session_undo.mt ⟨N_Session_undo, defScope (inClass (topS 27) 12), fun _ => true⟩ (defBody (inClass (topS 27) 12)) = true := by decide +kernel
theorem sc_Session_undo : FnScope N_Session_undo ["self"] (defScope (inClass (topS 27) 12)) := ⟨rfl, rfl, rfl, by decide +kernel, rfl, by decide +kernel, by decide +kernel⟩
theorem m_Session___init__ : b_Session___init__.mt ⟨N_Session___init__, defScope (inClass (topS 27) 0), fun _ => true⟩ (defBody (inClass (topS 27) 0)) = true := by decide +kernel
theorem sc_Session___init__ : FnScope N_Session___init__ ["self", "n"] (defScope (inClass (topS 27) 0)) := ⟨rfl, rfl, rfl, by decide +kernel, rfl, by decide +kernel, by decide +kernel⟩
theorem m_load : b_load.mt ⟨N_load, defScope (topS 34), fun _ => true⟩ (defBody (topS 34)) = true := by decide +kernel
theorem sc_load : FnScope N_load ["text"] (defScope (topS 34)) := ⟨rfl, rfl, rfl, by decide +kernel, rfl, by decide +kernel, by decide +kernel⟩
theorem m__law_town : b__law_town.mt ⟨N__law_town, defScope (topS 36), fun _ => true⟩ (defBody (topS 36)) = true := by decide +kernel
theorem sc__law_town : FnScope N__law_town ["script"] (defScope (topS 36)) := ⟨rfl, rfl, rfl, by decide +kernel, rfl, by decide +kernel, by decide +kernel⟩
theorem m__law_draw : b__law_draw.mt ⟨N__law_draw, defScope (topS 37), fun _ => true⟩ (defBody (topS 37)) = true := by decide +kernel
theorem sc__law_draw : FnScope N__law_draw ["script", "town", "limit"] (defScope (topS 37)) := ⟨rfl, rfl, rfl, by decide +kernel, rfl, by decide +kernel, by decide +kernel⟩
theorem m_Session_redo : b_Session_redo.mt ⟨N_Session_redo, defScope (inClass (topS 27) 13), fun _ => true⟩ (defBody (inClass (topS 27) 13)) = true := by decide +kernel
theorem sc_Session_redo : FnScope N_Session_redo ["self"] (defScope (inClass (topS 27) 13)) := ⟨rfl, rfl, rfl, by decide +kernel, rfl, by decide +kernel, by decide +kernel⟩
theorem m__law_back : b__law_back.mt ⟨N__law_back, defScope (topS 43), fun _ => true⟩ (defBody (topS 43)) = true := by decide +kernel
theorem sc__law_back : FnScope N__law_back ["way", "session"] (defScope (topS 43)) := ⟨rfl, rfl, rfl, by decide +kernel, rfl, by decide +kernel, by decide +kernel⟩
theorem m__law_call : b__law_call.mt ⟨N__law_call, defScope (topS 44), fun _ => true⟩ (defBody (topS 44)) = true := by decide +kernel
theorem sc__law_call : FnScope N__law_call ["way", "arguments"] (defScope (topS 44)) := ⟨rfl, rfl, rfl, by decide +kernel, rfl, by decide +kernel, by decide +kernel⟩
theorem m__law_name : b__law_name.mt ⟨N__law_name, defScope (topS 39), fun _ => true⟩ (defBody (topS 39)) = true := by decide +kernel
theorem sc__law_name : FnScope N__law_name ["caught"] (defScope (topS 39)) := ⟨rfl, rfl, rfl, by decide +kernel, rfl, by decide +kernel, by decide +kernel⟩
theorem m__law_outcome : b__law_outcome.mt ⟨N__law_outcome, defScope (topS 38), fun _ => true⟩ (defBody (topS 38)) = true := by decide +kernel
theorem sc__law_outcome : FnScope N__law_outcome ["way", "arguments"] (defScope (topS 38)) := ⟨rfl, rfl, rfl, by decide +kernel, rfl, by decide +kernel, by decide +kernel⟩
theorem m__law_raises : b__law_raises.mt ⟨N__law_raises, defScope (topS 40), fun _ => true⟩ (defBody (topS 40)) = true := by decide +kernel
theorem sc__law_raises : FnScope N__law_raises ["name"] (defScope (topS 40)) := ⟨rfl, rfl, rfl, by decide +kernel, rfl, by decide +kernel, by decide +kernel⟩
theorem m__law_edit : b__law_edit.mt ⟨N__law_edit, defScope (topS 41), fun _ => true⟩ (defBody (topS 41)) = true := by decide +kernel
theorem sc__law_edit : FnScope N__law_edit ["script", "town", "n", "vectors"] (defScope (topS 41)) := ⟨rfl, rfl, rfl, by decide +kernel, rfl, by decide +kernel, by decide +kernel⟩
theorem m__law_do : b__law_do.mt ⟨N__law_do, defScope (topS 42), fun _ => true⟩ (defBody (topS 42)) = true := by decide +kernel
theorem sc__law_do : FnScope N__law_do ["session", "name", "argument"] (defScope (topS 42)) := ⟨rfl, rfl, rfl, by decide +kernel, rfl, by decide +kernel, by decide +kernel⟩
theorem m_Session_generators : b_Session_generators.mt ⟨N_Session_generators, defScope (inClass (topS 27) 7), fun _ => true⟩ (defBody (inClass (topS 27) 7)) = true := by decide +kernel
theorem sc_Session_generators : FnScope N_Session_generators ["self"] (defScope (inClass (topS 27) 7)) := ⟨rfl, rfl, rfl, by decide +kernel, rfl, by decide +kernel, by decide +kernel⟩
theorem m_Session___eq__ : b_Session___eq__.mt ⟨N_Session___eq__, defScope (inClass (topS 27) 2), fun _ => true⟩ (defBody (inClass (topS 27) 2)) = true := by decide +kernel
theorem sc_Session___eq__ : FnScope N_Session___eq__ ["self", "other"] (defScope (inClass (topS 27) 2)) := ⟨rfl, rfl, rfl, by decide +kernel, rfl, by decide +kernel, by decide +kernel⟩
theorem m_Session___str__ : b_Session___str__.mt ⟨N_Session___str__, defScope (inClass (topS 27) 3), fun _ => true⟩ (defBody (inClass (topS 27) 3)) = true := by decide +kernel
theorem sc_Session___str__ : FnScope N_Session___str__ ["self"] (defScope (inClass (topS 27) 3)) := ⟨rfl, rfl, rfl, by decide +kernel, rfl, by decide +kernel, by decide +kernel⟩
theorem m_law : b_law.mt ⟨N_law, defScope (topS 45), fun _ => true⟩ (defBody (topS 45)) = true := by decide +kernel
theorem sc_law : FnScope N_law ["script"] (defScope (topS 45)) := ⟨rfl, rfl, rfl, by decide +kernel, rfl, by decide +kernel, by decide +kernel⟩
local macro_rules | `(tactic| walk_at "rq") => `(tactic| simp only [q0, q1, q2, q3, q4, q5, q6, q7, q8, q9, q10, q11, q12, q13, q14, q15, q16, q17, q18, q19, q20, q21, q22, q23, q24, q25, q26, q27, q28, q29, q30, q31, q32, q33, q34, q35, q36, q37, q38, q39, q40, q41, q42, q43, q44, q45, q46, q47, q48, q49, q50, q51, q52, q53, q54, q55, q56, q57, q58, q59, q60, q61, q62, q63, q64, q65, q66, q67, q68, q69, q70, q71, q72, q73, q74, q75, qn0, qn1, r0, r1, r2, r3, r4, r5, r6, r7, r8, r9, r10, r11, r12, r13, r14, r15, r16, r17, r18, r19, r20, r21, r22, allC_nil, allC_cons, r23, r25a, r25b, r25c, r26a, r27a, r28a, r28b, r29a, r30a, r31a, r32a, r32b, r32c, r32d, r32e, r32f, r33a, r33b, r34a, r35a, r36a, r37a, r37b, and_true, true_and, and_self, Nat.reduceAdd, Nat.zero_add])
def HFn (K : PySem.W.Frag) (x : Str) (st : Stmt) : Prop := ∃ (f : Addr) (oc : Value) (od an : Option Addr) (osl : Array (Option Value)) (kV doc pm cdv ct : Value), PySem.W.nsIn K mainGlobals x = some (some (.ref f)) ∧ K.lookup f = some ⟨oc, od, .func (PySem.W.fnOf x x (defArgs st) (defBody st) (defScope st) .none kV doc pm an cdv ct), osl⟩ ∧ PySem.W.codeIn K cdv x = true ∧ PySem.W.keepIn K (.ref f) = true
def HMt (K : PySem.W.Frag) (C : Addr) (x y : Str) (st : Stmt) : Prop := ∃ (f : Addr) (oc : Value) (od an : Option Addr) (osl : Array (Option Value)) (kV doc pm cdv ct : Value), PySem.W.findIn K (.ref C) x = some (some (.ref f)) ∧ PySem.W.isFn K (.ref f) = true ∧ K.lookup f = some ⟨oc, od, .func (PySem.W.fnOf x y (defArgs st) (defBody st) (defScope st) .none kV doc pm an cdv ct), osl⟩ ∧ PySem.W.codeIn K cdv y = true ∧ PySem.W.keepIn K (.ref f) = true
def HEx (K : PySem.W.Frag) (x : Str) : Prop := ∃ C, PySem.W.nsIn K mainGlobals x = some (some (.ref C)) ∧ PySem.W.excIn K C [.type "ValueError", .type "Exception", .type "BaseException", .type "object"] "ValueError.__new__" = true ∧ PySem.W.keepIn K (.ref C) = true ∧ PySem.W.subIn K (.ref C) (.type "BaseException") = some true ∧ PySem.W.typeIn K (.ref C) = some (.type "type")
def XOk (K : PySem.W.Frag) (mg : Str → Option Value) (x : Str) : Prop := ∃ C, mg x = some (.ref C) ∧ PySem.W.excIn K C [.type "ValueError", .type "Exception", .type "BaseException", .type "object"] "ValueError.__new__" = true ∧ PySem.W.keepIn K (.ref C) = true ∧ PySem.W.subIn K (.ref C) (.type "BaseException") = some true ∧ PySem.W.typeIn K (.ref C) = some (.type "type")
theorem HFn.mk' {K : PySem.W.Frag} {x : Str} {st : Stmt} {f : Addr} {oc : Value} {od an : Option Addr} {osl : Array (Option Value)} {kV doc pm cdv ct : Value} (a : PySem.W.nsIn K mainGlobals x = some (some (.ref f))) (l : K.lookup f = some ⟨oc, od, .func (PySem.W.fnOf x x (defArgs st) (defBody st) (defScope st) .none kV doc pm an cdv ct), osl⟩) (c : PySem.W.codeIn K cdv x = true) (k : PySem.W.keepIn K (.ref f) = true) : HFn K x st := ⟨f, oc, od, an, osl, kV, doc, pm, cdv, ct, a, l, c, k⟩
theorem HMt.mk' {K : PySem.W.Frag} {C : Addr} {x y : Str} {st : Stmt} {f : Addr} {oc : Value} {od an : Option Addr} {osl : Array (Option Value)} {kV doc pm cdv ct : Value} (a : PySem.W.findIn K (.ref C) x = some (some (.ref f))) (i : PySem.W.isFn K (.ref f) = true) (l : K.lookup f = some ⟨oc, od, .func (PySem.W.fnOf x y (defArgs st) (defBody st) (defScope st) .none kV doc pm an cdv ct), osl⟩) (c : PySem.W.codeIn K cdv y = true) (k : PySem.W.keepIn K (.ref f) = true) : HMt K C x y st := ⟨f, oc, od, an, osl, kV, doc, pm, cdv, ct, a, i, l, c, k⟩
theorem HEx.mk' {K : PySem.W.Frag} {x : Str} {C : Addr} (a : PySem.W.nsIn K mainGlobals x = some (some (.ref C))) (h : PySem.W.excIn K C [.type "ValueError", .type "Exception", .type "BaseException", .type "object"] "ValueError.__new__" = true) (k : PySem.W.keepIn K (.ref C) = true) (s : PySem.W.subIn K (.ref C) (.type "BaseException") = some true) (t : PySem.W.typeIn K (.ref C) = some (.type "type")) : HEx K x := ⟨C, a, h, k, s, t⟩
section
variable {P : Program} {w : World} {K : PySem.W.Frag} {T : List (Addr × Str)} {mg : Str → Option Value} {base h : Heap}
theorem HEx.ok {x : Str} (H : HEx K x) (X : K.In h) (G : h.Ns mainGlobals mg) : XOk K mg x := by
  obtain ⟨C, a, r⟩ := H
  exact ⟨C, PySem.W.mg_of X G a, r⟩
theorem fn_H {x : Str} {st : Stmt} {N ps : List Str} {k n : Nat} {b : DB} {C : Ct} (H : HFn K x st) (X : K.In h) (G : h.Ns mainGlobals mg) (S : FnScope N ps (defScope st)) (hn : ps.length = n)
    (hb : ∀ (kV doc pm : Value) (an : Option Addr) (cdv ct : Value) (us : List Value), us.length = ps.length → bindArgs (PySem.W.fnOf x x (defArgs st) (defBody st) (defScope st) .none kV doc pm an cdv ct) ⟨us, []⟩ = pure (ps.zip us))
    (hm : b.mt ⟨N, defScope st, fun _ => true⟩ (defBody st) = true) (hw : ∀ {ds S Q X}, C ds S Q X → ctOf N.length b ds S Q X) (hq : ∀ A cdv, Room k A → b.rq ⟨P, w, K, mg, base, A, cdv, x ++ ".<locals>.", T⟩) : FnAt P w ⟨K, T⟩ mg base (k + 1) x n C := by
  obtain ⟨f, oc, od, an, osl, kV, doc, pm, cdv, ct, a, l, c, kp⟩ := H
  exact fn_atK (K := ⟨K, T⟩) X G a l c kp S hn hb hm hw fun A hr => hq A cdv hr
theorem met_H {CS : Addr} {c x y : Str} {st : Stmt} {N ps : List Str} {k n : Nat} {b : DB} {C : Ct} (H : HMt K CS x y st) (aC : PySem.W.nsIn K mainGlobals c = some (some (.ref CS))) (cl : Cls K CS) (S : FnScope N ps (defScope st)) (hn : ps.length = n)
    (hb : ∀ (kV doc pm : Value) (an : Option Addr) (cdv ct : Value) (us : List Value), us.length = ps.length → bindArgs (PySem.W.fnOf x y (defArgs st) (defBody st) (defScope st) .none kV doc pm an cdv ct) ⟨us, []⟩ = pure (ps.zip us))
    (hm : b.mt ⟨N, defScope st, fun _ => true⟩ (defBody st) = true) (hw : ∀ {ds S Q X}, C ds S Q X → ctOf N.length b ds S Q X) (hq : ∀ A cdv, Room k A → b.rq ⟨P, w, K, mg, base, A, cdv, y ++ ".<locals>.", T⟩) : MethAt P w ⟨K, T⟩ mg base (k + 1) c x n C := by
  obtain ⟨f, oc, od, an, osl, kV, doc, pm, cdv, ct, a, i, l, cc, kp⟩ := H
  exact ⟨CS, f, _, ps, aC, cl, ⟨a, i, kp⟩, met_ok (K := ⟨K, T⟩) l cc S hn hm hw fun A hr => hq A cdv hr, (fun_mk l cc kp).binds hb⟩
theorem make_H {CS : Addr} {c y : Str} {st : Stmt} {N ps : List Str} {k n : Nat} {b : DB} {C : Ct} (H : HMt K CS "__init__" y st) (X : K.In h) (G : h.Ns mainGlobals mg) (aC : PySem.W.nsIn K mainGlobals c = some (some (.ref CS))) (mk : PySem.W.makesIn K CS = true) (kc : PySem.W.keepIn K (.ref CS) = true) (S : FnScope N ps (defScope st)) (hn : ps.length = n)
    (hb : ∀ (kV doc pm : Value) (an : Option Addr) (cdv ct : Value) (us : List Value), us.length = ps.length → bindArgs (PySem.W.fnOf "__init__" y (defArgs st) (defBody st) (defScope st) .none kV doc pm an cdv ct) ⟨us, []⟩ = pure (ps.zip us))
    (hm : b.mt ⟨N, defScope st, fun _ => true⟩ (defBody st) = true) (hw : ∀ {ds S Q X}, C ds S Q X → ctOf N.length b ds S Q X) (hq : ∀ A cdv, Room k A → b.rq ⟨P, w, K, mg, base, A, cdv, y ++ ".<locals>.", T⟩) : ∀ k', k + 1 ≤ k' → MakeAt P w ⟨K, T⟩ mg base k' c n C := by
  obtain ⟨f, oc, od, an, osl, kV, doc, pm, cdv, ct, a, i, l, cc, kp⟩ := H
  exact fun k' hk => ⟨CS, f, _, ps, aC, PySem.W.mg_of X G aC, ⟨mk, a, i, kc⟩, (met_ok (K := ⟨K, T⟩) l cc S hn hm hw fun A hr => hq A cdv hr).mono hk, (fun_mk l cc kp).binds hb⟩
def HCl (K : PySem.W.Frag) (CS : Addr) : Prop := (PySem.W.plainGet K CS Str.empty = true ∧ PySem.W.hasDictIn K CS = true ∧ PySem.W.plainOver K CS = true ∧ PySem.W.findIn K (.ref CS) "__setattr__" = some (some (.builtin "object.__setattr__")) ∧ PySem.W.makesIn K CS = true ∧ PySem.W.keepIn K (.ref CS) = true) ∧ PySem.W.findIn K (.ref CS) "current" = some none ∧ PySem.W.findIn K (.ref CS) "done" = some none ∧ PySem.W.findIn K (.ref CS) "earlier" = some none ∧ PySem.W.findIn K (.ref CS) "size" = some none ∧ PySem.W.findIn K (.ref CS) "undone" = some none
def HIc (K : PySem.W.Frag) (CS : Addr) : Prop := PySem.W.findIn K (.ref CS) "__class__" = some (some (.builtin "object.__class__")) ∧ PySem.W.specialIn K (.builtin "object.__class__") "__get__" = some (some (.builtin "getset_descriptor.__get__")) ∧ PySem.W.takesIn K (.builtin "object.__class__") = some true ∧ PySem.W.mroIn K CS (.type "object") = some true
def HKc (K : PySem.W.Frag) (CS : Addr) : Bool := PySem.W.kitOne K (.ref CS) (.ref CS) == some true && plTys.all fun t => PySem.W.kitOne K (.type t) (.ref CS) == some false
theorem isC_H {CS : Addr} {c : Str} {A : Around} {cd : Value} {q : Str} {T : List (Addr × Str)} (X : K.In h) (G : h.Ns mainGlobals mg) (aC : PySem.W.nsIn K mainGlobals c = some (some (.ref CS))) (cl : Cls K CS) (I : HIc K CS) (b : HKc K CS = true) : IsCOk ⟨P, w, K, mg, base, A, cd, q, T⟩ c := by
  obtain ⟨a1, a2, a3, a4⟩ := I
  simp only [HKc, Bool.and_eq_true, beq_iff_eq, List.all_eq_true] at b
  exact ⟨CS, aC, PySem.W.mg_of X G aC, ⟨cl, a1, a2, a3, a4, b.1⟩, b.2⟩
def HNe (K : PySem.W.Frag) (CS : Addr) : Prop := PySem.W.findIn K (.ref CS) "__ne__" = some (some (.builtin "object.__ne__")) ∧ PySem.W.mroIn K CS (.type "object") = some true
def EqAt (P : Program) (w : World) (K : Fg) (mg : Str → Option Value) (base : Heap) (k : Nat) (c : Str) (C : Ct) : Prop := ∃ CS a fd ps, PySem.W.nsIn K.K mainGlobals c = some (some (.ref CS)) ∧ EqC K.K CS a ∧ FnOk P w K.K mg base (L2.CX P w) k a fd ps (spOf K mg 2 C) ∧ L2.Binds K.K fd ps []
theorem EqAt.ok {A : Around} {cd : Value} {q : Str} {j k : Nat} {c : Str} {C : Ct} (H : EqAt P w ⟨K, T⟩ mg base j c C) (hk : j ≤ k) (hr : Room (k + 1) A) : EqOk ⟨P, w, K, mg, base, A, cd, q, T⟩ c C := by
  obtain ⟨CS, a, fd, ps, h1, h2, h3, h4⟩ := H
  exact ⟨k, CS, a, fd, ps, h1, h2, h3.mono hk, h4, hr⟩
theorem eq_H {CS : Addr} {c y : Str} {st : Stmt} {N ps : List Str} {k : Nat} {b : DB} {C : Ct} (H : HMt K CS "__eq__" y st) (aC : PySem.W.nsIn K mainGlobals c = some (some (.ref CS))) (hN : HNe K CS) (S : FnScope N ps (defScope st)) (hn : ps.length = 2)
    (hb : ∀ (kV doc pm : Value) (an : Option Addr) (cdv ct : Value) (us : List Value), us.length = ps.length → bindArgs (PySem.W.fnOf "__eq__" y (defArgs st) (defBody st) (defScope st) .none kV doc pm an cdv ct) ⟨us, []⟩ = pure (ps.zip us))
    (hm : b.mt ⟨N, defScope st, fun _ => true⟩ (defBody st) = true) (hw : ∀ {ds S Q X}, C ds S Q X → ctOf N.length b ds S Q X) (hq : ∀ A cdv, Room k A → b.rq ⟨P, w, K, mg, base, A, cdv, y ++ ".<locals>.", T⟩) : EqAt P w ⟨K, T⟩ mg base (k + 1) c C := by
  obtain ⟨f, oc, od, an, osl, kV, doc, pm, cdv, ct, a, i, l, cc, kp⟩ := H
  exact ⟨CS, f, _, ps, aC, ⟨a, i, hN.1, hN.2⟩, met_ok (K := ⟨K, T⟩) l cc S hn hm hw fun A hr => hq A cdv hr, (fun_mk l cc kp).binds hb⟩
def HBl (K : PySem.W.Frag) : Prop := PySem.W.nsIn K mainGlobals "ValueError" = some none ∧ PySem.W.nsIn K mainGlobals "abs" = some none ∧ PySem.W.nsIn K mainGlobals "all" = some none ∧ PySem.W.nsIn K mainGlobals "bool" = some none ∧ PySem.W.nsIn K mainGlobals "int" = some none ∧ PySem.W.nsIn K mainGlobals "isinstance" = some none ∧ PySem.W.nsIn K mainGlobals "len" = some none ∧ PySem.W.nsIn K mainGlobals "list" = some none ∧ PySem.W.nsIn K mainGlobals "range" = some none ∧ PySem.W.nsIn K mainGlobals "sorted" = some none ∧ PySem.W.nsIn K mainGlobals "str" = some none ∧ PySem.W.nsIn K mainGlobals "tuple" = some none ∧ PySem.W.nsIn K mainGlobals "zip" = some none
def WBl (mg : Str → Option Value) : Prop := mg "ValueError" = none ∧ mg "abs" = none ∧ mg "all" = none ∧ mg "bool" = none ∧ mg "int" = none ∧ mg "isinstance" = none ∧ mg "len" = none ∧ mg "list" = none ∧ mg "range" = none ∧ mg "sorted" = none ∧ mg "str" = none ∧ mg "tuple" = none ∧ mg "zip" = none
theorem HBl.ok (H : HBl K) (X : K.In h) (G : h.Ns mainGlobals mg) : WBl mg := by
  obtain ⟨zValueError, zabs, zall, zbool, zint, zisinstance, zlen, zlist, zrange, zsorted, zstr, ztuple, zzip⟩ := H
  exact ⟨PySem.W.mg_none_of X G zValueError, PySem.W.mg_none_of X G zabs, PySem.W.mg_none_of X G zall, PySem.W.mg_none_of X G zbool, PySem.W.mg_none_of X G zint, PySem.W.mg_none_of X G zisinstance, PySem.W.mg_none_of X G zlen, PySem.W.mg_none_of X G zlist, PySem.W.mg_none_of X G zrange, PySem.W.mg_none_of X G zsorted, PySem.W.mg_none_of X G zstr, PySem.W.mg_none_of X G ztuple, PySem.W.mg_none_of X G zzip⟩
theorem HG_LIMIT_mk {K : PySem.W.Frag} {t : Tok} (a : PySem.W.nsIn K mainGlobals "LIMIT" = some (some (.int 1000000 t))) : ∃ t, PySem.W.nsIn K mainGlobals "LIMIT" = some (some (.int 1000000 t)) := ⟨t, a⟩
def HG_LIMIT (K : PySem.W.Frag) : Prop := ∃ t, PySem.W.nsIn K mainGlobals "LIMIT" = some (some (.int 1000000 t))
theorem TF_is_integer (X : K.In h) (G : h.Ns mainGlobals mg) (B : WBl mg)  (H : HFn K "is_integer" (topS 16)) : FnAt P w ⟨K, T⟩ mg base 1 "is_integer" 1 c_is_integer := by
  exact fn_H H X G sc_is_integer rfl (fun _ _ _ _ _ _ us hl => match us, hl with | [_], _ => rfl) m_is_integer w_is_integer (fun A cd hr => by
    obtain ⟨zValueError, zabs, zall, zbool, zint, zisinstance, zlen, zlist, zrange, zsorted, zstr, ztuple, zzip⟩ := B
    simp only [b_is_integer]
    (try walk_at "rq")
    (try exact trivial)
    all_goals (repeat' (first | apply And.intro | assumption)))
theorem TF_is_between (X : K.In h) (G : h.Ns mainGlobals mg) (B : WBl mg) (F_is_integer : FnAt P w ⟨K, T⟩ mg base 1 "is_integer" 1 c_is_integer) (H : HFn K "is_between" (topS 17)) : FnAt P w ⟨K, T⟩ mg base 2 "is_between" 3 c_is_between := by
  exact fn_H H X G sc_is_between rfl (fun _ _ _ _ _ _ us hl => match us, hl with | [_, _, _], _ => rfl) m_is_between w_is_between (fun A cd hr => by
    obtain ⟨zValueError, zabs, zall, zbool, zint, zisinstance, zlen, zlist, zrange, zsorted, zstr, ztuple, zzip⟩ := B
    simp only [b_is_between]
    (try walk_at "rq")
    (try exact trivial)
    all_goals (repeat' (first | apply And.intro | assumption | exact ⟨1, F_is_integer.mono (by decide), hr⟩)))
theorem TF_is_vector (X : K.In h) (G : h.Ns mainGlobals mg) (B : WBl mg) (gLIMIT : ∃ t, mg "LIMIT" = some (.int 1000000 t)) (F_is_between : FnAt P w ⟨K, T⟩ mg base 2 "is_between" 3 c_is_between) (H : HFn K "is_vector" (topS 20)) : FnAt P w ⟨K, T⟩ mg base 3 "is_vector" 2 c_is_vector := by
  exact fn_H H X G sc_is_vector rfl (fun _ _ _ _ _ _ us hl => match us, hl with | [_, _], _ => rfl) m_is_vector w_is_vector (fun A cd hr => by
    obtain ⟨zValueError, zabs, zall, zbool, zint, zisinstance, zlen, zlist, zrange, zsorted, zstr, ztuple, zzip⟩ := B
    simp only [b_is_vector]
    (try walk_at "rq")
    (try exact trivial)
    all_goals (repeat' (first | apply And.intro | assumption | exact ⟨2, F_is_between.mono (by decide), hr⟩)))
theorem TF_check_vector (X : K.In h) (G : h.Ns mainGlobals mg) (B : WBl mg) (XInvalidVector : XOk K mg "InvalidVector") (F_is_vector : FnAt P w ⟨K, T⟩ mg base 3 "is_vector" 2 c_is_vector) (H : HFn K "check_vector" (topS 21)) : FnAt P w ⟨K, T⟩ mg base 4 "check_vector" 2 c_check_vector := by
  exact fn_H H X G sc_check_vector rfl (fun _ _ _ _ _ _ us hl => match us, hl with | [_, _], _ => rfl) m_check_vector w_check_vector (fun A cd hr => by
    obtain ⟨zValueError, zabs, zall, zbool, zint, zisinstance, zlen, zlist, zrange, zsorted, zstr, ztuple, zzip⟩ := B
    simp only [b_check_vector]
    (try walk_at "rq")
    (try exact trivial)
    all_goals (repeat' (first | apply And.intro | assumption | exact ⟨3, F_is_vector.mono (by decide), hr⟩)))
theorem TF_plus (X : K.In h) (G : h.Ns mainGlobals mg) (B : WBl mg)  (H : HFn K "plus" (topS 22)) : FnAt P w ⟨K, T⟩ mg base 1 "plus" 3 c_plus := by
  exact fn_H H X G sc_plus rfl (fun _ _ _ _ _ _ us hl => match us, hl with | [_, _, _], _ => rfl) m_plus w_plus (fun A cd hr => by
    obtain ⟨zValueError, zabs, zall, zbool, zint, zisinstance, zlen, zlist, zrange, zsorted, zstr, ztuple, zzip⟩ := B
    simp only [b_plus]
    (try walk_at "rq")
    (try exact trivial)
    all_goals (repeat' (first | apply And.intro | assumption)))
theorem TF_sifted (X : K.In h) (G : h.Ns mainGlobals mg) (B : WBl mg) (F_plus : FnAt P w ⟨K, T⟩ mg base 1 "plus" 3 c_plus) {cS PS : Addr} (hT : T = [(PS, ("sifted" : Str) ++ ".<locals>." ++ "<lambda>")]) (TB : LamX.TabB base mg cS PS) {fsifted : Addr} {odsifted ansifted : Option Addr} {slsifted : Array (Option Value)} {ocsifted kVsifted dcsifted pmsifted ctsifted : Value}
    (asifted : PySem.W.nsIn K mainGlobals "sifted" = some (some (.ref fsifted))) (lsifted : K.lookup fsifted = some ⟨ocsifted, odsifted, .func (PySem.W.fnOf "sifted" "sifted" (defArgs (topS 23)) (defBody (topS 23)) (defScope (topS 23)) .none kVsifted dcsifted pmsifted ansifted (.ref cS) ctsifted), slsifted⟩) (csifted : PySem.W.codeIn K (.ref cS) "sifted" = true) (ksifted : PySem.W.keepIn K (.ref fsifted) = true) : FnAt P w ⟨K, T⟩ mg base 2 "sifted" 2 c_sifted := by
  subst hT
  exact fn_atK (K := ⟨K, _⟩) X G asifted lsifted csifted ksifted sc_sifted rfl (fun _ _ _ _ _ _ us hl => match us, hl with | [_, _], _ => rfl) m_sifted w_sifted (fun A hr => by
    obtain ⟨zValueError, zabs, zall, zbool, zint, zisinstance, zlen, zlist, zrange, zsorted, zstr, ztuple, zzip⟩ := B
    simp only [b_sifted]
    (try walk_at "rq")
    (try exact trivial)
    all_goals (repeat' (first | apply And.intro | assumption | exact ⟨1, F_plus.mono (by decide), hr⟩ | exact ⟨cS, PS, rfl, TB, rfl⟩)))
theorem TF_echelon (X : K.In h) (G : h.Ns mainGlobals mg) (B : WBl mg) (F_sifted : FnAt P w ⟨K, T⟩ mg base 2 "sifted" 2 c_sifted) (H : HFn K "echelon" (topS 24)) : FnAt P w ⟨K, T⟩ mg base 3 "echelon" 2 c_echelon := by
  exact fn_H H X G sc_echelon rfl (fun _ _ _ _ _ _ us hl => match us, hl with | [_, _], _ => rfl) m_echelon w_echelon (fun A cd hr => by
    obtain ⟨zValueError, zabs, zall, zbool, zint, zisinstance, zlen, zlist, zrange, zsorted, zstr, ztuple, zzip⟩ := B
    simp only [b_echelon]
    (try walk_at "rq")
    (try exact trivial)
    all_goals (repeat' (first | apply And.intro | assumption | exact ⟨2, F_sifted.mono (by decide), hr⟩)))
theorem TF_is_generated (X : K.In h) (G : h.Ns mainGlobals mg) (B : WBl mg) (F_plus : FnAt P w ⟨K, T⟩ mg base 1 "plus" 3 c_plus) (H : HFn K "is_generated" (topS 26)) : FnAt P w ⟨K, T⟩ mg base 2 "is_generated" 2 c_is_generated := by
  exact fn_H H X G sc_is_generated rfl (fun _ _ _ _ _ _ us hl => match us, hl with | [_, _], _ => rfl) m_is_generated w_is_generated (fun A cd hr => by
    obtain ⟨zValueError, zabs, zall, zbool, zint, zisinstance, zlen, zlist, zrange, zsorted, zstr, ztuple, zzip⟩ := B
    simp only [b_is_generated]
    (try walk_at "rq")
    (try exact trivial)
    all_goals (repeat' (first | apply And.intro | assumption | exact ⟨1, F_plus.mono (by decide), hr⟩)))
theorem TF_vector_text (X : K.In h) (G : h.Ns mainGlobals mg) (B : WBl mg)  (H : HFn K "vector_text" (topS 29)) : FnAt P w ⟨K, T⟩ mg base 1 "vector_text" 1 c_vector_text := by
  exact fn_H H X G sc_vector_text rfl (fun _ _ _ _ _ _ us hl => match us, hl with | [_], _ => rfl) m_vector_text w_vector_text (fun A cd hr => by
    obtain ⟨zValueError, zabs, zall, zbool, zint, zisinstance, zlen, zlist, zrange, zsorted, zstr, ztuple, zzip⟩ := B
    simp only [b_vector_text]
    (try walk_at "rq")
    (try exact trivial)
    all_goals (repeat' (first | apply And.intro | assumption)))
theorem TF_operation_text (X : K.In h) (G : h.Ns mainGlobals mg) (B : WBl mg) (F_vector_text : FnAt P w ⟨K, T⟩ mg base 1 "vector_text" 1 c_vector_text) (H : HFn K "operation_text" (topS 31)) : FnAt P w ⟨K, T⟩ mg base 2 "operation_text" 1 c_operation_text := by
  exact fn_H H X G sc_operation_text rfl (fun _ _ _ _ _ _ us hl => match us, hl with | [_], _ => rfl) m_operation_text w_operation_text (fun A cd hr => by
    obtain ⟨zValueError, zabs, zall, zbool, zint, zisinstance, zlen, zlist, zrange, zsorted, zstr, ztuple, zzip⟩ := B
    simp only [b_operation_text]
    (try walk_at "rq")
    (try exact trivial)
    all_goals (repeat' (first | apply And.intro | assumption | exact ⟨1, F_vector_text.mono (by decide), hr⟩)))
theorem TF_save (X : K.In h) (G : h.Ns mainGlobals mg) (B : WBl mg) {CS : Addr} (aCS : PySem.W.nsIn K mainGlobals "Session" = some (some (.ref CS))) (hC : HCl K CS) (F_operation_text : FnAt P w ⟨K, T⟩ mg base 2 "operation_text" 1 c_operation_text) (H : HFn K "save" (topS 32)) : FnAt P w ⟨K, T⟩ mg base 3 "save" 1 c_save := by
  obtain ⟨⟨pgCS, hdCS, poCS, saCS, mkCS, kcCS⟩, nfcurrent, nfdone, nfearlier, nfsize, nfundone⟩ := hC; have clCS : Cls K CS := ⟨pgCS, hdCS, poCS, saCS⟩
  exact fn_H H X G sc_save rfl (fun _ _ _ _ _ _ us hl => match us, hl with | [_], _ => rfl) m_save w_save (fun A cd hr => by
    obtain ⟨zValueError, zabs, zall, zbool, zint, zisinstance, zlen, zlist, zrange, zsorted, zstr, ztuple, zzip⟩ := B
    simp only [b_save, b_save_c1, b_save_c2]
    (try walk_at "rq")
    (try exact trivial)
    all_goals (repeat' (first | apply And.intro | assumption | exact ⟨2, F_operation_text.mono (by decide), hr⟩ | exact ⟨_, aCS, clCS, nfcurrent⟩ | exact ⟨_, aCS, clCS, nfdone⟩ | exact ⟨_, aCS, clCS, nfearlier⟩ | exact ⟨_, aCS, clCS, nfsize⟩ | exact ⟨_, aCS, clCS, nfundone⟩)))
theorem TM_Session_rows (X : K.In h) (G : h.Ns mainGlobals mg) (B : WBl mg) {CS : Addr} (aCS : PySem.W.nsIn K mainGlobals "Session" = some (some (.ref CS))) (hC : HCl K CS) (F_echelon : FnAt P w ⟨K, T⟩ mg base 3 "echelon" 2 c_echelon) (H : HMt K CS "rows" "Session.rows" (inClass (topS 27) 8)) : MethAt P w ⟨K, T⟩ mg base 4 "Session" "rows" 1 c_Session_rows := by
  obtain ⟨⟨pgCS, hdCS, poCS, saCS, mkCS, kcCS⟩, nfcurrent, nfdone, nfearlier, nfsize, nfundone⟩ := hC; have clCS : Cls K CS := ⟨pgCS, hdCS, poCS, saCS⟩
  exact met_H H aCS clCS sc_Session_rows rfl (fun _ _ _ _ _ _ us hl => match us, hl with | [_], _ => rfl) m_Session_rows w_Session_rows (fun A cd hr => by
    obtain ⟨zValueError, zabs, zall, zbool, zint, zisinstance, zlen, zlist, zrange, zsorted, zstr, ztuple, zzip⟩ := B
    simp only [b_Session_rows]
    (try walk_at "rq")
    (try exact trivial)
    all_goals (repeat' (first | apply And.intro | assumption | exact ⟨3, F_echelon.mono (by decide), hr⟩ | exact ⟨_, aCS, clCS, nfcurrent⟩ | exact ⟨_, aCS, clCS, nfdone⟩ | exact ⟨_, aCS, clCS, nfearlier⟩ | exact ⟨_, aCS, clCS, nfsize⟩ | exact ⟨_, aCS, clCS, nfundone⟩)))
theorem TM_Session_perform (X : K.In h) (G : h.Ns mainGlobals mg) (B : WBl mg) {CS : Addr} (aCS : PySem.W.nsIn K mainGlobals "Session" = some (some (.ref CS))) (hC : HCl K CS) (H : HMt K CS "perform" "Session.perform" (inClass (topS 27) 4)) : MethAt P w ⟨K, T⟩ mg base 1 "Session" "perform" 3 c_Session_perform := by
  obtain ⟨⟨pgCS, hdCS, poCS, saCS, mkCS, kcCS⟩, nfcurrent, nfdone, nfearlier, nfsize, nfundone⟩ := hC; have clCS : Cls K CS := ⟨pgCS, hdCS, poCS, saCS⟩
  exact met_H H aCS clCS sc_Session_perform rfl (fun _ _ _ _ _ _ us hl => match us, hl with | [_, _, _], _ => rfl) m_Session_perform w_Session_perform (fun A cd hr => by
    obtain ⟨zValueError, zabs, zall, zbool, zint, zisinstance, zlen, zlist, zrange, zsorted, zstr, ztuple, zzip⟩ := B
    simp only [b_Session_perform]
    (try walk_at "rq")
    (try exact trivial)
    all_goals (repeat' (first | apply And.intro | assumption | exact ⟨_, aCS, clCS, nfcurrent⟩ | exact ⟨_, aCS, clCS, nfdone⟩ | exact ⟨_, aCS, clCS, nfearlier⟩ | exact ⟨_, aCS, clCS, nfsize⟩ | exact ⟨_, aCS, clCS, nfundone⟩)))
theorem TM_Session_add (X : K.In h) (G : h.Ns mainGlobals mg) (B : WBl mg) (XTooMany : XOk K mg "TooMany") {CS : Addr} (aCS : PySem.W.nsIn K mainGlobals "Session" = some (some (.ref CS))) (hC : HCl K CS) (F_check_vector : FnAt P w ⟨K, T⟩ mg base 4 "check_vector" 2 c_check_vector) (F_is_generated : FnAt P w ⟨K, T⟩ mg base 2 "is_generated" 2 c_is_generated) (M_Session_rows : MethAt P w ⟨K, T⟩ mg base 4 "Session" "rows" 1 c_Session_rows) (M_Session_perform : MethAt P w ⟨K, T⟩ mg base 1 "Session" "perform" 3 c_Session_perform) (H : HMt K CS "add" "Session.add" (inClass (topS 27) 5)) : MethAt P w ⟨K, T⟩ mg base 5 "Session" "add" 2 c_Session_add := by
  obtain ⟨⟨pgCS, hdCS, poCS, saCS, mkCS, kcCS⟩, nfcurrent, nfdone, nfearlier, nfsize, nfundone⟩ := hC; have clCS : Cls K CS := ⟨pgCS, hdCS, poCS, saCS⟩
  exact met_H H aCS clCS sc_Session_add rfl (fun _ _ _ _ _ _ us hl => match us, hl with | [_, _], _ => rfl) m_Session_add w_Session_add (fun A cd hr => by
    obtain ⟨zValueError, zabs, zall, zbool, zint, zisinstance, zlen, zlist, zrange, zsorted, zstr, ztuple, zzip⟩ := B
    simp only [b_Session_add]
    (try walk_at "rq")
    (try exact trivial)
    all_goals (repeat' (first | apply And.intro | assumption | exact ⟨4, F_check_vector.mono (by decide), hr⟩ | exact ⟨4, F_is_generated.mono (by decide), hr⟩ | exact ⟨4, M_Session_rows.mono (by decide), hr⟩ | exact ⟨4, M_Session_perform.mono (by decide), hr⟩ | exact ⟨_, aCS, clCS, nfcurrent⟩ | exact ⟨_, aCS, clCS, nfdone⟩ | exact ⟨_, aCS, clCS, nfearlier⟩ | exact ⟨_, aCS, clCS, nfsize⟩ | exact ⟨_, aCS, clCS, nfundone⟩)))
theorem TM_Session_remove (X : K.In h) (G : h.Ns mainGlobals mg) (B : WBl mg) (XInvalidNumber : XOk K mg "InvalidNumber") {CS : Addr} (aCS : PySem.W.nsIn K mainGlobals "Session" = some (some (.ref CS))) (hC : HCl K CS) (F_is_between : FnAt P w ⟨K, T⟩ mg base 2 "is_between" 3 c_is_between) (M_Session_perform : MethAt P w ⟨K, T⟩ mg base 1 "Session" "perform" 3 c_Session_perform) (H : HMt K CS "remove" "Session.remove" (inClass (topS 27) 6)) : MethAt P w ⟨K, T⟩ mg base 3 "Session" "remove" 2 c_Session_remove := by
  obtain ⟨⟨pgCS, hdCS, poCS, saCS, mkCS, kcCS⟩, nfcurrent, nfdone, nfearlier, nfsize, nfundone⟩ := hC; have clCS : Cls K CS := ⟨pgCS, hdCS, poCS, saCS⟩
  exact met_H H aCS clCS sc_Session_remove rfl (fun _ _ _ _ _ _ us hl => match us, hl with | [_, _], _ => rfl) m_Session_remove w_Session_remove (fun A cd hr => by
    obtain ⟨zValueError, zabs, zall, zbool, zint, zisinstance, zlen, zlist, zrange, zsorted, zstr, ztuple, zzip⟩ := B
    simp only [b_Session_remove]
    (try walk_at "rq")
    (try exact trivial)
    all_goals (repeat' (first | apply And.intro | assumption | exact ⟨2, F_is_between.mono (by decide), hr⟩ | exact ⟨2, M_Session_perform.mono (by decide), hr⟩ | exact ⟨_, aCS, clCS, nfcurrent⟩ | exact ⟨_, aCS, clCS, nfdone⟩ | exact ⟨_, aCS, clCS, nfearlier⟩ | exact ⟨_, aCS, clCS, nfsize⟩ | exact ⟨_, aCS, clCS, nfundone⟩)))
theorem TF_perform (X : K.In h) (G : h.Ns mainGlobals mg) (B : WBl mg) (M_Session_add : MethAt P w ⟨K, T⟩ mg base 5 "Session" "add" 2 c_Session_add) (M_Session_remove : MethAt P w ⟨K, T⟩ mg base 3 "Session" "remove" 2 c_Session_remove) (H : HFn K "perform" (topS 33)) : FnAt P w ⟨K, T⟩ mg base 6 "perform" 2 c_perform := by
  exact fn_H H X G sc_perform rfl (fun _ _ _ _ _ _ us hl => match us, hl with | [_, _], _ => rfl) m_perform w_perform (fun A cd hr => by
    obtain ⟨zValueError, zabs, zall, zbool, zint, zisinstance, zlen, zlist, zrange, zsorted, zstr, ztuple, zzip⟩ := B
    simp only [b_perform, b_perform_c1]
    (try walk_at "rq")
    (try exact trivial)
    all_goals (repeat' (first | apply And.intro | assumption | exact ⟨5, M_Session_add.mono (by decide), hr⟩ | exact ⟨5, M_Session_remove.mono (by decide), hr⟩)))
theorem TM_Session_undo (X : K.In h) (G : h.Ns mainGlobals mg) (B : WBl mg) (XNothingToUndo : XOk K mg "NothingToUndo") {CS : Addr} (aCS : PySem.W.nsIn K mainGlobals "Session" = some (some (.ref CS))) (hC : HCl K CS) (H : HMt K CS "undo" "Session.undo" (inClass (topS 27) 12)) : MethAt P w ⟨K, T⟩ mg base 1 "Session" "undo" 1 c_Session_undo := by
  obtain ⟨⟨pgCS, hdCS, poCS, saCS, mkCS, kcCS⟩, nfcurrent, nfdone, nfearlier, nfsize, nfundone⟩ := hC; have clCS : Cls K CS := ⟨pgCS, hdCS, poCS, saCS⟩
  exact met_H H aCS clCS sc_Session_undo rfl (fun _ _ _ _ _ _ us hl => match us, hl with | [_], _ => rfl) m_Session_undo w_Session_undo (fun A cd hr => by
    obtain ⟨zValueError, zabs, zall, zbool, zint, zisinstance, zlen, zlist, zrange, zsorted, zstr, ztuple, zzip⟩ := B
    simp only [b_Session_undo]
    (try walk_at "rq")
    (try exact trivial)
    all_goals (repeat' (first | apply And.intro | assumption | exact ⟨_, aCS, clCS, nfcurrent⟩ | exact ⟨_, aCS, clCS, nfdone⟩ | exact ⟨_, aCS, clCS, nfearlier⟩ | exact ⟨_, aCS, clCS, nfsize⟩ | exact ⟨_, aCS, clCS, nfundone⟩)))
theorem TM_Session___init__ (X : K.In h) (G : h.Ns mainGlobals mg) (B : WBl mg) (XInvalidDimension : XOk K mg "InvalidDimension") {CS : Addr} (aCS : PySem.W.nsIn K mainGlobals "Session" = some (some (.ref CS))) (hC : HCl K CS) (F_is_between : FnAt P w ⟨K, T⟩ mg base 2 "is_between" 3 c_is_between) (H : HMt K CS "__init__" "Session.__init__" (inClass (topS 27) 0)) : ∀ k, 3 ≤ k → MakeAt P w ⟨K, T⟩ mg base k "Session" 2 c_Session___init__ := by
  obtain ⟨⟨pgCS, hdCS, poCS, saCS, mkCS, kcCS⟩, nfcurrent, nfdone, nfearlier, nfsize, nfundone⟩ := hC; have clCS : Cls K CS := ⟨pgCS, hdCS, poCS, saCS⟩
  exact make_H H X G aCS mkCS kcCS sc_Session___init__ rfl (fun _ _ _ _ _ _ us hl => match us, hl with | [_, _], _ => rfl) m_Session___init__ w_Session___init__ (fun A cd hr => by
    obtain ⟨zValueError, zabs, zall, zbool, zint, zisinstance, zlen, zlist, zrange, zsorted, zstr, ztuple, zzip⟩ := B
    simp only [b_Session___init__]
    (try walk_at "rq")
    (try exact trivial)
    all_goals (repeat' (first | apply And.intro | assumption | exact ⟨2, F_is_between.mono (by decide), hr⟩ | exact ⟨_, aCS, clCS, nfcurrent⟩ | exact ⟨_, aCS, clCS, nfdone⟩ | exact ⟨_, aCS, clCS, nfearlier⟩ | exact ⟨_, aCS, clCS, nfsize⟩ | exact ⟨_, aCS, clCS, nfundone⟩)))
theorem TF_load (X : K.In h) (G : h.Ns mainGlobals mg) (B : WBl mg) (XInvalidText : XOk K mg "InvalidText") {CS : Addr} (aCS : PySem.W.nsIn K mainGlobals "Session" = some (some (.ref CS))) (hC : HCl K CS) (F_perform : FnAt P w ⟨K, T⟩ mg base 6 "perform" 2 c_perform) (M_Session_undo : MethAt P w ⟨K, T⟩ mg base 1 "Session" "undo" 1 c_Session_undo) (M_Session___init__ : ∀ k, 3 ≤ k → MakeAt P w ⟨K, T⟩ mg base k "Session" 2 c_Session___init__) (H : HFn K "load" (topS 34)) : FnAt P w ⟨K, T⟩ mg base 7 "load" 1 c_load := by
  obtain ⟨⟨pgCS, hdCS, poCS, saCS, mkCS, kcCS⟩, nfcurrent, nfdone, nfearlier, nfsize, nfundone⟩ := hC; have clCS : Cls K CS := ⟨pgCS, hdCS, poCS, saCS⟩
  exact fn_H H X G sc_load rfl (fun _ _ _ _ _ _ us hl => match us, hl with | [_], _ => rfl) m_load w_load (fun A cd hr => by
    obtain ⟨zValueError, zabs, zall, zbool, zint, zisinstance, zlen, zlist, zrange, zsorted, zstr, ztuple, zzip⟩ := B
    simp only [b_load, b_load_c1, b_load_c3, b_load_c4, b_load_c5, b_load_c6, b_load_f4]
    (try walk_at "rq")
    (try exact trivial)
    all_goals (repeat' (first | apply And.intro | assumption | exact ⟨6, F_perform.mono (by decide), hr⟩ | exact ⟨6, M_Session_undo.mono (by decide), hr⟩ | exact ⟨5, M_Session___init__ 5 (by decide), hr⟩ | exact ⟨_, aCS, clCS, nfcurrent⟩ | exact ⟨_, aCS, clCS, nfdone⟩ | exact ⟨_, aCS, clCS, nfearlier⟩ | exact ⟨_, aCS, clCS, nfsize⟩ | exact ⟨_, aCS, clCS, nfundone⟩)))
theorem TF__law_town (X : K.In h) (G : h.Ns mainGlobals mg) (B : WBl mg)  (H : HFn K "_law_town" (topS 36)) : FnAt P w ⟨K, T⟩ mg base 1 "_law_town" 1 c__law_town := by
  exact fn_H H X G sc__law_town rfl (fun _ _ _ _ _ _ us hl => match us, hl with | [_], _ => rfl) m__law_town w__law_town (fun A cd hr => by
    obtain ⟨zValueError, zabs, zall, zbool, zint, zisinstance, zlen, zlist, zrange, zsorted, zstr, ztuple, zzip⟩ := B
    simp only [b__law_town]
    (try walk_at "rq")
    (try exact trivial)
    all_goals (repeat' (first | apply And.intro | assumption)))
theorem TF__law_draw (X : K.In h) (G : h.Ns mainGlobals mg) (B : WBl mg)  (H : HFn K "_law_draw" (topS 37)) : FnAt P w ⟨K, T⟩ mg base 1 "_law_draw" 3 c__law_draw := by
  exact fn_H H X G sc__law_draw rfl (fun _ _ _ _ _ _ us hl => match us, hl with | [_, _, _], _ => rfl) m__law_draw w__law_draw (fun A cd hr => by
    obtain ⟨zValueError, zabs, zall, zbool, zint, zisinstance, zlen, zlist, zrange, zsorted, zstr, ztuple, zzip⟩ := B
    simp only [b__law_draw]
    (try walk_at "rq")
    (try exact trivial)
    all_goals (repeat' (first | apply And.intro | assumption)))
theorem TM_Session_redo (X : K.In h) (G : h.Ns mainGlobals mg) (B : WBl mg) (XNothingToUndo : XOk K mg "NothingToUndo") {CS : Addr} (aCS : PySem.W.nsIn K mainGlobals "Session" = some (some (.ref CS))) (hC : HCl K CS) (H : HMt K CS "redo" "Session.redo" (inClass (topS 27) 13)) : MethAt P w ⟨K, T⟩ mg base 1 "Session" "redo" 1 c_Session_redo := by
  obtain ⟨⟨pgCS, hdCS, poCS, saCS, mkCS, kcCS⟩, nfcurrent, nfdone, nfearlier, nfsize, nfundone⟩ := hC; have clCS : Cls K CS := ⟨pgCS, hdCS, poCS, saCS⟩
  exact met_H H aCS clCS sc_Session_redo rfl (fun _ _ _ _ _ _ us hl => match us, hl with | [_], _ => rfl) m_Session_redo w_Session_redo (fun A cd hr => by
    obtain ⟨zValueError, zabs, zall, zbool, zint, zisinstance, zlen, zlist, zrange, zsorted, zstr, ztuple, zzip⟩ := B
    simp only [b_Session_redo]
    (try walk_at "rq")
    (try exact trivial)
    all_goals (repeat' (first | apply And.intro | assumption | exact ⟨_, aCS, clCS, nfcurrent⟩ | exact ⟨_, aCS, clCS, nfdone⟩ | exact ⟨_, aCS, clCS, nfearlier⟩ | exact ⟨_, aCS, clCS, nfsize⟩ | exact ⟨_, aCS, clCS, nfundone⟩)))
theorem TF__law_back (X : K.In h) (G : h.Ns mainGlobals mg) (B : WBl mg) (M_Session_undo : MethAt P w ⟨K, T⟩ mg base 1 "Session" "undo" 1 c_Session_undo) (M_Session_redo : MethAt P w ⟨K, T⟩ mg base 1 "Session" "redo" 1 c_Session_redo) (H : HFn K "_law_back" (topS 43)) : FnAt P w ⟨K, T⟩ mg base 2 "_law_back" 2 c__law_back := by
  exact fn_H H X G sc__law_back rfl (fun _ _ _ _ _ _ us hl => match us, hl with | [_, _], _ => rfl) m__law_back w__law_back (fun A cd hr => by
    obtain ⟨zValueError, zabs, zall, zbool, zint, zisinstance, zlen, zlist, zrange, zsorted, zstr, ztuple, zzip⟩ := B
    simp only [b__law_back]
    (try walk_at "rq")
    (try exact trivial)
    all_goals (repeat' (first | apply And.intro | assumption | exact ⟨1, M_Session_undo.mono (by decide), hr⟩ | exact ⟨1, M_Session_redo.mono (by decide), hr⟩)))
theorem TF__law_call (X : K.In h) (G : h.Ns mainGlobals mg) (B : WBl mg) (F_load : FnAt P w ⟨K, T⟩ mg base 7 "load" 1 c_load) (F__law_back : FnAt P w ⟨K, T⟩ mg base 2 "_law_back" 2 c__law_back) (H : HFn K "_law_call" (topS 44)) : FnAt P w ⟨K, T⟩ mg base 8 "_law_call" 2 c__law_call := by
  exact fn_H H X G sc__law_call rfl (fun _ _ _ _ _ _ us hl => match us, hl with | [_, _], _ => rfl) m__law_call w__law_call (fun A cd hr => by
    obtain ⟨zValueError, zabs, zall, zbool, zint, zisinstance, zlen, zlist, zrange, zsorted, zstr, ztuple, zzip⟩ := B
    simp only [b__law_call]
    (try walk_at "rq")
    (try exact trivial)
    all_goals (repeat' (first | apply And.intro | assumption | exact ⟨7, F_load.mono (by decide), hr⟩ | exact ⟨7, F__law_back.mono (by decide), hr⟩)))
theorem TF__law_name (X : K.In h) (G : h.Ns mainGlobals mg) (B : WBl mg) (wExc : ExcTab K mg) (H : HFn K "_law_name" (topS 39)) : FnAt P w ⟨K, T⟩ mg base 1 "_law_name" 1 c__law_name := by
  exact fn_H H X G sc__law_name rfl (fun _ _ _ _ _ _ us hl => match us, hl with | [_], _ => rfl) m__law_name w__law_name (fun A cd hr => by
    obtain ⟨zValueError, zabs, zall, zbool, zint, zisinstance, zlen, zlist, zrange, zsorted, zstr, ztuple, zzip⟩ := B
    simp only [b__law_name]
    (try walk_at "rq")
    (try exact trivial)
    all_goals (repeat' (first | apply And.intro | assumption)))
theorem TF__law_outcome (X : K.In h) (G : h.Ns mainGlobals mg) (B : WBl mg) (wExc : ExcTab K mg) (F__law_call : FnAt P w ⟨K, T⟩ mg base 8 "_law_call" 2 c__law_call) (F__law_name : FnAt P w ⟨K, T⟩ mg base 1 "_law_name" 1 c__law_name) (H : HFn K "_law_outcome" (topS 38)) : FnAt P w ⟨K, T⟩ mg base 9 "_law_outcome" 2 c__law_outcome := by
  exact fn_H H X G sc__law_outcome rfl (fun _ _ _ _ _ _ us hl => match us, hl with | [_, _], _ => rfl) m__law_outcome w__law_outcome (fun A cd hr => by
    obtain ⟨zValueError, zabs, zall, zbool, zint, zisinstance, zlen, zlist, zrange, zsorted, zstr, ztuple, zzip⟩ := B
    simp only [b__law_outcome]
    (try walk_at "rq")
    (try exact trivial)
    all_goals (repeat' (first | apply And.intro | assumption | exact ⟨8, F__law_call.mono (by decide), hr⟩ | exact ⟨8, F__law_name.mono (by decide), hr⟩)))
theorem TF__law_raises (X : K.In h) (G : h.Ns mainGlobals mg) (B : WBl mg)  (H : HFn K "_law_raises" (topS 40)) : FnAt P w ⟨K, T⟩ mg base 1 "_law_raises" 1 c__law_raises := by
  exact fn_H H X G sc__law_raises rfl (fun _ _ _ _ _ _ us hl => match us, hl with | [_], _ => rfl) m__law_raises w__law_raises (fun A cd hr => by
    obtain ⟨zValueError, zabs, zall, zbool, zint, zisinstance, zlen, zlist, zrange, zsorted, zstr, ztuple, zzip⟩ := B
    simp only [b__law_raises]
    (try walk_at "rq")
    (try exact trivial)
    all_goals (repeat' (first | apply And.intro | assumption)))
theorem TF__law_edit (X : K.In h) (G : h.Ns mainGlobals mg) (B : WBl mg) (F__law_draw : FnAt P w ⟨K, T⟩ mg base 1 "_law_draw" 3 c__law_draw) (H : HFn K "_law_edit" (topS 41)) : FnAt P w ⟨K, T⟩ mg base 2 "_law_edit" 4 c__law_edit := by
  exact fn_H H X G sc__law_edit rfl (fun _ _ _ _ _ _ us hl => match us, hl with | [_, _, _, _], _ => rfl) m__law_edit w__law_edit (fun A cd hr => by
    obtain ⟨zValueError, zabs, zall, zbool, zint, zisinstance, zlen, zlist, zrange, zsorted, zstr, ztuple, zzip⟩ := B
    simp only [b__law_edit, b__law_edit_c1, b__law_edit_c2, b__law_edit_c3]
    (try walk_at "rq")
    (try exact trivial)
    all_goals (repeat' (first | apply And.intro | assumption | exact ⟨1, F__law_draw.mono (by decide), hr⟩)))
theorem TF__law_do (X : K.In h) (G : h.Ns mainGlobals mg) (B : WBl mg) (M_Session_add : MethAt P w ⟨K, T⟩ mg base 5 "Session" "add" 2 c_Session_add) (M_Session_remove : MethAt P w ⟨K, T⟩ mg base 3 "Session" "remove" 2 c_Session_remove) (H : HFn K "_law_do" (topS 42)) : FnAt P w ⟨K, T⟩ mg base 6 "_law_do" 3 c__law_do := by
  exact fn_H H X G sc__law_do rfl (fun _ _ _ _ _ _ us hl => match us, hl with | [_, _, _], _ => rfl) m__law_do w__law_do (fun A cd hr => by
    obtain ⟨zValueError, zabs, zall, zbool, zint, zisinstance, zlen, zlist, zrange, zsorted, zstr, ztuple, zzip⟩ := B
    simp only [b__law_do]
    (try walk_at "rq")
    (try exact trivial)
    all_goals (repeat' (first | apply And.intro | assumption | exact ⟨5, M_Session_add.mono (by decide), hr⟩ | exact ⟨5, M_Session_remove.mono (by decide), hr⟩)))
theorem TM_Session_generators (X : K.In h) (G : h.Ns mainGlobals mg) (B : WBl mg) {CS : Addr} (aCS : PySem.W.nsIn K mainGlobals "Session" = some (some (.ref CS))) (hC : HCl K CS) (H : HMt K CS "generators" "Session.generators" (inClass (topS 27) 7)) : MethAt P w ⟨K, T⟩ mg base 1 "Session" "generators" 1 c_Session_generators := by
  obtain ⟨⟨pgCS, hdCS, poCS, saCS, mkCS, kcCS⟩, nfcurrent, nfdone, nfearlier, nfsize, nfundone⟩ := hC; have clCS : Cls K CS := ⟨pgCS, hdCS, poCS, saCS⟩
  exact met_H H aCS clCS sc_Session_generators rfl (fun _ _ _ _ _ _ us hl => match us, hl with | [_], _ => rfl) m_Session_generators w_Session_generators (fun A cd hr => by
    obtain ⟨zValueError, zabs, zall, zbool, zint, zisinstance, zlen, zlist, zrange, zsorted, zstr, ztuple, zzip⟩ := B
    simp only [b_Session_generators]
    (try walk_at "rq")
    (try exact trivial)
    all_goals (repeat' (first | apply And.intro | assumption | exact ⟨_, aCS, clCS, nfcurrent⟩ | exact ⟨_, aCS, clCS, nfdone⟩ | exact ⟨_, aCS, clCS, nfearlier⟩ | exact ⟨_, aCS, clCS, nfsize⟩ | exact ⟨_, aCS, clCS, nfundone⟩)))
theorem TM_Session___eq__ (X : K.In h) (G : h.Ns mainGlobals mg) (B : WBl mg) {CS : Addr} (aCS : PySem.W.nsIn K mainGlobals "Session" = some (some (.ref CS))) (hC : HCl K CS) (hIc : HIc K CS) (hKc : HKc K CS = true) (hNe : HNe K CS) (H : HMt K CS "__eq__" "Session.__eq__" (inClass (topS 27) 2)) : EqAt P w ⟨K, T⟩ mg base 1 "Session" c_Session___eq__ := by
  obtain ⟨⟨pgCS, hdCS, poCS, saCS, mkCS, kcCS⟩, nfcurrent, nfdone, nfearlier, nfsize, nfundone⟩ := hC; have clCS : Cls K CS := ⟨pgCS, hdCS, poCS, saCS⟩
  exact eq_H H aCS hNe sc_Session___eq__ rfl (fun _ _ _ _ _ _ us hl => match us, hl with | [_, _], _ => rfl) m_Session___eq__ w_Session___eq__ (fun A cd hr => by
    obtain ⟨zValueError, zabs, zall, zbool, zint, zisinstance, zlen, zlist, zrange, zsorted, zstr, ztuple, zzip⟩ := B
    simp only [b_Session___eq__]
    (try walk_at "rq")
    (try exact trivial)
    all_goals (repeat' (first | apply And.intro | assumption | exact ⟨_, aCS, clCS, nfcurrent⟩ | exact ⟨_, aCS, clCS, nfdone⟩ | exact ⟨_, aCS, clCS, nfearlier⟩ | exact ⟨_, aCS, clCS, nfsize⟩ | exact ⟨_, aCS, clCS, nfundone⟩ | exact isC_H X G aCS clCS hIc hKc)))
theorem TM_Session___str__ (X : K.In h) (G : h.Ns mainGlobals mg) (B : WBl mg) {CS : Addr} (aCS : PySem.W.nsIn K mainGlobals "Session" = some (some (.ref CS))) (hC : HCl K CS) (M_Session_rows : MethAt P w ⟨K, T⟩ mg base 4 "Session" "rows" 1 c_Session_rows) (H : HMt K CS "__str__" "Session.__str__" (inClass (topS 27) 3)) : MethAt P w ⟨K, T⟩ mg base 5 "Session" "__str__" 1 c_Session___str__ := by
  obtain ⟨⟨pgCS, hdCS, poCS, saCS, mkCS, kcCS⟩, nfcurrent, nfdone, nfearlier, nfsize, nfundone⟩ := hC; have clCS : Cls K CS := ⟨pgCS, hdCS, poCS, saCS⟩
  exact met_H H aCS clCS sc_Session___str__ rfl (fun _ _ _ _ _ _ us hl => match us, hl with | [_], _ => rfl) m_Session___str__ w_Session___str__ (fun A cd hr => by
    obtain ⟨zValueError, zabs, zall, zbool, zint, zisinstance, zlen, zlist, zrange, zsorted, zstr, ztuple, zzip⟩ := B
    simp only [b_Session___str__]
    (try walk_at "rq")
    (try exact trivial)
    all_goals (repeat' (first | apply And.intro | assumption | exact ⟨4, M_Session_rows.mono (by decide), hr⟩ | exact ⟨_, aCS, clCS, nfcurrent⟩ | exact ⟨_, aCS, clCS, nfdone⟩ | exact ⟨_, aCS, clCS, nfearlier⟩ | exact ⟨_, aCS, clCS, nfsize⟩ | exact ⟨_, aCS, clCS, nfundone⟩)))
theorem law_rq (B : WBl mg) {CS : Addr} (aCS : PySem.W.nsIn K mainGlobals "Session" = some (some (.ref CS))) (hC : HCl K CS) (F__law_town : FnAt P w ⟨K, T⟩ mg base 1 "_law_town" 1 c__law_town) (F__law_draw : FnAt P w ⟨K, T⟩ mg base 1 "_law_draw" 3 c__law_draw) (F__law_edit : FnAt P w ⟨K, T⟩ mg base 2 "_law_edit" 4 c__law_edit) (F__law_do : FnAt P w ⟨K, T⟩ mg base 6 "_law_do" 3 c__law_do) (F__law_outcome : FnAt P w ⟨K, T⟩ mg base 9 "_law_outcome" 2 c__law_outcome) (F_save : FnAt P w ⟨K, T⟩ mg base 3 "save" 1 c_save) (F_load : FnAt P w ⟨K, T⟩ mg base 7 "load" 1 c_load) (F__law_raises : FnAt P w ⟨K, T⟩ mg base 1 "_law_raises" 1 c__law_raises) (M_Session_generators : MethAt P w ⟨K, T⟩ mg base 1 "Session" "generators" 1 c_Session_generators) (M_Session___init__ : ∀ k, 3 ≤ k → MakeAt P w ⟨K, T⟩ mg base k "Session" 2 c_Session___init__) (M_Session___eq__ : EqAt P w ⟨K, T⟩ mg base 1 "Session" c_Session___eq__) (M_Session___str__ : MethAt P w ⟨K, T⟩ mg base 5 "Session" "__str__" 1 c_Session___str__) : ∀ (A : Around) (cd : Value), Room 59 A → b_law.rq ⟨P, w, K, mg, base, A, cd, "law" ++ ".<locals>.", T⟩ := by
  obtain ⟨⟨pgCS, hdCS, poCS, saCS, mkCS, kcCS⟩, nfcurrent, nfdone, nfearlier, nfsize, nfundone⟩ := hC; have clCS : Cls K CS := ⟨pgCS, hdCS, poCS, saCS⟩
  exact (fun A cd hr => by
    obtain ⟨zValueError, zabs, zall, zbool, zint, zisinstance, zlen, zlist, zrange, zsorted, zstr, ztuple, zzip⟩ := B
    simp only [b_law, b_law_c10, b_law_c11, b_law_c12, b_law_c4, b_law_c5, b_law_c6, b_law_c7, b_law_c8, b_law_c9, b_law_f10, b_law_f11, b_law_f3, b_law_f4]
    (try walk_at "rq")
    (try exact trivial)
    all_goals (repeat' (first | apply And.intro | assumption | exact ⟨59, F__law_town.mono (by decide), hr⟩ | exact ⟨59, F__law_draw.mono (by decide), hr⟩ | exact ⟨59, F__law_edit.mono (by decide), hr⟩ | exact ⟨59, F__law_do.mono (by decide), hr⟩ | exact ⟨59, F__law_outcome.mono (by decide), hr⟩ | exact ⟨59, F_save.mono (by decide), hr⟩ | exact ⟨59, F_load.mono (by decide), hr⟩ | exact ⟨59, F__law_raises.mono (by decide), hr⟩ | exact ⟨59, M_Session_generators.mono (by decide), hr⟩ | exact ⟨58, M_Session___init__ 58 (by decide), hr⟩ | exact M_Session___eq__.ok (k := 58) (by decide) hr | exact ⟨57, M_Session___str__.mono (by decide), hr⟩ | exact ⟨_, aCS, clCS, nfcurrent⟩ | exact ⟨_, aCS, clCS, nfdone⟩ | exact ⟨_, aCS, clCS, nfearlier⟩ | exact ⟨_, aCS, clCS, nfsize⟩ | exact ⟨_, aCS, clCS, nfundone⟩)))
end
theorem all_mk {l : PySem.W.OpenLaw} {w : World} {K : PySem.W.Frag} {h : Heap} {mg : Str → Option Value} {fa : Addr} (X : K.In h) (G : h.Ns mainGlobals mg) (hfa : mg "law" = some (.ref fa))
    {CS : Addr}
    {fsifted : Addr} {odsifted ansifted : Option Addr} {slsifted : Array (Option Value)} {ocsifted kVsifted dcsifted pmsifted ctsifted : Value}
    {cS PS : Addr} {ocS : Value} {odS : Option Addr} {vsS : Array Value} {slS : Array (Option Value)}
    (aCS : PySem.W.nsIn K mainGlobals "Session" = some (some (.ref CS))) (hC : HCl K CS)
    (hIc : HIc K CS) (hKc : HKc K CS = true)
    (hNe : HNe K CS)
    (hB : HBl K)
    (hGLIMIT : HG_LIMIT K)
    (hXInvalidDimension : HEx K "InvalidDimension")
    (hXInvalidNumber : HEx K "InvalidNumber")
    (hXInvalidText : HEx K "InvalidText")
    (hXInvalidVector : HEx K "InvalidVector")
    (hXNothingToUndo : HEx K "NothingToUndo")
    (hXTooMany : HEx K "TooMany")
    (xball : excAllB K = true)
    (h_is_integer : HFn K "is_integer" (topS 16))
    (h_is_between : HFn K "is_between" (topS 17))
    (h_is_vector : HFn K "is_vector" (topS 20))
    (h_check_vector : HFn K "check_vector" (topS 21))
    (h_plus : HFn K "plus" (topS 22))
    (asifted : PySem.W.nsIn K mainGlobals "sifted" = some (some (.ref fsifted))) (lsifted : K.lookup fsifted = some ⟨ocsifted, odsifted, .func (PySem.W.fnOf "sifted" "sifted" (defArgs (topS 23)) (defBody (topS 23)) (defScope (topS 23)) .none kVsifted dcsifted pmsifted ansifted (.ref cS) ctsifted), slsifted⟩) (csifted : PySem.W.codeIn K (.ref cS) "sifted" = true) (ksifted : PySem.W.keepIn K (.ref fsifted) = true)
    (h_echelon : HFn K "echelon" (topS 24))
    (h_is_generated : HFn K "is_generated" (topS 26))
    (h_vector_text : HFn K "vector_text" (topS 29))
    (h_operation_text : HFn K "operation_text" (topS 31))
    (h_save : HFn K "save" (topS 32))
    (h_Session_rows : HMt K CS "rows" "Session.rows" (inClass (topS 27) 8))
    (h_Session_perform : HMt K CS "perform" "Session.perform" (inClass (topS 27) 4))
    (h_Session_add : HMt K CS "add" "Session.add" (inClass (topS 27) 5))
    (h_Session_remove : HMt K CS "remove" "Session.remove" (inClass (topS 27) 6))
    (h_perform : HFn K "perform" (topS 33))
    (h_Session_undo : HMt K CS "undo" "Session.undo" (inClass (topS 27) 12))
    (h_Session___init__ : HMt K CS "__init__" "Session.__init__" (inClass (topS 27) 0))
    (h_load : HFn K "load" (topS 34))
    (h__law_town : HFn K "_law_town" (topS 36))
    (h__law_draw : HFn K "_law_draw" (topS 37))
    (h_Session_redo : HMt K CS "redo" "Session.redo" (inClass (topS 27) 13))
    (h__law_back : HFn K "_law_back" (topS 43))
    (h__law_call : HFn K "_law_call" (topS 44))
    (h__law_name : HFn K "_law_name" (topS 39))
    (h__law_outcome : HFn K "_law_outcome" (topS 38))
    (h__law_raises : HFn K "_law_raises" (topS 40))
    (h__law_edit : HFn K "_law_edit" (topS 41))
    (h__law_do : HFn K "_law_do" (topS 42))
    (h_Session_generators : HMt K CS "generators" "Session.generators" (inClass (topS 27) 7))
    (h_Session___eq__ : HMt K CS "__eq__" "Session.__eq__" (inClass (topS 27) 2))
    (h_Session___str__ : HMt K CS "__str__" "Session.__str__" (inClass (topS 27) 3))
    (h_law : HFn K "law" (topS 45))
    (lS : K.lookup cS = some ⟨ocS, odS, .fields vsS, slS⟩) (pS : vsS[11]? = some (.ref PS)) (hS : PySem.W.codeHdIn K cS PS = true) (nS : K.lookup PS = none) (tS : h.get? PS = some (PySem.W.tabObj #[])) :
    LamX.LawAtS l w K (L2.CX l.prog w) 60 63 "script" mg fa h := by
  obtain ⟨flaw, oclaw, odlaw, anlaw, sllaw, kVlaw, dclaw, pmlaw, cdlaw, ctlaw, alaw, llaw, claw, klaw⟩ := h_law
  have e := hfa.symm.trans (PySem.W.mg_of X G alaw)
  cases e
  have B := hB.ok X G
  have gLIMIT : ∃ t, mg "LIMIT" = some (.int 1000000 t) := by obtain ⟨t, e⟩ := hGLIMIT; exact ⟨t, PySem.W.mg_of X G e⟩
  have XInvalidDimension := hXInvalidDimension.ok X G
  have XInvalidNumber := hXInvalidNumber.ok X G
  have XInvalidText := hXInvalidText.ok X G
  have XInvalidVector := hXInvalidVector.ok X G
  have XNothingToUndo := hXNothingToUndo.ok X G
  have XTooMany := hXTooMany.ok X G
  have wExc := exc_tab X G xball
  refine ⟨PySem.W.fnOf "law" "law" (defArgs (topS 45)) (defBody (topS 45)) (defScope (topS 45)) .none kVlaw dclaw pmlaw anlaw cdlaw ctlaw, [(cS, PS)], spOf ⟨K, [(PS, ("sifted" : Str) ++ ".<locals>." ++ "<lambda>")]⟩ mg 1 cLaw, ?_, ?_, ?_, fun s v => .of_eq rfl, ?_, fun base KB GB TB => ?_⟩
  · intro p hp; have : p = (cS, PS) := by simpa using hp
    subst this; exact tS
  · intro p hp; have : p = (cS, PS) := by simpa using hp
    subst this; exact nS
  · intro p hp; have : p = (cS, PS) := by simpa using hp
    subst this; exact PySem.W.codeHd_of_K X hS
  · exact fun H a ns hl _ hH hS => law_spT hl hS (hH (cS, PS) (by simp)) nS
  have F_is_integer := TF_is_integer (P := l.prog) (w := w) (T := [(PS, ("sifted" : Str) ++ ".<locals>." ++ "<lambda>")]) (base := base) X G B  h_is_integer
  have F_is_between := TF_is_between (P := l.prog) (w := w) (T := [(PS, ("sifted" : Str) ++ ".<locals>." ++ "<lambda>")]) (base := base) X G B F_is_integer h_is_between
  have F_is_vector := TF_is_vector (P := l.prog) (w := w) (T := [(PS, ("sifted" : Str) ++ ".<locals>." ++ "<lambda>")]) (base := base) X G B gLIMIT F_is_between h_is_vector
  have F_check_vector := TF_check_vector (P := l.prog) (w := w) (T := [(PS, ("sifted" : Str) ++ ".<locals>." ++ "<lambda>")]) (base := base) X G B XInvalidVector F_is_vector h_check_vector
  have F_plus := TF_plus (P := l.prog) (w := w) (T := [(PS, ("sifted" : Str) ++ ".<locals>." ++ "<lambda>")]) (base := base) X G B  h_plus
  have F_sifted := TF_sifted (P := l.prog) (w := w) (T := [(PS, ("sifted" : Str) ++ ".<locals>." ++ "<lambda>")]) (base := base) X G B F_plus rfl (TB (cS, PS) (by simp)) asifted lsifted csifted ksifted
  have F_echelon := TF_echelon (P := l.prog) (w := w) (T := [(PS, ("sifted" : Str) ++ ".<locals>." ++ "<lambda>")]) (base := base) X G B F_sifted h_echelon
  have F_is_generated := TF_is_generated (P := l.prog) (w := w) (T := [(PS, ("sifted" : Str) ++ ".<locals>." ++ "<lambda>")]) (base := base) X G B F_plus h_is_generated
  have F_vector_text := TF_vector_text (P := l.prog) (w := w) (T := [(PS, ("sifted" : Str) ++ ".<locals>." ++ "<lambda>")]) (base := base) X G B  h_vector_text
  have F_operation_text := TF_operation_text (P := l.prog) (w := w) (T := [(PS, ("sifted" : Str) ++ ".<locals>." ++ "<lambda>")]) (base := base) X G B F_vector_text h_operation_text
  have F_save := TF_save (P := l.prog) (w := w) (T := [(PS, ("sifted" : Str) ++ ".<locals>." ++ "<lambda>")]) (base := base) X G B aCS hC F_operation_text h_save
  have M_Session_rows := TM_Session_rows (P := l.prog) (w := w) (T := [(PS, ("sifted" : Str) ++ ".<locals>." ++ "<lambda>")]) (base := base) X G B aCS hC F_echelon h_Session_rows
  have M_Session_perform := TM_Session_perform (P := l.prog) (w := w) (T := [(PS, ("sifted" : Str) ++ ".<locals>." ++ "<lambda>")]) (base := base) X G B aCS hC h_Session_perform
  have M_Session_add := TM_Session_add (P := l.prog) (w := w) (T := [(PS, ("sifted" : Str) ++ ".<locals>." ++ "<lambda>")]) (base := base) X G B XTooMany aCS hC F_check_vector F_is_generated M_Session_rows M_Session_perform h_Session_add
  have M_Session_remove := TM_Session_remove (P := l.prog) (w := w) (T := [(PS, ("sifted" : Str) ++ ".<locals>." ++ "<lambda>")]) (base := base) X G B XInvalidNumber aCS hC F_is_between M_Session_perform h_Session_remove
  have F_perform := TF_perform (P := l.prog) (w := w) (T := [(PS, ("sifted" : Str) ++ ".<locals>." ++ "<lambda>")]) (base := base) X G B M_Session_add M_Session_remove h_perform
  have M_Session_undo := TM_Session_undo (P := l.prog) (w := w) (T := [(PS, ("sifted" : Str) ++ ".<locals>." ++ "<lambda>")]) (base := base) X G B XNothingToUndo aCS hC h_Session_undo
  have M_Session___init__ := TM_Session___init__ (P := l.prog) (w := w) (T := [(PS, ("sifted" : Str) ++ ".<locals>." ++ "<lambda>")]) (base := base) X G B XInvalidDimension aCS hC F_is_between h_Session___init__
  have F_load := TF_load (P := l.prog) (w := w) (T := [(PS, ("sifted" : Str) ++ ".<locals>." ++ "<lambda>")]) (base := base) X G B XInvalidText aCS hC F_perform M_Session_undo M_Session___init__ h_load
  have F__law_town := TF__law_town (P := l.prog) (w := w) (T := [(PS, ("sifted" : Str) ++ ".<locals>." ++ "<lambda>")]) (base := base) X G B  h__law_town
  have F__law_draw := TF__law_draw (P := l.prog) (w := w) (T := [(PS, ("sifted" : Str) ++ ".<locals>." ++ "<lambda>")]) (base := base) X G B  h__law_draw
  have M_Session_redo := TM_Session_redo (P := l.prog) (w := w) (T := [(PS, ("sifted" : Str) ++ ".<locals>." ++ "<lambda>")]) (base := base) X G B XNothingToUndo aCS hC h_Session_redo
  have F__law_back := TF__law_back (P := l.prog) (w := w) (T := [(PS, ("sifted" : Str) ++ ".<locals>." ++ "<lambda>")]) (base := base) X G B M_Session_undo M_Session_redo h__law_back
  have F__law_call := TF__law_call (P := l.prog) (w := w) (T := [(PS, ("sifted" : Str) ++ ".<locals>." ++ "<lambda>")]) (base := base) X G B F_load F__law_back h__law_call
  have F__law_name := TF__law_name (P := l.prog) (w := w) (T := [(PS, ("sifted" : Str) ++ ".<locals>." ++ "<lambda>")]) (base := base) X G B wExc h__law_name
  have F__law_outcome := TF__law_outcome (P := l.prog) (w := w) (T := [(PS, ("sifted" : Str) ++ ".<locals>." ++ "<lambda>")]) (base := base) X G B wExc F__law_call F__law_name h__law_outcome
  have F__law_raises := TF__law_raises (P := l.prog) (w := w) (T := [(PS, ("sifted" : Str) ++ ".<locals>." ++ "<lambda>")]) (base := base) X G B  h__law_raises
  have F__law_edit := TF__law_edit (P := l.prog) (w := w) (T := [(PS, ("sifted" : Str) ++ ".<locals>." ++ "<lambda>")]) (base := base) X G B F__law_draw h__law_edit
  have F__law_do := TF__law_do (P := l.prog) (w := w) (T := [(PS, ("sifted" : Str) ++ ".<locals>." ++ "<lambda>")]) (base := base) X G B M_Session_add M_Session_remove h__law_do
  have M_Session_generators := TM_Session_generators (P := l.prog) (w := w) (T := [(PS, ("sifted" : Str) ++ ".<locals>." ++ "<lambda>")]) (base := base) X G B aCS hC h_Session_generators
  have M_Session___eq__ := TM_Session___eq__ (P := l.prog) (w := w) (T := [(PS, ("sifted" : Str) ++ ".<locals>." ++ "<lambda>")]) (base := base) X G B aCS hC hIc hKc hNe h_Session___eq__
  have M_Session___str__ := TM_Session___str__ (P := l.prog) (w := w) (T := [(PS, ("sifted" : Str) ++ ".<locals>." ++ "<lambda>")]) (base := base) X G B aCS hC M_Session_rows h_Session___str__
  exact sp_imp (fn_ok (K := ⟨K, [(PS, ("sifted" : Str) ++ ".<locals>." ++ "<lambda>")]⟩) llaw claw sc_law rfl m_law fun A hr => law_rq B aCS hC F__law_town F__law_draw F__law_edit F__law_do F__law_outcome F_save F_load F__law_raises M_Session_generators M_Session___init__ M_Session___eq__ M_Session___str__ A _ hr) fun _ _ _ _ => w_law
theorem walk {l : PySem.W.OpenLaw} {q : Program} {loose : List Str} {XP : (Str → Option Value) → Heap → Prop} {YP : World → Heap → Prop} {d : DefRec} {K : Params → PySem.W.Frag} (hn : l.most = some 63) (hdf : d.params.defaults = [])
    (hY : ∀ (w : World) (h : Heap), YP w h → (K w.params).In h)
    (F : ∀ (w : World) (mg : Str → Option Value) (fa : Addr) (h : Heap), YP w h → (K w.params).In h → h.Ns mainGlobals mg → mg d.name = some (.ref fa) → LamX.LawAtS l w (K w.params) (L2.CX l.prog w) 60 63 "script" mg fa h) :
    PySem.W.WalkO q loose XP YP l.row.toRowW d [] (fun f vs => PySem.call f vs) :=
  LamX.walk_ofTs (n := 63) (k := 60) (x := "script") (CX := fun w => L2.CX l.prog w) hn (by decide) hdf ⟨rfl, by decide, by decide⟩ hY F fun w H s e s' z => by
    exact cx_never z
end DLay
open PySem PySem.W PyProof.Rows
set_option maxHeartbeats 0 in
theorem PySem.Challenge.cw_gridbases_k64_saved_sessions_holds : PySem.Challenge.rw_gridbases_k64_saved_sessions.Holds := by
  w_on; o_law; k_head; (case hw => as_aux_lemma => w_witness2)
  k_fill
  refine DLay.walk (l := PySem.Challenge.rw_gridbases_k64_saved_sessions) rfl rfl (fun w h Y => PySem.W.km_in_of Y) ?F
  case F =>
    intro w mg fa h Y KX G hmg
    have hT8 := PySem.W.km_tabs_of Y
    refine' DLay.all_mk KX G hmg ?aCS ?hC ?hIc ?hKc ?hNe ?hB ?hGLIMIT ?hXInvalidDimension ?hXInvalidNumber ?hXInvalidText ?hXInvalidVector ?hXNothingToUndo ?hXTooMany ?xball ?h_is_integer ?h_is_between ?h_is_vector ?h_check_vector ?h_plus ?asifted ?lsifted ?csifted ?ksifted ?h_echelon ?h_is_generated ?h_vector_text ?h_operation_text ?h_save ?h_Session_rows ?h_Session_perform ?h_Session_add ?h_Session_remove ?h_perform ?h_Session_undo ?h_Session___init__ ?h_load ?h__law_town ?h__law_draw ?h_Session_redo ?h__law_back ?h__law_call ?h__law_name ?h__law_outcome ?h__law_raises ?h__law_edit ?h__law_do ?h_Session_generators ?h_Session___eq__ ?h_Session___str__ ?h_law ?lS ?pS ?hS ?nS ?tS
    (case aCS => k_is)
    (case hC => as_aux_lemma => (refine' ⟨⟨?_, ?_, ?_, ?_, ?_, ?_⟩, ?_, ?_, ?_, ?_, ?_⟩; all_goals k_is))
    (case hIc => as_aux_lemma => (refine' ⟨?_, ?_, ?_, ?_⟩; all_goals k_is))
    (case hKc => as_aux_lemma => kernel_rfl)
    (case hNe => as_aux_lemma => (refine' ⟨?_, ?_⟩; all_goals k_is))
    (case hB => as_aux_lemma => (refine' ⟨?_, ?_, ?_, ?_, ?_, ?_, ?_, ?_, ?_, ?_, ?_, ?_, ?_⟩; all_goals k_is))
    (case hGLIMIT => as_aux_lemma => (refine' DLay.HG_LIMIT_mk ?a; (case a => k_is)))
    (case hXInvalidDimension => as_aux_lemma => (refine' DLay.HEx.mk' ?a ?x ?k ?s ?t; (case a => k_is); (case x => first | k_is | k_exc); (case k => k_is); (case s => k_is); (case t => k_is)))
    (case hXInvalidNumber => as_aux_lemma => (refine' DLay.HEx.mk' ?a ?x ?k ?s ?t; (case a => k_is); (case x => first | k_is | k_exc); (case k => k_is); (case s => k_is); (case t => k_is)))
    (case hXInvalidText => as_aux_lemma => (refine' DLay.HEx.mk' ?a ?x ?k ?s ?t; (case a => k_is); (case x => first | k_is | k_exc); (case k => k_is); (case s => k_is); (case t => k_is)))
    (case hXInvalidVector => as_aux_lemma => (refine' DLay.HEx.mk' ?a ?x ?k ?s ?t; (case a => k_is); (case x => first | k_is | k_exc); (case k => k_is); (case s => k_is); (case t => k_is)))
    (case hXNothingToUndo => as_aux_lemma => (refine' DLay.HEx.mk' ?a ?x ?k ?s ?t; (case a => k_is); (case x => first | k_is | k_exc); (case k => k_is); (case s => k_is); (case t => k_is)))
    (case hXTooMany => as_aux_lemma => (refine' DLay.HEx.mk' ?a ?x ?k ?s ?t; (case a => k_is); (case x => first | k_is | k_exc); (case k => k_is); (case s => k_is); (case t => k_is)))
    (case xball => as_aux_lemma => kernel_rfl)
    (case h_is_integer => as_aux_lemma => (refine' DLay.HFn.mk' ?a ?l ?c ?k; (case a => k_is); (case l => k_is); (case c => k_is); (case k => k_is)))
    (case h_is_between => as_aux_lemma => (refine' DLay.HFn.mk' ?a ?l ?c ?k; (case a => k_is); (case l => k_is); (case c => k_is); (case k => k_is)))
    (case h_is_vector => as_aux_lemma => (refine' DLay.HFn.mk' ?a ?l ?c ?k; (case a => k_is); (case l => k_is); (case c => k_is); (case k => k_is)))
    (case h_check_vector => as_aux_lemma => (refine' DLay.HFn.mk' ?a ?l ?c ?k; (case a => k_is); (case l => k_is); (case c => k_is); (case k => k_is)))
    (case h_plus => as_aux_lemma => (refine' DLay.HFn.mk' ?a ?l ?c ?k; (case a => k_is); (case l => k_is); (case c => k_is); (case k => k_is)))
    (case asifted => k_is)
    (case lsifted => k_is)
    (case csifted => k_is)
    (case ksifted => k_is)
    (case h_echelon => as_aux_lemma => (refine' DLay.HFn.mk' ?a ?l ?c ?k; (case a => k_is); (case l => k_is); (case c => k_is); (case k => k_is)))
    (case h_is_generated => as_aux_lemma => (refine' DLay.HFn.mk' ?a ?l ?c ?k; (case a => k_is); (case l => k_is); (case c => k_is); (case k => k_is)))
    (case h_vector_text => as_aux_lemma => (refine' DLay.HFn.mk' ?a ?l ?c ?k; (case a => k_is); (case l => k_is); (case c => k_is); (case k => k_is)))
    (case h_operation_text => as_aux_lemma => (refine' DLay.HFn.mk' ?a ?l ?c ?k; (case a => k_is); (case l => k_is); (case c => k_is); (case k => k_is)))
    (case h_save => as_aux_lemma => (refine' DLay.HFn.mk' ?a ?l ?c ?k; (case a => k_is); (case l => k_is); (case c => k_is); (case k => k_is)))
    (case h_Session_rows => as_aux_lemma => (refine' DLay.HMt.mk' ?a ?i ?l ?c ?k; (case a => k_is); (case i => k_is); (case l => k_is); (case c => k_is); (case k => k_is)))
    (case h_Session_perform => as_aux_lemma => (refine' DLay.HMt.mk' ?a ?i ?l ?c ?k; (case a => k_is); (case i => k_is); (case l => k_is); (case c => k_is); (case k => k_is)))
    (case h_Session_add => as_aux_lemma => (refine' DLay.HMt.mk' ?a ?i ?l ?c ?k; (case a => k_is); (case i => k_is); (case l => k_is); (case c => k_is); (case k => k_is)))
    (case h_Session_remove => as_aux_lemma => (refine' DLay.HMt.mk' ?a ?i ?l ?c ?k; (case a => k_is); (case i => k_is); (case l => k_is); (case c => k_is); (case k => k_is)))
    (case h_perform => as_aux_lemma => (refine' DLay.HFn.mk' ?a ?l ?c ?k; (case a => k_is); (case l => k_is); (case c => k_is); (case k => k_is)))
    (case h_Session_undo => as_aux_lemma => (refine' DLay.HMt.mk' ?a ?i ?l ?c ?k; (case a => k_is); (case i => k_is); (case l => k_is); (case c => k_is); (case k => k_is)))
    (case h_Session___init__ => as_aux_lemma => (refine' DLay.HMt.mk' ?a ?i ?l ?c ?k; (case a => k_is); (case i => k_is); (case l => k_is); (case c => k_is); (case k => k_is)))
    (case h_load => as_aux_lemma => (refine' DLay.HFn.mk' ?a ?l ?c ?k; (case a => k_is); (case l => k_is); (case c => k_is); (case k => k_is)))
    (case h__law_town => as_aux_lemma => (refine' DLay.HFn.mk' ?a ?l ?c ?k; (case a => k_is); (case l => k_is); (case c => k_is); (case k => k_is)))
    (case h__law_draw => as_aux_lemma => (refine' DLay.HFn.mk' ?a ?l ?c ?k; (case a => k_is); (case l => k_is); (case c => k_is); (case k => k_is)))
    (case h_Session_redo => as_aux_lemma => (refine' DLay.HMt.mk' ?a ?i ?l ?c ?k; (case a => k_is); (case i => k_is); (case l => k_is); (case c => k_is); (case k => k_is)))
    (case h__law_back => as_aux_lemma => (refine' DLay.HFn.mk' ?a ?l ?c ?k; (case a => k_is); (case l => k_is); (case c => k_is); (case k => k_is)))
    (case h__law_call => as_aux_lemma => (refine' DLay.HFn.mk' ?a ?l ?c ?k; (case a => k_is); (case l => k_is); (case c => k_is); (case k => k_is)))
    (case h__law_name => as_aux_lemma => (refine' DLay.HFn.mk' ?a ?l ?c ?k; (case a => k_is); (case l => k_is); (case c => k_is); (case k => k_is)))
    (case h__law_outcome => as_aux_lemma => (refine' DLay.HFn.mk' ?a ?l ?c ?k; (case a => k_is); (case l => k_is); (case c => k_is); (case k => k_is)))
    (case h__law_raises => as_aux_lemma => (refine' DLay.HFn.mk' ?a ?l ?c ?k; (case a => k_is); (case l => k_is); (case c => k_is); (case k => k_is)))
    (case h__law_edit => as_aux_lemma => (refine' DLay.HFn.mk' ?a ?l ?c ?k; (case a => k_is); (case l => k_is); (case c => k_is); (case k => k_is)))
    (case h__law_do => as_aux_lemma => (refine' DLay.HFn.mk' ?a ?l ?c ?k; (case a => k_is); (case l => k_is); (case c => k_is); (case k => k_is)))
    (case h_Session_generators => as_aux_lemma => (refine' DLay.HMt.mk' ?a ?i ?l ?c ?k; (case a => k_is); (case i => k_is); (case l => k_is); (case c => k_is); (case k => k_is)))
    (case h_Session___eq__ => as_aux_lemma => (refine' DLay.HMt.mk' ?a ?i ?l ?c ?k; (case a => k_is); (case i => k_is); (case l => k_is); (case c => k_is); (case k => k_is)))
    (case h_Session___str__ => as_aux_lemma => (refine' DLay.HMt.mk' ?a ?i ?l ?c ?k; (case a => k_is); (case i => k_is); (case l => k_is); (case c => k_is); (case k => k_is)))
    (case h_law => as_aux_lemma => (refine' DLay.HFn.mk' ?a ?l ?c ?k; (case a => k_is); (case l => k_is); (case c => k_is); (case k => k_is)))
    (case lS => k_is)
    (case pS => rfl)
    (case hS => kernel_rfl)
    (case nS => kernel_rfl)
    (case tS => exact hT8 _ (by simp))
#print axioms PySem.Challenge.cw_gridbases_k64_saved_sessions_holds
