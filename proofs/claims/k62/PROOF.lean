import PyProof.Rows.All
import Wide.All
import OpenK.AllK
import Wide.FinOn
import HandS.ForMost
import KE.KNestM
import KE.KLam
import HandS.TupMul
import PyProof.ListMulRoad
import PyProof.FactsAll.tuple_2
import HandS.Exc
import HandS.ExcOwn
import HandS.TryOnly
import HandS.WordsExc
import HandS.Zip
import HandS.Wide
import HandS.IsInst
import HandS.TupAny
import HandS.Lambda
import HandS.EndTab
import PyProof.StrOps2
import HandS.TupLe
import HandS.Style
import KE.GoesEnum
import KE.SortKeyHeap
import KE.KSortKey
import HandS.ExcIs
import HandS.Text
import HandS.Codes
import HandS.More
import PyProof.ListStr
import PySem.Challenge.RW_gridbases_k62_session_ends
set_option Elab.async false
set_option linter.all false
set_option maxRecDepth 100000
set_option maxHeartbeats 4000000
namespace DLay
open PySem PySem.Spec PyProof.Rows L2
/-! #### DL0 -/
/-! The D layer, part 0: tuple * int. -/
open AutoSeq1 (wpAny_loadPart')
theorem tuple_mul_one (l : Addr) (items : Array Value) (n : Nat) (dd : Option Addr) (sl : Array (Option Value)) (x : Int) (u : Tok) (c0 : (decide (x < -(2 ^ 63)) || decide (x ≥ 2 ^ 63)) = false) (c1 : (items.isEmpty || x == 1) = true) :
    Meets (Builtin.«tuple.__mul__» ⟨[.ref l, .int x u], []⟩) (fun _ R s => s.heap.get? l = some { cls := .type "tuple", dict := dd, data := .seq items n, slots := sl } ∧ ∀ tk, R (.ok (.ret (Value.ref l))) { s with toks := tk }) :=
  .of_wp fun prog w A R s h => by
    obtain ⟨hp, g, d, tk, os⟩ := s
    obtain ⟨hl, h⟩ := h
    have f1 := AutoSeq1.idx_int
    wp_walk using wpAny_loadPart' hl
    repeat (first
      | (refine wpAny_ite_false (decide_eq_false (by rw [c0]; exact Bool.false_ne_true)) ?_; wp_walk using wpAny_loadPart' hl)
      | (refine wpAny_ite_true (decide_eq_true c1) ?_; wp_walk using wpAny_loadPart' hl))
    exact ⟨_, rfl, h _⟩
theorem tuple_mul_none (l : Addr) (items : Array Value) (n : Nat) (dd : Option Addr) (sl : Array (Option Value)) (x : Int) (u : Tok) (c0 : (decide (x < -(2 ^ 63)) || decide (x ≥ 2 ^ 63)) = false) (c1 : (items.isEmpty || x == 1) = false) (c2 : (decide (x ≤ 0) || items.isEmpty) = true) :
    Meets (Builtin.«tuple.__mul__» ⟨[.ref l, .int x u], []⟩) (fun _ R s => s.heap.get? l = some { cls := .type "tuple", dict := dd, data := .seq items n, slots := sl } ∧
      R (.ok (.ret (Value.ref s.heap.objs.size))) { s with heap := s.heap.push { cls := Value.type "tuple", data := Data.seq #[] }, toks := s.toks }) :=
  .of_wp fun prog w A R s h => by
    obtain ⟨hp, g, d, tk, os⟩ := s
    obtain ⟨hl, h⟩ := h
    have f1 := AutoSeq1.idx_int
    wp_walk using wpAny_loadPart' hl
    repeat (first
      | (refine wpAny_ite_false (decide_eq_false (by rw [c0]; exact Bool.false_ne_true)) ?_; wp_walk using wpAny_loadPart' hl)
      | (refine wpAny_ite_false (decide_eq_false (by rw [c1]; exact Bool.false_ne_true)) ?_; wp_walk using wpAny_loadPart' hl)
      | (refine wpAny_ite_true (decide_eq_true c2) ?_; wp_walk using wpAny_loadPart' hl))
    exact ⟨_, rfl, h⟩
/-- t * k -/
def rRepA (K : PySem.W.Frag) : R2 := fun x y H Q => ∃ l k xs, x = .ref l ∧ y = .int k ∧ SqT K H l xs ∧ xs ≠ [] ∧ -1000 ≤ k ∧ k ≤ 1000 ∧ xs.length ≤ 1000 ∧ (k = 1 → Q (.ref l) H) ∧ (k ≠ 1 → ∀ p, H p = none → Q (.ref p) (upd H p (.tup (List.replicate k.toNat xs).flatten)))
theorem op_repA {X : Cx} : OpR X (binaryOp .Mult) (rRepA X.K) := by
  intro pins s σ H x y v u Q I rx ry h
  obtain ⟨l, k, xs, rfl, rfl, hT, hne, h0, h2, hz, q1, q2⟩ := h
  by_cases hk2 : 2 ≤ k
  · exact op_repT pins s σ H _ _ v u Q I rx ry ⟨l, k, xs, rfl, rfl, hT, hne, hk2, h2, hz, q2 (by omega)⟩
  cases rx
  obtain ⟨t, rfl⟩ := ry
  obtain ⟨its, r, ⟨⟨cls, dd, data, sl⟩, ho, hc, n, hd⟩, hs⟩ := I.tuple hT
  simp only at hc hd
  subst hc hd
  have hle : its.length = xs.length := r.length.symm
  have hn : its ≠ [] := fun e => hne (by
    rw [e] at hle
    exact List.eq_nil_of_length_eq_zero hle.symm)
  have hi : its.toArray.isEmpty = false := by
    cases its with
    | nil => exact absurd rfl hn
    | cons a b => rfl
  have c0 : (decide (k < -(2 ^ 63)) || decide (k ≥ 2 ^ 63)) = false := by
    rw [decide_eq_false (by omega), decide_eq_false (by omega)] <;> rfl
  by_cases hk1 : k = 1
  · have c1 : (its.toArray.isEmpty || k == 1) = true := by rw [hk1, hi]; rfl
    refine wpAny_binaryOp_repeat_ref (T := "tuple") (U := "int") (by decide) ⟨_, ho, rfl⟩ (fun s' => typeIs_int s' k t) noFill_tuple_mul F.fills_int_mul F.slot_int_rmul repeat_tuple F.slot_int_index.lookup
      (call_meets F.slot_int_rmul (typeIs_int s k t) F.entry_int_rmul (F.args_int_rmul_2 _ _) (int_rmul_tuple k t l its.toArray n dd sl)
        ⟨ho, rfl, ⟨_, ho, rfl⟩, call_meets F.slot_tuple_mul ⟨_, ho, rfl⟩ F.entry_tuple_mul (F.args_tuple_mul_2 _ _) (tuple_mul_one l its.toArray n dd sl k t c0 c1) ⟨ho, fun tk => ?_⟩⟩)
    exact ⟨.ref l, H, I.tok _, rfl, q1 hk1⟩
  · have c1 : (its.toArray.isEmpty || k == 1) = false := by
      rw [hi, Bool.false_or]
      exact beq_eq_false_iff_ne.mpr hk1
    have c2 : (decide (k ≤ 0) || its.toArray.isEmpty) = true := by
      rw [decide_eq_true (by omega)] <;> rfl
    refine wpAny_binaryOp_repeat_ref (T := "tuple") (U := "int") (by decide) ⟨_, ho, rfl⟩ (fun s' => typeIs_int s' k t) noFill_tuple_mul F.fills_int_mul F.slot_int_rmul repeat_tuple F.slot_int_index.lookup
      (call_meets F.slot_int_rmul (typeIs_int s k t) F.entry_int_rmul (F.args_int_rmul_2 _ _) (int_rmul_tuple k t l its.toArray n dd sl)
        ⟨ho, rfl, ⟨_, ho, rfl⟩, call_meets F.slot_tuple_mul ⟨_, ho, rfl⟩ F.entry_tuple_mul (F.args_tuple_mul_2 _ _) (tuple_mul_none l its.toArray n dd sl k t c0 c1 c2) ⟨ho, ?_⟩⟩)
    have ek : k.toNat = 0 := by omega
    have z := q2 hk1 _ (I.hok.fresh (Nat.le_refl _))
    rw [ek] at z
    refine ⟨.ref s.heap.objs.size, _, I.laid (t' := s.toks) (o := .tup []) (fun b ob q => Heap.get?_push_of_some _ q) (Nat.le_refl _) ?_, rfl, z⟩
    exact ⟨Nat.zero_le _, [], .nil, IsTup.new _ _⟩
/-! #### DL1 -/
/-! The D layer, part 1: plain data, the store, how they stand in the heap. -/
/-- plain data; a handle points into the store; scr: the law's own argument -/
inductive D where
  | non | bl (b : Bool) | int (i : Int) | str (x : Str) | flt (b : UInt64)
  | tup (ds : List D) | lst (ds : List D) | scr (ds : List D)
  | han (i : Nat) | cst (v : V) | exc (x : Str)
inductive O where
  | lst (ds : List D)
  | gone
  | ins (c : Str) (fs : List (Str × D))
  | dct (kvs : List (List Int × D))
abbrev Sto := List O
abbrev Env := List (Option D)
/-- the written part, and the tables of code objects that are tracked (with the names of what is made there) -/
structure Fg where
  K : PySem.W.Frag
  T : List (Addr × Str)
/-- an exception that was caught: an instance of the class at C -/
def ExcO (a C : Addr) : HO := .ext fun h => ∃ oe vs, h.get? a = some oe ∧ (oe.cls = .ref C ∧ oe.dict = none) ∧ oe.data = .fields vs
mutual
inductive Rp (K : Fg) (F : Hp) (ads : List Addr) : D → V → Prop
  | non : Rp K F ads .non .non
  | bl (b : Bool) : Rp K F ads (.bl b) (.bl b)
  | int (i : Int) : Rp K F ads (.int i) (.int i)
  | str (x : Str) : Rp K F ads (.str x) (.str x)
  | flt (b : UInt64) : Rp K F ads (.flt b) (.flt b)
  | tup {a : Addr} {ds : List D} {vs : List V} : SqT K.K F a vs → Rps K F ads ds vs → Rp K F ads (.tup ds) (.ref a)
  | lst {a : Addr} {ds : List D} {vs : List V} : F a = some (.lst vs) → Rps K F ads ds vs → Rp K F ads (.lst ds) (.ref a)
  | scr {a : Addr} {ds : List D} {vs : List V} : SqL K.K F a vs → Rps K F ads ds vs → Rp K F ads (.scr ds) (.ref a)
  | han {i : Nat} {a : Addr} : ads[i]? = some a → Rp K F ads (.han i) (.ref a)
  | cst (v : V) : Rp K F ads (.cst v) v
  | exc {x : Str} {a C : Addr} : F a = some (ExcO a C) → PySem.W.nsIn K.K mainGlobals x = some (some (.ref C)) → Rp K F ads (.exc x) (.ref a)
inductive Rps (K : Fg) (F : Hp) (ads : List Addr) : List D → List V → Prop
  | nil : Rps K F ads [] []
  | cons {d : D} {v : V} {ds : List D} {vs : List V} : Rp K F ads d v → Rps K F ads ds vs → Rps K F ads (d :: ds) (v :: vs)
end
theorem Same.tup {K : PySem.W.Frag} {H H' : Hp} {a : Addr} {xs : List V} (e : Same H H') (h : SqT K H a xs) : SqT K H' a xs := by
  rcases h with (h | ⟨o, h⟩) | h
  · exact .inl (.inl (e _ _ h))
  · exact .inl (.inr ⟨o, e _ _ h⟩)
  · exact .inr h
section
variable {K : Fg} {F F' : Hp} {ads ads' : List Addr}
mutual
theorem Rp.mono (hs : Same F F') (hp : ∀ (i : Nat) a, ads[i]? = some a → ads'[i]? = some a) : ∀ {d : D} {v : V}, Rp K F ads d v → Rp K F' ads' d v
  | _, _, .non => .non
  | _, _, .bl b => .bl b
  | _, _, .int i => .int i
  | _, _, .str x => .str x
  | _, _, .flt b => .flt b
  | _, _, .tup h r => .tup (Same.tup hs h) (Rps.mono hs hp r)
  | _, _, .lst h r => .lst (hs _ _ h) (Rps.mono hs hp r)
  | _, _, .scr h r => .scr (hs.seq h) (Rps.mono hs hp r)
  | _, _, .han h => .han (hp _ _ h)
  | _, _, .cst v => .cst v
  | _, _, .exc h n => .exc (hs _ _ h) n
theorem Rps.mono (hs : Same F F') (hp : ∀ (i : Nat) a, ads[i]? = some a → ads'[i]? = some a) : ∀ {ds : List D} {vs : List V}, Rps K F ads ds vs → Rps K F' ads' ds vs
  | _, _, .nil => .nil
  | _, _, .cons r t => .cons (Rp.mono hs hp r) (Rps.mono hs hp t)
end
theorem Rps.length : ∀ {ds : List D} {vs : List V}, Rps K F ads ds vs → ds.length = vs.length
  | _, _, .nil => rfl
  | _, _, .cons _ t => by simp [Rps.length t]
theorem Rps.append : ∀ {ds es : List D} {vs us : List V}, Rps K F ads ds vs → Rps K F ads es us → Rps K F ads (ds ++ es) (vs ++ us)
  | _, _, _, _, .nil, t => t
  | _, _, _, _, .cons r t, u => .cons r (Rps.append t u)
theorem Rps.get : ∀ {ds : List D} {vs : List V} {i : Nat} {d : D}, Rps K F ads ds vs → ds[i]? = some d → ∃ v, vs[i]? = some v ∧ Rp K F ads d v
  | _, _, _, _, .nil, e => by simp at e
  | _, _, 0, _, .cons r _, e => by simp at e; subst e; exact ⟨_, rfl, r⟩
  | _, _, i + 1, d, .cons _ t, e => by
    obtain ⟨u, h1, h2⟩ := Rps.get (i := i) (d := d) t (by simpa using e)
    exact ⟨u, by simpa using h1, h2⟩
theorem Rps.getV : ∀ {ds : List D} {vs : List V} {i : Nat} {v : V}, Rps K F ads ds vs → vs[i]? = some v → ∃ d, ds[i]? = some d ∧ Rp K F ads d v
  | _, _, _, _, .nil, e => by simp at e
  | _, _, 0, _, .cons r _, e => by simp at e; subst e; exact ⟨_, rfl, r⟩
  | _, _, i + 1, d, .cons _ t, e => by
    obtain ⟨u, h1, h2⟩ := Rps.getV (i := i) (v := d) t (by simpa using e)
    exact ⟨u, by simpa using h1, h2⟩
theorem Rps.take : ∀ {ds : List D} {vs : List V} (n : Nat), Rps K F ads ds vs → Rps K F ads (ds.take n) (vs.take n)
  | _, _, 0, _ => .nil
  | _, _, _ + 1, .nil => .nil
  | _, _, n + 1, .cons r t => .cons r (Rps.take n t)
theorem Rps.drop : ∀ {ds : List D} {vs : List V} (n : Nat), Rps K F ads ds vs → Rps K F ads (ds.drop n) (vs.drop n)
  | _, _, 0, r => r
  | _, _, _ + 1, .nil => .nil
  | _, _, n + 1, .cons _ t => Rps.drop n t
theorem Rps.set {d : D} {v : V} (r : Rp K F ads d v) : ∀ {ds : List D} {vs : List V} (i : Nat), Rps K F ads ds vs → Rps K F ads (ds.set i d) (vs.set i v)
  | _, _, _, .nil => .nil
  | _, _, 0, .cons _ t => .cons r t
  | _, _, i + 1, .cons q t => .cons q (Rps.set r i t)
theorem Rps.reverse {ds : List D} {vs : List V} (h : Rps K F ads ds vs) : Rps K F ads ds.reverse vs.reverse := by
  induction h using Rps.rec (motive_1 := fun _ _ _ => True) with
  | nil => exact .nil
  | cons r t _ ih => rw [List.reverse_cons, List.reverse_cons]; exact ih.append (.cons r .nil)
  | _ => trivial
theorem Rps.dropLast {ds : List D} {vs : List V} (h : Rps K F ads ds vs) : Rps K F ads ds.dropLast vs.dropLast := by
  rw [List.dropLast_eq_take, List.dropLast_eq_take, h.length]
  exact h.take _
theorem Rps.ints : ∀ {ns : List Int} {vs : List V}, Rps K F ads (ns.map D.int) vs → vs = ns.map V.int
  | [], _, .nil => rfl
  | n :: ns, _, .cons r t => by
    cases r
    rw [Rps.ints t]; rfl
theorem Rps.bls : ∀ {ns : List Bool} {vs : List V}, Rps K F ads (ns.map D.bl) vs → vs = ns.map V.bl
  | [], _, .nil => rfl
  | n :: ns, _, .cons r t => by
    cases r
    rw [Rps.bls t]; rfl
theorem Rps.strs : ∀ {ns : List Str} {vs : List V}, Rps K F ads (ns.map D.str) vs → vs = ns.map V.str
  | [], _, .nil => rfl
  | n :: ns, _, .cons r t => by
    cases r
    rw [Rps.strs t]; rfl
theorem Rps.ofInts : ∀ (ns : List Int), Rps K F ads (ns.map D.int) (ns.map V.int)
  | [] => .nil
  | n :: ns => .cons (.int n) (Rps.ofInts ns)
theorem Rps.ofStrs : ∀ (ns : List Str), Rps K F ads (ns.map D.str) (ns.map V.str)
  | [] => .nil
  | n :: ns => .cons (.str n) (Rps.ofStrs ns)
theorem Rps.rep {ds : List D} {vs : List V} (h : Rps K F ads ds vs) : ∀ k : Nat, Rps K F ads (List.replicate k ds).flatten (List.replicate k vs).flatten
  | 0 => .nil
  | k + 1 => by
    rw [List.replicate_succ, List.replicate_succ, List.flatten_cons, List.flatten_cons]
    exact h.append (Rps.rep h k)
end
/-- F lies in H; a table of code objects is told by its name alone: it may grow -/
def Sub (F H : Hp) : Prop := ∀ b o, F b = some o → match o with
  | .tbl m => ∃ q t, m = #[Value.str q t] ∧ LamX.TabS H b q
  | _ => H b = some o
theorem Sub.there {F H : Hp} (e : Sub F H) {b : Addr} {o : HO} (h : F b = some o) : ∃ u, H b = some u := by
  have q := e b o h
  cases o with
  | tbl m => obtain ⟨_, _, _, ps, hp, _⟩ := q; exact ⟨_, hp⟩
  | _ => exact ⟨_, q⟩
theorem Sub.free {F H : Hp} (e : Sub F H) {b : Addr} (h : H b = none) : F b = none := by
  cases q : F b with
  | none => rfl
  | some o => obtain ⟨u, z⟩ := e.there q; rw [h] at z; cases z
theorem Sub.seq {K : PySem.W.Frag} {F H : Hp} {a : Addr} {xs : List V} (e : Sub F H) (h : SqL K F a xs) : SqL K H a xs := by
  rcases h with (h | ⟨o, h⟩) | h
  · exact .inl (.inl (e _ _ h))
  · exact .inl (.inr ⟨o, e _ _ h⟩)
  · exact .inr h
theorem Sub.tup {K : PySem.W.Frag} {F H : Hp} {a : Addr} {xs : List V} (e : Sub F H) (h : SqT K F a xs) : SqT K H a xs := by
  rcases h with (h | ⟨o, h⟩) | h
  · exact .inl (.inl (e _ _ h))
  · exact .inl (.inr ⟨o, e _ _ h⟩)
  · exact .inr h
/-- H' holds F too -/
theorem Sub.to {F H H' : Hp} (e : Sub F H) (k : ∀ b u, F b = some u → (∀ m, u ≠ .tbl m) → H' b = H b) (t : ∀ b q, LamX.TabS H b q → (∃ m, F b = some (.tbl m)) → LamX.TabS H' b q) : Sub F H' := fun b o h => by
  have q := e b o h
  cases o with
  | tbl m => obtain ⟨n, u, e1, e2⟩ := q; exact ⟨n, u, e1, t b n e2 ⟨m, h⟩⟩
  | _ => exact (k b _ h (fun m z => by cases z)).trans q
theorem tabs_upd {H : Hp} {b a : Addr} {q : Str} {o : HO} (t : LamX.TabS H b q) (hb : b ≠ a) (hc : ∀ c q, H c = some (LamX.CodeO c q) → c ≠ a) : LamX.TabS (upd H a o) b q := by
  obtain ⟨ps, h1, h2, h3⟩ := t
  refine ⟨ps, by rw [upd_ne hb]; exact h1, h2, fun pos cv hcv => ?_⟩
  obtain ⟨c, e1, e2⟩ := h3 pos cv hcv
  exact ⟨c, e1, by rw [upd_ne (hc c q e2)]; exact e2⟩
def isTb : HO → Bool
  | .tbl _ => true
  | _ => false
/-- what stands at a handle's address -/
def ORp (K : Fg) (F : Hp) (ads : List Addr) (H : Hp) (a : Addr) : O → Prop
  | .lst ds => F a = none ∧ ∃ vs, H a = some (.lst vs) ∧ Rps K F ads ds vs
  | .gone => ∃ vs, H a = some (.lst vs)
  | .ins c fs => F a = none ∧ ∃ C dx gs, H a = some (.ins C dx gs) ∧ PySem.W.nsIn K.K mainGlobals c = some (some (.ref C)) ∧ gs.map (·.1) = fs.map (·.1) ∧ Rps K F ads (fs.map (·.2)) (gs.map (·.2))
  | .dct kvs => F a = none ∧ ∃ us : List (List Key × V), H a = some (.dT us) ∧ us.map (·.1) = kvs.map (fun p => p.1.map Sum.inl) ∧ Rps K F ads (kvs.map (·.2)) (us.map (·.2))
structure Sim (K : Fg) (F : Hp) (ads : List Addr) (S : Sto) (H : Hp) : Prop where
  sub : Sub F H
  tab : ∀ p ∈ K.T, F p.1 = some (.tbl #[.str p.2 0])
  tb2 : ∀ b m, F b = some (.tbl m) → ∃ q, (b, q) ∈ K.T ∧ m = #[.str q 0]
  len : ads.length = S.length
  nd : ads.Nodup
  ob : ∀ (i : Nat) a o, ads[i]? = some a → S[i]? = some o → ORp K F ads H a o
/-- nothing stands there (or a table) -/
def Fresh (H : Hp) (a : Addr) : Prop := ∀ o, H a = some o → isTb o = true
structure Ext (F : Hp) (ads : List Addr) (H : Hp) (F' : Hp) (ads' : List Addr) (H' : Hp) : Prop where
  sub : Same F F'
  pre : ∀ (i : Nat) a, ads[i]? = some a → ads'[i]? = some a
  new : ∀ a ∈ ads', a ∈ ads ∨ Fresh H a
  kep : ∀ b o, H b = some o → b ∉ ads → isTb o = false → H' b = some o
  fno : ∀ b o, H b = some o → b ∉ ads → isTb o = false → F b = none → F' b = none
section
variable {K : Fg} {F F1 F2 F' : Hp} {ads ads1 ads2 ads' : List Addr} {H H1 H2 H' : Hp} {S S' : Sto} {a : Addr}
theorem Fresh.none (h : H a = none) : Fresh H a := fun o e => by rw [h] at e; cases e
theorem Ext.refl : Ext F ads H F ads H := ⟨Same.refl _, fun _ _ h => h, fun _ h => .inl h, fun _ _ h _ _ => h, fun _ _ _ _ _ h => h⟩
theorem Ext.trans (x : Ext F ads H F1 ads1 H1) (y : Ext F1 ads1 H1 F2 ads2 H2) : Ext F ads H F2 ads2 H2 := by
  have nb1 : ∀ b o, H b = some o → b ∉ ads → isTb o = false → b ∉ ads1 := fun b o h nb t hb => by
    rcases x.new b hb with q | q
    · exact nb q
    · rw [q o h] at t; cases t
  refine ⟨x.sub.trans y.sub, fun i a h => y.pre i a (x.pre i a h), fun a h => ?_, fun b o h nb t => y.kep b o (x.kep b o h nb t) (nb1 b o h nb t) t, fun b o h nb t hF => y.fno b o (x.kep b o h nb t) (nb1 b o h nb t) t (x.fno b o h nb t hF)⟩
  rcases y.new a h with q | q
  · exact x.new a q
  · by_cases ha : a ∈ ads
    · exact .inl ha
    · refine .inr fun o e => ?_
      cases t : isTb o with
      | true => rfl
      | false => rw [q o (x.kep a o e ha t)] at t; cases t
theorem Rp.ext {d : D} {v : V} (x : Ext F ads H F' ads' H') (r : Rp K F ads d v) : Rp K F' ads' d v := r.mono x.sub x.pre
theorem Rps.ext {d : List D} {v : List V} (x : Ext F ads H F' ads' H') (r : Rps K F ads d v) : Rps K F' ads' d v := r.mono x.sub x.pre
theorem Sim.at (s : Sim K F ads S H) {i : Nat} {o : O} (h : S[i]? = some o) : ∃ a, ads[i]? = some a ∧ ORp K F ads H a o := by
  have hi : i < S.length := (List.getElem?_eq_some_iff.mp h).1
  have ha : ads[i]? = some (ads[i]'(by rw [s.len]; exact hi)) := List.getElem?_eq_getElem _
  exact ⟨_, ha, s.ob i _ o ha h⟩
theorem ORp.there {a : Addr} {o : O} (h : ORp K F ads H a o) : ∃ u, H a = some u := by
  cases o with
  | lst ds => obtain ⟨_, vs, e, _⟩ := h; exact ⟨_, e⟩
  | gone => obtain ⟨vs, e⟩ := h; exact ⟨_, e⟩
  | ins c fs => obtain ⟨_, C, dx, gs, e, _⟩ := h; exact ⟨_, e⟩
  | dct kvs => obtain ⟨_, us, e, _⟩ := h; exact ⟨_, e⟩
theorem Sim.there (s : Sim K F ads S H) {a : Addr} (h : a ∈ ads) : ∃ u, H a = some u := by
  obtain ⟨i, hi, e⟩ := List.getElem_of_mem h
  have ha : ads[i]? = some a := by rw [List.getElem?_eq_getElem hi, e]
  have hS : i < S.length := by rw [← s.len]; exact hi
  exact (s.ob i a S[i] ha (List.getElem?_eq_getElem hS)).there
theorem ORp.noCode {a : Addr} {o : O} (h : ORp K F ads H a o) : (∀ c q, H c = some (LamX.CodeO c q) → c ≠ a) ∧ ∀ m, H a ≠ some (.tbl m) := by
  have key : ∀ u, H a = some u → (∀ φ, u ≠ .ext φ) → (∀ m, u ≠ .tbl m) → (∀ c q, H c = some (LamX.CodeO c q) → c ≠ a) ∧ ∀ m, H a ≠ some (.tbl m) := fun u e n n2 => by
    refine ⟨fun c q hc z => ?_, fun m z => n2 m (Option.some.inj (e.symm.trans z))⟩
    subst z
    rw [e] at hc
    exact n _ (Option.some.inj hc)
  cases o with
  | lst ds => obtain ⟨_, vs, e, _⟩ := h; exact key _ e (fun φ z => by cases z) (fun φ z => by cases z)
  | gone => obtain ⟨vs, e⟩ := h; exact key _ e (fun φ z => by cases z) (fun φ z => by cases z)
  | ins c fs => obtain ⟨_, C, dx, gs, e, _⟩ := h; exact key _ e (fun φ z => by cases z) (fun φ z => by cases z)
  | dct kvs => obtain ⟨_, us, e, _⟩ := h; exact key _ e (fun φ z => by cases z) (fun φ z => by cases z)
theorem Sim.noCode (s : Sim K F ads S H) {a : Addr} (h : a ∈ ads) : (∀ c q, H c = some (LamX.CodeO c q) → c ≠ a) ∧ ∀ m, H a ≠ some (.tbl m) := by
  obtain ⟨i, hi, e⟩ := List.getElem_of_mem h
  have ha : ads[i]? = some a := by rw [List.getElem?_eq_getElem hi, e]
  have hS : i < S.length := by rw [← s.len]; exact hi
  exact (s.ob i a S[i] ha (List.getElem?_eq_getElem hS)).noCode
theorem Sim.fresh (s : Sim K F ads S H) {p : Addr} (h : H p = none) : p ∉ ads ∧ F p = none := by
  refine ⟨fun hp => ?_, s.sub.free h⟩
  obtain ⟨u, e⟩ := s.there hp
  rw [e] at h; cases h
theorem ORp.keep {a : Addr} {o : O} (h : ORp K F ads H a o) (sF : Same F F') (pr : ∀ (i : Nat) a, ads[i]? = some a → ads'[i]? = some a) (e : H' a = H a) (f : F a = none → F' a = none) : ORp K F' ads' H' a o := by
  cases o with
  | lst ds => obtain ⟨q, vs, e1, r⟩ := h; exact ⟨f q, vs, by rw [e]; exact e1, r.mono sF pr⟩
  | gone => obtain ⟨u, e1⟩ := h; exact ⟨u, by rw [e]; exact e1⟩
  | ins c fs => obtain ⟨q, C, dx, gs, e1, n, k, r⟩ := h; exact ⟨f q, C, dx, gs, by rw [e]; exact e1, n, k, r.mono sF pr⟩
  | dct kvs => obtain ⟨q, us, e1, k, r⟩ := h; exact ⟨f q, us, by rw [e]; exact e1, k, r.mono sF pr⟩
/-- a new frozen object -/
theorem Sim.frz (s : Sim K F ads S H) {p : Addr} (hp : H p = none) (o : HO) (ho : isTb o = false := by rfl) : Sim K (upd F p o) ads S (upd H p o) ∧ Ext F ads H (upd F p o) ads (upd H p o) := by
  obtain ⟨np, nF⟩ := s.fresh hp
  have sF : Same F (upd F p o) := fun b u e => by rw [upd_ne (ne_of_none e nF)]; exact e
  have up : ∀ b u, H b = some u → upd H p o b = some u := fun b u e => by rw [upd_ne (ne_of_none e hp)]; exact e
  have tb : ∀ b m, upd F p o b = some (.tbl m) → F b = some (.tbl m) := fun b m e => by
    by_cases hb : b = p
    · subst hb; rw [upd_same] at e; cases e; cases ho
    · rw [upd_ne hb] at e; exact e
  refine ⟨⟨fun b u e => ?_, fun p hp => sF _ _ (s.tab p hp), fun b m e => s.tb2 b m (tb b m e), s.len, s.nd, fun i a q ha hq => ?_⟩, sF, fun _ _ h => h, fun _ h => .inl h, fun b u e _ _ => up b u e, fun b u e _ _ z => by rw [upd_ne (ne_of_none e hp)]; exact z⟩
  · by_cases hb : b = p
    · subst hb
      rw [upd_same] at e
      cases e
      cases o with
      | tbl m => cases ho
      | _ => exact upd_same
    · rw [upd_ne hb] at e
      have q := s.sub b u e
      cases u with
      | tbl m => obtain ⟨n, t, e1, e2⟩ := q; exact ⟨n, t, e1, e2.ext up⟩
      | _ => exact up b _ q
  · have na : a ≠ p := fun e => np (e ▸ List.mem_of_getElem? ha)
    exact (s.ob i a q ha hq).keep sF (fun _ _ h => h) (upd_ne na) (fun z => by rw [upd_ne na]; exact z)
/-- a new object of the store -/
theorem Sim.thw (s : Sim K F ads S H) {p : Addr} (hp : H p = none) (u : HO) (o : O) (h : ORp K F (ads ++ [p]) (upd H p u) p o) : Sim K F (ads ++ [p]) (S ++ [o]) (upd H p u) ∧ Ext F ads H F (ads ++ [p]) (upd H p u) := by
  obtain ⟨np, nF⟩ := s.fresh hp
  have up : ∀ b v, H b = some v → upd H p u b = some v := fun b v e => by rw [upd_ne (ne_of_none e hp)]; exact e
  have pr : ∀ (i : Nat) a, ads[i]? = some a → (ads ++ [p])[i]? = some a := fun i a e => by
    rw [List.getElem?_append_left (List.getElem?_eq_some_iff.mp e).1]; exact e
  refine ⟨⟨s.sub.to (fun b v e _ => upd_ne (ne_of_none e nF)) (fun b q t _ => t.ext up), s.tab, s.tb2, by simp [s.len], ?_, fun i a q ha hq => ?_⟩, Same.refl _, pr, fun a h => ?_, fun b v e _ _ => up b v e, fun _ _ _ _ _ z => z⟩
  · rw [List.nodup_append]
    exact ⟨s.nd, by simp, fun a ha b hb => by simp at hb; subst hb; exact fun e => np (e ▸ ha)⟩
  · by_cases hi : i < ads.length
    · rw [List.getElem?_append_left hi] at ha
      rw [List.getElem?_append_left (by rw [← s.len]; exact hi)] at hq
      have na : a ≠ p := fun e => np (e ▸ List.mem_of_getElem? ha)
      exact (s.ob i a q ha hq).keep (Same.refl _) pr (upd_ne na) id
    · have hi' : i = ads.length := by
        have := (List.getElem?_eq_some_iff.mp ha).1
        simp at this; omega
      subst hi'
      rw [List.getElem?_append_right (Nat.le_refl _)] at ha
      rw [s.len, List.getElem?_append_right (Nat.le_refl _)] at hq
      simp at ha hq
      subst ha; subst hq
      exact h
  · rcases List.mem_append.mp h with q | q
    · exact .inl q
    · simp at q; subst q; exact .inr (Fresh.none hp)
theorem nd_get {l : List Addr} (h : l.Nodup) {i j : Nat} {a : Addr} (x : l[i]? = some a) (y : l[j]? = some a) : i = j := L2.nd_ix h x y
/-- an object of the store is changed -/
theorem Sim.put (s : Sim K F ads S H) {i : Nat} {a : Addr} {o : O} (ha : ads[i]? = some a) (hF : F a = none) (u : HO) (h : ORp K F ads (upd H a u) a o) : Sim K F ads (S.set i o) (upd H a u) ∧ Ext F ads H F ads (upd H a u) := by
  obtain ⟨nc, nt⟩ := s.noCode (List.mem_of_getElem? ha)
  refine ⟨⟨s.sub.to (fun b v e _ => upd_ne (ne_of_none e hF)) (fun b q t z => tabs_upd t (fun e => by obtain ⟨m, z⟩ := z; rw [e, hF] at z; cases z) nc), s.tab, s.tb2, by simp [s.len], s.nd, fun j b q hb hq => ?_⟩, Same.refl _, fun _ _ h => h, fun _ h => .inl h, fun b u e nb _ => ?_, fun _ _ _ _ _ z => z⟩
  · by_cases hj : j = i
    · subst hj
      rw [ha] at hb; cases hb
      have hi : j < S.length := by rw [← s.len]; exact (List.getElem?_eq_some_iff.mp ha).1
      rw [List.getElem?_set_self hi] at hq
      cases hq
      exact h
    · rw [List.getElem?_set_ne (fun e => hj e.symm)] at hq
      have nb : b ≠ a := fun e => hj (nd_get s.nd hb (e ▸ ha))
      exact (s.ob j b q hb hq).keep (Same.refl _) (fun _ _ h => h) (upd_ne nb) id
  · have : b ≠ a := fun e => nb (e ▸ List.mem_of_getElem? ha)
    rw [upd_ne this]; exact e
/-- a list of the store is frozen -/
theorem Sim.freeze (s : Sim K F ads S H) {i : Nat} {a : Addr} {vs : List V} {ds : List D} (ha : ads[i]? = some a) (hH : H a = some (.lst vs)) (hF : F a = none) : Sim K (upd F a (.lst vs)) ads (S.set i .gone) H ∧ Ext F ads H (upd F a (.lst vs)) ads H := by
  have sF : Same F (upd F a (.lst vs)) := fun b u e => by rw [upd_ne (ne_of_none e hF)]; exact e
  have tb : ∀ b m, upd F a (.lst vs) b = some (.tbl m) → F b = some (.tbl m) := fun b m e => by
    by_cases hb : b = a
    · subst hb; rw [upd_same] at e; cases e
    · rw [upd_ne hb] at e; exact e
  refine ⟨⟨fun b u e => ?_, fun p hp => sF _ _ (s.tab p hp), fun b m e => s.tb2 b m (tb b m e), by simp [s.len], s.nd, fun j b q hb hq => ?_⟩, sF, fun _ _ h => h, fun _ h => .inl h, fun b u e nb _ => e, fun b u e nb _ z => by
    have : b ≠ a := fun q => nb (by rw [q]; exact List.mem_of_getElem? ha)
    rw [upd_ne this]; exact z⟩
  · by_cases hb : b = a
    · subst hb; rw [upd_same] at e; cases e; exact hH
    · rw [upd_ne hb] at e; exact s.sub b u e
  · by_cases hj : j = i
    · subst hj
      rw [ha] at hb; cases hb
      have hi : j < S.length := by rw [← s.len]; exact (List.getElem?_eq_some_iff.mp ha).1
      rw [List.getElem?_set_self hi] at hq
      cases hq
      exact ⟨_, hH⟩
    · rw [List.getElem?_set_ne (fun e => hj e.symm)] at hq
      have nb : b ≠ a := fun e => hj (nd_get s.nd hb (e ▸ ha))
      exact (s.ob j b q hb hq).keep sF (fun _ _ h => h) rfl (fun z => by rw [upd_ne nb]; exact z)
end
/-! ### one tracked thing left out of sight -/
def er (H : Hp) (D : Addr) : Hp := fun b => if b = D then none else H b
theorem er_ne {H : Hp} {D b : Addr} (h : b ≠ D) : er H D b = H b := by unfold er; rw [if_neg h]
theorem er_same {H : Hp} {D : Addr} : er H D D = none := by unfold er; rw [if_pos rfl]
theorem er_some {H : Hp} {D b : Addr} {o : HO} (h : er H D b = some o) : b ≠ D ∧ H b = some o := by
  by_cases e : b = D
  · subst e; rw [er_same] at h; cases h
  · rw [er_ne e] at h; exact ⟨e, h⟩
theorem er_upd {H : Hp} {D : Addr} {o : HO} : er (upd H D o) D = er H D := by
  funext b
  by_cases e : b = D
  · subst e; rw [er_same, er_same]
  · rw [er_ne e, er_ne e, upd_ne e]
theorem er_none {H : Hp} {D : Addr} (h : H D = none) : er H D = H := by
  funext b
  by_cases e : b = D
  · subst e; rw [er_same, h]
  · rw [er_ne e]
theorem upd_er {H : Hp} {D : Addr} {o : HO} (h : H D = some o) : upd (er H D) D o = H := by
  funext b
  by_cases e : b = D
  · subst e; rw [upd_same, h]
  · rw [upd_ne e, er_ne e]
section
variable {K : Fg} {F F' : Hp} {ads ads' : List Addr} {H H' : Hp} {S : Sto} {D : Addr}
theorem Ext.er (x : Ext F ads H F' ads' H') : Ext F ads (er H D) F' ads' (er H' D) where
  sub := x.sub
  pre := x.pre
  new := fun a h => (x.new a h).elim .inl fun q => .inr fun o e => q o (er_some e).2
  kep := fun b o h nb t => by
    obtain ⟨e, h⟩ := er_some h
    rw [er_ne e]; exact x.kep b o h nb t
  fno := fun b o h nb t z => x.fno b o (er_some h).2 nb t z
theorem Sim.er (s : Sim K F ads S H) (h1 : D ∉ ads) (h2 : F D = none) (h3 : ∃ vs, H D = some (.lst vs)) : Sim K F ads S (er H D) := by
  obtain ⟨vs, h3⟩ := h3
  refine ⟨s.sub.to (fun b o e _ => er_ne (ne_of_none e h2)) (fun b q t z => ?_), s.tab, s.tb2, s.len, s.nd, fun i a o ha ho => (s.ob i a o ha ho).keep (Same.refl _) (fun _ _ h => h) (er_ne fun e => h1 (e ▸ List.mem_of_getElem? ha)) id⟩
  obtain ⟨ps, k1, k2, k3⟩ := t
  refine ⟨ps, by rw [er_ne (fun e => by subst e; rw [h3] at k1; cases k1)]; exact k1, k2, fun pos cv hcv => ?_⟩
  obtain ⟨c, e1, e2⟩ := k3 pos cv hcv
  exact ⟨c, e1, by rw [er_ne (fun e => by subst e; rw [h3] at e2; cases e2)]; exact e2⟩
theorem Sim.uner (s : Sim K F ads S (DLay.er H D)) : Sim K F ads S H := by
  have na : ∀ a ∈ ads, a ≠ D := fun a ha e => by
    obtain ⟨u, q⟩ := s.there ha
    subst e; rw [er_same] at q; cases q
  refine ⟨s.sub.to (fun b o e _ => ?_) (fun b q t _ => t.ext fun c o e => (er_some e).2), s.tab, s.tb2, s.len, s.nd, fun i a o ha ho => (s.ob i a o ha ho).keep (Same.refl _) (fun _ _ h => h) (er_ne (na a (List.mem_of_getElem? ha))).symm id⟩
  obtain ⟨u, z⟩ := s.sub.there e
  obtain ⟨nb, _⟩ := er_some z
  exact (er_ne nb).symm
end
/-! ### the slots -/
structure EnvR (K : Fg) (F : Hp) (ads : List Addr) (env : Env) (σ : L2.St) : Prop where
  len : env.length = σ.length
  get : ∀ (i : Nat) d, env[i]? = some (some d) → ∃ v, σ[i]? = some (some v) ∧ Rp K F ads d v
section
variable {K : Fg} {F F' : Hp} {ads ads' : List Addr} {H H' : Hp} {env : Env} {σ : L2.St}
theorem EnvR.ext (x : Ext F ads H F' ads' H') (e : EnvR K F ads env σ) : EnvR K F' ads' env σ :=
  ⟨e.len, fun i d h => let ⟨v, a, r⟩ := e.get i d h; ⟨v, a, r.ext x⟩⟩
theorem EnvR.set (e : EnvR K F ads env σ) {i : Nat} {d : D} {v : V} (r : Rp K F ads d v) : EnvR K F ads (env.set i (some d)) (σ.set i (some v)) := by
  refine ⟨by simp [e.len], fun j c h => ?_⟩
  by_cases hj : j = i
  · subst hj
    by_cases hl : j < env.length
    · rw [List.getElem?_set_self hl] at h
      cases h
      exact ⟨v, List.getElem?_set_self (by rw [← e.len]; exact hl), r⟩
    · rw [List.getElem?_eq_none (by simpa using hl)] at h; cases h
  · rw [List.getElem?_set_ne (fun q => hj q.symm)] at h
    obtain ⟨u, a, q⟩ := e.get j c h
    exact ⟨u, by rw [List.getElem?_set_ne (fun q => hj q.symm)]; exact a, q⟩
def wipeD (env : Env) : List Nat → Env
  | [] => env
  | v :: vs => (wipeD env vs).set v none
theorem EnvR.setN (e : EnvR K F ads env σ) {i : Nat} : EnvR K F ads (env.set i none) (σ.set i none) := by
  refine ⟨by simp [e.len], fun j c h => ?_⟩
  by_cases hj : j = i
  · subst hj
    by_cases hl : j < env.length
    · rw [List.getElem?_set_self hl] at h; cases h
    · rw [List.getElem?_eq_none (by simpa using hl)] at h; cases h
  · rw [List.getElem?_set_ne (fun q => hj q.symm)] at h
    obtain ⟨u, a, q⟩ := e.get j c h
    exact ⟨u, by rw [List.getElem?_set_ne (fun q => hj q.symm)]; exact a, q⟩
theorem EnvR.wipe (e : EnvR K F ads env σ) : ∀ vs : List Nat, EnvR K F ads (wipeD env vs) (L2.wipe σ vs)
  | [] => e
  | v :: vs => (EnvR.wipe e vs).setN
end
/-! #### DL2 -/
/-! The D layer, part 2: readings, expressions. -/
abbrev QD := D → Sto → Prop
abbrev QL := List D → Sto → Prop
abbrev QB := Bool → Sto → Prop
abbrev XD := Str → Sto → Prop
abbrev WE := Env → Sto → QD → XD → Prop
abbrev WT := Env → Sto → QB → XD → Prop
abbrev WL := Env → Sto → QL → XD → Prop
/-- the syntax' surroundings -/
structure Sc where
  N : List Str
  sc : Scope
  fn : Str → Bool
abbrev scOf (X : Cx) : Sc := ⟨X.N, X.env.scope, X.fn⟩
/-- what does not change within a def -/
abbrev kt (X : Cx) (T : List (Addr × Str)) : Fg := ⟨X.K, T⟩
structure Cy where
  prog : Program
  w : World
  K : PySem.W.Frag
  mg : Str → Option Value
  base : Heap
  A : Around
  code : Value
  qual : Str
  T : List (Addr × Str)
abbrev cyOf (X : Cx) (T : List (Addr × Str)) : Cy := ⟨X.prog, X.w, X.K, X.mg, X.base, X.A, X.env.code, X.env.qual, T⟩
structure Good (X : Cx) (W : WX) : Prop where
  calm : X.calm = true
  nd : X.N.Nodup
  tk : Takes X W
  own : PassesOwn (model X.prog X.w) X.A X.env X.xe
  un : X.A.units + 200 < cLine
  dp : X.A.depth + 5 < recursionLimit
/-! ### readings -/
section
variable (K : Fg) (mg : Str → Option Value) (W : WX)
def KX (F : Hp) (ads : List Addr) (H : Hp) (σ : L2.St) (Xd : XD) : Prop := ∀ F' ads' S' H' x, Ext F ads H F' ads' H' → Sim K F' ads' S' H' → Xd x S' → W ((mg x).getD .none) none σ H'
def KV (F : Hp) (ads : List Addr) (H : Hp) (Qd : QD) (Q : VK) : Prop := ∀ F' ads' S' H' d v, Ext F ads H F' ads' H' → Sim K F' ads' S' H' → Rp K F' ads' d v → Qd d S' → Q v H'
def KB (F : Hp) (ads : List Addr) (H : Hp) (Qd : QB) (Q : Bool → Hp → Prop) : Prop := ∀ F' ads' S' H' b, Ext F ads H F' ads' H' → Sim K F' ads' S' H' → Qd b S' → Q b H'
def KA (n : Nat) (F : Hp) (ads : List Addr) (H : Hp) (Qd : QL) (Q : List V → Hp → Prop) : Prop := ∀ F' ads' S' H' ds vs, Ext F ads H F' ads' H' → Sim K F' ads' S' H' → Rps K F' ads' ds vs → ds.length = n → Qd ds S' → Q vs H'
def KL (F : Hp) (ads : List Addr) (H : Hp) (Qd : QL) (Q : VK) : Prop := ∀ F' ads' S' H' ds vs p, Ext F ads H F' ads' H' → Sim K F' ads' S' H' → Rps K F' ads' ds vs → H' p = none → Qd ds S' → Q (.ref p) (upd H' p (.lst vs))
def tE (w : WE) : TE := fun σ H Q => ∃ env S F ads Qd Xd, EnvR K F ads env σ ∧ Sim K F ads S H ∧ w env S Qd Xd ∧ KV K F ads H Qd Q ∧ KX K mg W F ads H σ Xd
def tT (w : WT) : TT := fun σ H Q => ∃ env S F ads Qd Xd, EnvR K F ads env σ ∧ Sim K F ads S H ∧ w env S Qd Xd ∧ KB K F ads H Qd Q ∧ KX K mg W F ads H σ Xd
def tA (n : Nat) (w : WL) : TA := fun σ H Q => ∃ env S F ads Qd Xd, EnvR K F ads env σ ∧ Sim K F ads S H ∧ w env S Qd Xd ∧ KA K n F ads H Qd Q ∧ KX K mg W F ads H σ Xd
def tL (w : WL) : TE := fun σ H Q => ∃ env S F ads Qd Xd, EnvR K F ads env σ ∧ Sim K F ads S H ∧ w env S Qd Xd ∧ KL K F ads H Qd Q ∧ KX K mg W F ads H σ Xd
end
section
variable {K : Fg} {mg : Str → Option Value} {W : WX} {F F' : Hp} {ads ads' : List Addr} {H H' : Hp} {σ : L2.St}
theorem KX.ext {Xd : XD} (k : KX K mg W F ads H σ Xd) (x : Ext F ads H F' ads' H') : KX K mg W F' ads' H' σ Xd := fun _ _ _ _ _ y s h => k _ _ _ _ _ (x.trans y) s h
theorem KV.ext {Qd : QD} {Q : VK} (k : KV K F ads H Qd Q) (x : Ext F ads H F' ads' H') : KV K F' ads' H' Qd Q := fun _ _ _ _ _ _ y s r h => k _ _ _ _ _ _ (x.trans y) s r h
theorem KB.ext {Qd : QB} {Q : Bool → Hp → Prop} (k : KB K F ads H Qd Q) (x : Ext F ads H F' ads' H') : KB K F' ads' H' Qd Q := fun _ _ _ _ _ y s h => k _ _ _ _ _ (x.trans y) s h
theorem KA.ext {n : Nat} {Qd : QL} {Q : List V → Hp → Prop} (k : KA K n F ads H Qd Q) (x : Ext F ads H F' ads' H') : KA K n F' ads' H' Qd Q := fun _ _ _ _ _ _ y s r e h => k _ _ _ _ _ _ (x.trans y) s r e h
theorem KL.ext {Qd : QL} {Q : VK} (k : KL K F ads H Qd Q) (x : Ext F ads H F' ads' H') : KL K F' ads' H' Qd Q := fun _ _ _ _ _ _ _ y s r p h => k _ _ _ _ _ _ _ (x.trans y) s r p h
end
theorem PE.imp {X : Cx} {e : Expr} {t t' : TE} (h : PE X e t) (q : ∀ σ H Q, t' σ H Q → t σ H Q) : PE X e t' := ⟨fun pins s σ H Q I z => h.run pins s σ H Q I (q _ _ _ z)⟩
theorem PT.imp {X : Cx} {e : Expr} {t t' : TT} (h : PT X e t) (q : ∀ σ H Q, t' σ H Q → t σ H Q) : PT X e t' := ⟨fun pins s σ H Q I z => h.run pins s σ H Q I (q _ _ _ z)⟩
theorem PA.imp {X : Cx} {e : List Expr} {t t' : TA} (h : PA X e t) (q : ∀ σ H Q, t' σ H Q → t σ H Q) : PA X e t' := ⟨fun pos pins s σ H Q I z => h.run pos pins s σ H Q I (q _ _ _ z)⟩
/-! ### the words: what is matched, what is meant, that it is right -/
structure DE where
  mt : Sc → Expr → Bool
  wp : WE
  rq : Cy → Prop
  ok : ∀ (X : Cx) (W : WX) (T : List (Addr × Str)) (e : Expr), mt (scOf X) e = true → Good X W → rq (cyOf X T) → PE X e (tE (kt X T) X.mg W wp)
structure DT where
  mt : Sc → Expr → Bool
  wp : WT
  rq : Cy → Prop
  ok : ∀ (X : Cx) (W : WX) (T : List (Addr × Str)) (e : Expr), mt (scOf X) e = true → Good X W → rq (cyOf X T) → PT X e (tT (kt X T) X.mg W wp)
/-- a new list -/
structure DL where
  mt : Sc → Expr → Bool
  wp : WL
  rq : Cy → Prop
  ok : ∀ (X : Cx) (W : WX) (T : List (Addr × Str)) (e : Expr), mt (scOf X) e = true → Good X W → rq (cyOf X T) → PE X e (tL (kt X T) X.mg W wp)
def noStar : Expr → Bool
  | .Starred _ _ => false
  | _ => true
theorem starEach_cons {e : Expr} {es : List Expr} {env : PySem.Env} (h : noStar e = true) : starEach (e :: es) env = (false, eval e env) :: starEach es env := by
  cases e <;> first | rfl | (simp [noStar] at h)
theorem starEach_all : ∀ {es : List Expr} {env : PySem.Env} (h : es.all noStar = true), starEach es env = es.map fun e => (false, eval e env)
  | [], _, _ => rfl
  | e :: es, env, h => by
    simp only [List.all_cons, Bool.and_eq_true] at h
    rw [starEach_cons h.1, starEach_all h.2]
    rfl
theorem backTo_any (pos : Pos) : ∀ l : List (Bool × Sem Value), (backTo pos l).any (·.1) = l.any (·.1) := fun l => by
  unfold backTo
  simp [List.any_map, Function.comp_def]
theorem star_any {es : List Expr} {env : PySem.Env} {pos : Pos} (h : es.all noStar = true) : (backTo pos (starEach es env)).any (·.1) = false := by
  rw [backTo_any, starEach_all h]
  simp [List.any_map, Function.comp_def]
structure DA where
  n : Nat
  mt : Sc → List Expr → Bool
  wp : WL
  rq : Cy → Prop
  ok : ∀ (X : Cx) (W : WX) (T : List (Addr × Str)) (e : List Expr), mt (scOf X) e = true → Good X W → rq (cyOf X T) → PA X e (tA (kt X T) X.mg W n wp) ∧ e.all noStar = true
/-! ### names, constants -/
def visB (c : Sc) (x : Str) : Bool := c.sc.names.lookup x == some .local || c.sc.names.lookup x == some .cell || c.sc.names.lookup x == some .free
theorem vis_of {X : Cx} {x : Str} (h : visB (scOf X) x = true) : Vis X.env.scope x := by
  simp only [visB, Bool.or_eq_true, beq_iff_eq] at h
  rcases h with (h | h) | h
  · exact .inl h
  · exact .inr (.inl h)
  · exact .inr (.inr h)
def nameB (c : Sc) (i : Nat) : Expr → Bool
  | .Name x _ => c.N[i]? == some x && visB c x && !(x == ("__debug__" : Str)) && !(x == ("__classdict__" : Str))
  | _ => false
theorem pe_slot {X : Cx} {i : Nat} {e : Expr} (h : nameB (scOf X) i e = true) : PE X e (tVar i) := by
  unfold nameB at h
  split at h
  · simp only [Bool.and_eq_true, beq_iff_eq, Bool.not_eq_true'] at h
    obtain ⟨⟨⟨h1, h2⟩, h3⟩, h4⟩ := h
    exact pe_var h1 (vis_of h2) h3 h4
  · cases h
def wVar (i : Nat) : WE := fun env S Q _ => ∃ d, env[i]? = some (some d) ∧ Q d S
def DE.var (i : Nat) : DE where
  mt c e := nameB c i e
  wp := wVar i
  rq _ := True
  ok X W T e h g _ := PE.imp (pe_slot h) fun σ H Q ⟨env, S, F, ads, Qd, Xd, er, sm, hw, kv, kx⟩ => by
    obtain ⟨d, hd, hq⟩ := hw
    obtain ⟨v, hv, r⟩ := er.get i d hd
    exact ⟨v, hv, kv _ _ _ _ _ _ Ext.refl sm r hq⟩
/-- a list of the store, frozen as it is read -/
def wFrz (i : Nat) : WE := fun env S Q _ => ∃ j ds, env[i]? = some (some (.han j)) ∧ S[j]? = some (.lst ds) ∧ Q (.lst ds) (S.set j .gone)
def DE.frz (i : Nat) : DE where
  mt c e := nameB c i e
  wp := wFrz i
  rq _ := True
  ok X W T e h g _ := PE.imp (pe_slot h) fun σ H Q ⟨env, S, F, ads, Qd, Xd, er, sm, hw, kv, kx⟩ => by
    obtain ⟨j, ds, hd, hS, hq⟩ := hw
    obtain ⟨v, hv, r⟩ := er.get i _ hd
    cases r with
    | han ha =>
      rename_i a
      obtain ⟨a', ha', nF, vs, hH, rs⟩ := sm.at hS
      rw [ha] at ha'; cases ha'
      obtain ⟨s2, x2⟩ := sm.freeze (ds := ds) ha hH nF
      exact ⟨_, hv, kv _ _ _ _ _ _ x2 s2 (.lst upd_same (rs.ext x2)) hq⟩
def wC (d : D) : WE := fun _ S Q _ => Q d S
def constB : D → Expr → Bool
  | .non, .Constant .none _ _ => true
  | .bl b, .Constant (.bool c) _ _ => b == c
  | .int i, .Constant (.int j) _ _ => i == j
  | .str x, .Constant (.str y) _ _ => x == y
  | _, _ => false
theorem pe_const {X : Cx} {d : D} {e : Expr} (h : constB d e = true) : ∃ v, PE X e (tC v) ∧ ∀ K F ads, Rp K F ads d v := by
  unfold constB at h
  split at h
  · exact ⟨.non, pe_non, fun _ _ _ => .non⟩
  · simp only [beq_iff_eq] at h; subst h; exact ⟨.bl _, pe_bl, fun _ _ _ => .bl _⟩
  · simp only [beq_iff_eq] at h; subst h; exact ⟨.int _, pe_int, fun _ _ _ => .int _⟩
  · simp only [beq_iff_eq] at h; subst h; exact ⟨.str _, pe_str, fun _ _ _ => .str _⟩
  · cases h
def DE.con (d : D) : DE where
  mt _ e := constB d e
  wp := wC d
  rq _ := True
  ok X W T e h g _ := by
    obtain ⟨v, p, r⟩ := pe_const (X := X) h
    exact PE.imp p fun σ H Q ⟨env, S, F, ads, Qd, Xd, er, sm, hw, kv, kx⟩ => kv _ _ _ _ _ _ Ext.refl sm (r _ _ _) hw
def glB (c : Sc) (x : Str) : Bool := c.sc.names.lookup x == some .globalImplicit
theorem gl_of {X : Cx} {x : Str} (h : glB (scOf X) x = true) : Gl X x := by
  simp only [glB, beq_iff_eq] at h; exact h
/-- a module's constant: an int -/
def DE.glo (x : Str) (i : Int) : DE where
  mt c e := match e with
    | .Name y _ => y == x && glB c x && !(x == ("__debug__" : Str))
    | _ => false
  wp := wC (.int i)
  rq Z := ∃ t, Z.mg x = some (.int i t)
  ok X W T e h g q := by
    split at h
    · simp only [Bool.and_eq_true, beq_iff_eq, Bool.not_eq_true'] at h
      obtain ⟨⟨h1, h2⟩, h3⟩ := h
      subst h1
      obtain ⟨t, ht⟩ := q
      exact PE.imp (pe_glob (v := .int i) (gl_of h2) ht ⟨t, rfl⟩ h3) fun σ H Q ⟨env, S, F, ads, Qd, Xd, er, sm, hw, kv, kx⟩ => kv _ _ _ _ _ _ Ext.refl sm (.int _) hw
    · cases h
/-! ### argument lists -/
def wNil : WL := fun _ S Q _ => Q [] S
def wCons (a : WE) (r : WL) : WL := fun env S Q X => a env S (fun d S1 => r env S1 (fun ds S2 => Q (d :: ds) S2) X) X
def DA.nil : DA where
  n := 0
  mt _ e := e.isEmpty
  wp := wNil
  rq _ := True
  ok X W T e h g _ := by
    have e0 : e = [] := by simpa using h
    subst e0
    exact ⟨PA.imp pa_nil fun σ H Q ⟨env, S, F, ads, Qd, Xd, er, sm, hw, kv, kx⟩ => kv _ _ _ _ _ _ Ext.refl sm .nil rfl hw, rfl⟩
def DA.cons (a : DE) (r : DA) : DA where
  n := r.n + 1
  mt c e := match e with
    | x :: xs => noStar x && a.mt c x && r.mt c xs
    | [] => false
  wp := wCons a.wp r.wp
  rq Z := a.rq Z ∧ r.rq Z
  ok X W T e h g q := by
    split at h
    · rename_i x xs
      simp only [Bool.and_eq_true] at h
      obtain ⟨⟨h1, h2⟩, h3⟩ := h
      obtain ⟨pr, ps⟩ := r.ok X W T xs h3 g q.2
      refine ⟨PA.imp (pa_cons (a.ok X W T x h2 g q.1) pr (starEach_cons h1)) fun σ H Q ⟨env, S, F, ads, Qd, Xd, er, sm, hw, kv, kx⟩ => ?_, by rw [List.all_cons, h1, ps]; rfl⟩
      refine ⟨env, S, F, ads, _, Xd, er, sm, hw, fun F1 ads1 S1 H1 d v x1 s1 r1 h1 => ?_, kx⟩
      exact ⟨env, S1, F1, ads1, _, Xd, er.ext x1, s1, h1, fun F2 ads2 S2 H2 ds vs x2 s2 r2 l2 h2 => kv _ _ _ _ _ _ (x1.trans x2) s2 (.cons (r1.ext x2) r2) (by rw [List.length_cons, l2]) h2, kx.ext x1⟩
    · cases h
/-! ### from values to data -/
/-- an operation of two values -/
def Ok2 (K : Fg) (op : D → D → Sto → QD → Prop) (r : R2) : Prop := ∀ {F ads S H x y v u Qd Q}, Sim K F ads S H → Rp K F ads x v → Rp K F ads y u → op x y S Qd → KV K F ads H Qd Q → r v u H Q
def w2 (op : D → D → Sto → QD → Prop) (a b : WE) : WE := fun env S Q X => a env S (fun x S1 => b env S1 (fun y S2 => op x y S2 Q) X) X
theorem seq2 {K : Fg} {mg : Str → Option Value} {W : WX} {op : D → D → Sto → QD → Prop} {r : R2} {a b : WE} (o : Ok2 K op r) {σ : L2.St} {H : Hp} {Q : VK} (h : tE K mg W (w2 op a b) σ H Q) : tOp r (tE K mg W a) (tE K mg W b) σ H Q := by
  obtain ⟨env, S, F, ads, Qd, Xd, er, sm, hw, kv, kx⟩ := h
  refine ⟨env, S, F, ads, _, Xd, er, sm, hw, fun F1 ads1 S1 H1 d v x1 s1 r1 h1 => ?_, kx⟩
  refine ⟨env, S1, F1, ads1, _, Xd, er.ext x1, s1, h1, fun F2 ads2 S2 H2 d2 v2 x2 s2 r2 h2 => ?_, kx.ext x1⟩
  exact o s2 (r1.ext x2) r2 h2 (kv.ext (x1.trans x2))
def Ok1 (K : Fg) (op : D → Sto → QD → Prop) (r : V → Hp → VK → Prop) : Prop := ∀ {F ads S H x v Qd Q}, Sim K F ads S H → Rp K F ads x v → op x S Qd → KV K F ads H Qd Q → r v H Q
def w1 (op : D → Sto → QD → Prop) (a : WE) : WE := fun env S Q X => a env S (fun x S1 => op x S1 Q) X
theorem seq1 {K : Fg} {mg : Str → Option Value} {W : WX} {op : D → Sto → QD → Prop} {r : V → Hp → VK → Prop} {a : WE} (o : Ok1 K op r) {σ : L2.St} {H : Hp} {Q : VK} (h : tE K mg W (w1 op a) σ H Q) : tUn r (tE K mg W a) σ H Q := by
  obtain ⟨env, S, F, ads, Qd, Xd, er, sm, hw, kv, kx⟩ := h
  exact ⟨env, S, F, ads, _, Xd, er, sm, hw, fun F1 ads1 S1 H1 d v x1 s1 r1 h1 => o s1 r1 h1 (kv.ext x1), kx⟩
def OkA (K : Fg) (op : List D → Sto → QD → Prop) (r : List V → Hp → VK → Prop) : Prop := ∀ {F ads S H xs vs Qd Q}, Sim K F ads S H → Rps K F ads xs vs → op xs S Qd → KV K F ads H Qd Q → r vs H Q
def wAp (op : List D → Sto → QD → Prop) (a : WL) : WE := fun env S Q X => a env S (fun x S1 => op x S1 Q) X
theorem seqA {K : Fg} {mg : Str → Option Value} {W : WX} {op : List D → Sto → QD → Prop} {r : List V → Hp → VK → Prop} {a : WL} {n : Nat} (o : OkA K op r) {σ : L2.St} {H : Hp} {Q : VK} (h : tE K mg W (wAp op a) σ H Q) : tCB r (tA K mg W n a) σ H Q := by
  obtain ⟨env, S, F, ads, Qd, Xd, er, sm, hw, kv, kx⟩ := h
  exact ⟨env, S, F, ads, _, Xd, er, sm, hw, fun F1 ads1 S1 H1 d v x1 s1 r1 _ h1 => o s1 r1 h1 (kv.ext x1), kx⟩
/-! ### sequences as data -/
/-- the items of a list -/
def lstOf (S : Sto) : D → Option (List D)
  | .lst ds => some ds
  | .scr ds => some ds
  | .han i => match S[i]? with
    | some (.lst ds) => some ds
    | _ => none
  | _ => none
theorem lst_sq {K : Fg} {F : Hp} {ads : List Addr} {S : Sto} {H : Hp} {d : D} {v : V} {ds : List D} (sm : Sim K F ads S H) (r : Rp K F ads d v) (h : lstOf S d = some ds) : ∃ a vs, v = .ref a ∧ SqL K.K H a vs ∧ Rps K F ads ds vs := by
  unfold lstOf at h
  split at h
  · cases h
    cases r with
    | lst hF rs => exact ⟨_, _, rfl, SqL.of (sm.sub _ _ hF), rs⟩
  · cases h
    cases r with
    | scr hF rs => exact ⟨_, _, rfl, sm.sub.seq hF, rs⟩
  · split at h
    · rename_i hS
      cases h
      cases r with
      | han ha =>
        obtain ⟨a', ha', nF, vs, hH, rs⟩ := sm.at hS
        rw [ha] at ha'; cases ha'
        exact ⟨_, _, rfl, SqL.of hH, rs⟩
    · cases h
  · cases h
def tupOf : D → Option (List D)
  | .tup ds => some ds
  | _ => none
theorem tup_sq {K : Fg} {F : Hp} {ads : List Addr} {S : Sto} {H : Hp} {d : D} {v : V} {ds : List D} (sm : Sim K F ads S H) (r : Rp K F ads d v) (h : tupOf d = some ds) : ∃ a vs, v = .ref a ∧ SqT K.K H a vs ∧ Rps K F ads ds vs := by
  unfold tupOf at h
  split at h
  · cases h
    cases r with
    | tup hF rs => exact ⟨_, _, rfl, Sub.tup sm.sub hF, rs⟩
  · cases h
/-- the items of a list or tuple -/
def seqOf (S : Sto) (d : D) : Option (List D) := match tupOf d with
  | some ds => some ds
  | none => lstOf S d
theorem seq_sq {K : Fg} {F : Hp} {ads : List Addr} {S : Sto} {H : Hp} {d : D} {v : V} {ds : List D} (sm : Sim K F ads S H) (r : Rp K F ads d v) (h : seqOf S d = some ds) : ∃ a vs, v = .ref a ∧ (SqL K.K H a vs ∨ SqT K.K H a vs) ∧ Rps K F ads ds vs := by
  unfold seqOf at h
  split at h
  · rename_i q
    cases h
    obtain ⟨a, vs, e, hs, rs⟩ := tup_sq sm r q
    exact ⟨a, vs, e, .inr hs, rs⟩
  · obtain ⟨a, vs, e, hs, rs⟩ := lst_sq sm r h
    exact ⟨a, vs, e, .inl hs, rs⟩
/-- a list that may be changed or joined (not the script) -/
def lstX (S : Sto) : D → Option (List D)
  | .lst ds => some ds
  | .han i => match S[i]? with
    | some (.lst ds) => some ds
    | _ => none
  | _ => none
theorem lstX_at {K : Fg} {F : Hp} {ads : List Addr} {S : Sto} {H : Hp} {d : D} {v : V} {ds : List D} (sm : Sim K F ads S H) (r : Rp K F ads d v) (h : lstX S d = some ds) : ∃ a vs, v = .ref a ∧ H a = some (.lst vs) ∧ Rps K F ads ds vs := by
  unfold lstX at h
  split at h
  · cases h
    cases r with
    | lst hF rs => exact ⟨_, _, rfl, sm.sub _ _ hF, rs⟩
  · split at h
    · rename_i hS
      cases h
      cases r with
      | han ha =>
        obtain ⟨a', ha', nF, vs, hH, rs⟩ := sm.at hS
        rw [ha] at ha'; cases ha'
        exact ⟨_, _, rfl, hH, rs⟩
    · cases h
  · cases h
/-! ### operators -/
def IntDivOk (j : Int) : Prop := j ≠ 0 ∧ j.natAbs.log2 < 9000
def oAdd : D → D → Sto → QD → Prop
  | .int i, .int j, S, Q => Q (.int (i + j)) S
  | .str a, .str b, S, Q => a.length + b.length ≤ sizeLine ∧ Q (.str (a ++ b)) S
  | .tup a, .tup b, S, Q => a.length + b.length ≤ sizeLine ∧ Q (.tup (a ++ b)) S
  | x, y, S, Q => ∃ a b, lstX S x = some a ∧ lstX S y = some b ∧ a.length + b.length ≤ sizeLine ∧ Q (.lst (a ++ b)) S
def oSub : D → D → Sto → QD → Prop
  | .int i, .int j, S, Q => Q (.int (i - j)) S
  | _, _, _, _ => False
def repS (z : Str) (k : Int) : Str := if k < 1 then Str.empty else if (k == 1 || z.length == 0) = true then z else ⟨(List.replicate k.toNat z.cps).foldl (· ++ ·) #[]⟩
def oMul : D → D → Sto → QD → Prop
  | .int i, .int j, S, Q => IntMulOk i j ∧ Q (.int (i * j)) S
  | .tup a, .int k, S, Q => a ≠ [] ∧ -1000 ≤ k ∧ k ≤ 1000 ∧ a.length ≤ 1000 ∧ Q (.tup (List.replicate k.toNat a).flatten) S
  | .str z, .int k, S, Q => (-1000 ≤ k ∧ k ≤ 1000 ∧ z.length ≤ 1000) ∧ Q (.str (repS z k)) S
  | _, _, _, _ => False
def oDiv : D → D → Sto → QD → Prop
  | .int i, .int j, S, Q => IntDivOk j ∧ Q (.int (i.fdiv j)) S
  | _, _, _, _ => False
def oMod : D → D → Sto → QD → Prop
  | .int i, .int j, S, Q => j ≠ 0 ∧ Q (.int (i.fmod j)) S
  | _, _, _, _ => False
def oPow : D → D → Sto → QD → Prop
  | .int i, .int j, S, Q => (0 ≤ j ∧ j ≤ 1000000 ∧ i.natAbs < 2 ^ 64) ∧ Q (.int (i ^ j.toNat)) S
  | _, _, _, _ => False
def opD : Operator → D → D → Sto → QD → Prop
  | .Add => oAdd
  | .Sub => oSub
  | .Mult => oMul
  | .FloorDiv => oDiv
  | .Mod => oMod
  | .Pow => oPow
  | _ => fun _ _ _ _ => False
theorem op_mulA {X : Cx} : OpR X (binaryOp .Mult) (rI IntMulOk fun i j => .int (i * j)) := opI fun _ _ _ _ _ _ _ hc q => mul_int q hc
theorem op_divA {X : Cx} : OpR X (binaryOp .FloorDiv) (rI (fun _ j => IntDivOk j) fun i j => .int (i.fdiv j)) := opI fun _ _ _ _ _ _ _ hc q => floordiv_int hc.1 q (.inl (PyProof.noPylong_of_log2 hc.2))
theorem ok_add {K : Fg} : Ok2 K oAdd (fun x y H Q => (rI0 fun i j => .int (i + j)) x y H Q ∨ ((fun x y H Q => ∃ i j, x = .str i ∧ y = .str j ∧ i.length + j.length ≤ sizeLine ∧ Q (.str (i ++ j)) H : R2) x y H Q ∨ (rCatA K.K x y H Q ∨ rCat x y H Q))) := by
  intro F ads S H x y v u Qd Q sm rx ry h kv
  unfold oAdd at h
  split at h
  · cases rx; cases ry
    exact .inl ⟨_, _, rfl, rfl, kv _ _ _ _ _ _ Ext.refl sm (.int _) h⟩
  · cases rx; cases ry
    exact .inr (.inl ⟨_, _, rfl, rfl, h.1, kv _ _ _ _ _ _ Ext.refl sm (.str _) h.2⟩)
  · rename_i da db
    have rx0 := rx; have ry0 := ry
    cases rx with
    | tup ha ra =>
      cases ry with
      | tup hb rb =>
        rename_i a xs b ys
        obtain ⟨hz, hq⟩ := h
        refine .inr (.inr (.inl ⟨a, b, xs, ys, rfl, rfl, Sub.tup sm.sub ha, Sub.tup sm.sub hb, by rw [← ra.length, ← rb.length]; exact hz, fun e => ?_, fun _ e => ?_, fun _ _ p hp => ?_⟩))
        · subst e
          cases ra
          exact kv _ _ _ _ _ _ Ext.refl sm ry0 hq
        · subst e
          cases rb
          rw [List.append_nil] at hq
          exact kv _ _ _ _ _ _ Ext.refl sm rx0 hq
        · obtain ⟨s2, x2⟩ := sm.frz hp (.tup (xs ++ ys))
          exact kv _ _ _ _ _ _ x2 s2 (.tup (SqT.of upd_same) ((ra.append rb).ext x2)) hq
  · obtain ⟨da, db, ha, hb, hz, hq⟩ := h
    obtain ⟨a, xs, rfl, ea, ra⟩ := lstX_at sm rx ha
    obtain ⟨b, ys, rfl, eb, rb⟩ := lstX_at sm ry hb
    refine .inr (.inr (.inr ⟨a, b, xs, ys, rfl, rfl, ea, eb, by rw [← ra.length, ← rb.length]; exact hz, fun p hp => ?_⟩))
    obtain ⟨s2, x2⟩ := sm.frz hp (.lst (xs ++ ys))
    exact kv _ _ _ _ _ _ x2 s2 (.lst upd_same ((ra.append rb).ext x2)) hq
theorem ok_sub {K : Fg} : Ok2 K oSub (rI0 fun i j => .int (i - j)) := by
  intro F ads S H x y v u Qd Q sm rx ry h kv
  unfold oSub at h
  split at h
  · cases rx; cases ry
    exact ⟨_, _, rfl, rfl, kv _ _ _ _ _ _ Ext.refl sm (.int _) h⟩
  · exact h.elim
theorem rep_size (a : Array Nat) : ∀ (m : Nat) (b : Array Nat), (List.foldl (fun x1 x2 => x1 ++ x2) b (List.replicate m a)).size = b.size + m * a.size
  | 0, b => by simp
  | m + 1, b => by
    rw [List.replicate_succ, List.foldl_cons, rep_size a m, Array.size_append, Nat.succ_mul]
    omega
def rRepS : R2 := fun x y H Q => ∃ z k, x = .str z ∧ y = .int k ∧ (-1000 ≤ k ∧ k ≤ 1000 ∧ z.length ≤ 1000) ∧ Q (.str (repS z k)) H
theorem op_repS {X : Cx} : OpR X (binaryOp .Mult) rRepS := by
  intro pins s σ H x y v u Q I rx ry h
  obtain ⟨z, k, rfl, rfl, ⟨h0, h1, hz⟩, q⟩ := h
  obtain ⟨t, rfl⟩ := rx
  obtain ⟨t2, rfl⟩ := ry
  have c0 : (decide (k < -(2 ^ 63 : Int)) || decide (k ≥ 2 ^ 63)) = false := by
    rw [decide_eq_false (by omega), decide_eq_false (by omega)] <;> rfl
  refine P.mul_str c0 (fun hk _ => ?_) (fun hk _ => ?_) ?_
  · have : (1000 : Int) ≤ (2 ^ 63 - 1) / k := by
      rw [Int.le_ediv_iff_mul_le (by omega)]
      omega
    omega
  · have : z.length * k.toNat ≤ 1000 * 1000 := Nat.mul_le_mul hz (by omega)
    exact decide_eq_false (by rw [sizeLine_eq]; omega)
  · have q' : Q (.str (repS z k)) H := q
    unfold repS at q'
    split
    · rename_i e
      rw [if_pos e] at q'
      exact ⟨by decide, .str _, H, I.tok _, ⟨_, rfl⟩, q'⟩
    · rename_i e
      rw [if_neg e] at q'
      split
      · rename_i e2
        rw [if_pos e2] at q'
        exact ⟨.str _, H, I, ⟨_, rfl⟩, q'⟩
      · rename_i e2
        rw [if_neg e2] at q'
        refine ⟨?_, .str _, H, I.tok _, ⟨_, rfl⟩, q'⟩
        have : z.length * k.toNat ≤ 1000 * 1000 := Nat.mul_le_mul hz (by omega)
        show (List.foldl (fun x1 x2 => x1 ++ x2) #[] (List.replicate k.toNat z.cps)).size ≤ sizeLine
        rw [rep_size, sizeLine_eq]
        rw [Nat.mul_comm] at this
        have e3 : z.cps.size = z.length := rfl
        rw [e3]; simp; omega
theorem ok_mul {K : Fg} : Ok2 K oMul (fun x y H Q => (rI IntMulOk fun i j => .int (i * j)) x y H Q ∨ (rRepA K.K x y H Q ∨ rRepS x y H Q)) := by
  intro F ads S H x y v u Qd Q sm rx ry h kv
  unfold oMul at h
  split at h
  · cases rx; cases ry
    exact .inl ⟨_, _, rfl, rfl, h.1, kv _ _ _ _ _ _ Ext.refl sm (.int _) h.2⟩
  · obtain ⟨hne, h0, h1, hl, hq⟩ := h
    rename_i da k
    have rx0 := rx
    cases ry
    cases rx with
    | tup ha ra =>
      rename_i a xs
      refine .inr <| .inl ⟨a, k, xs, rfl, rfl, Sub.tup sm.sub ha, fun e => ?_, h0, h1, by rw [← ra.length]; exact hl, fun e => ?_, fun _ p hp => ?_⟩
      · subst e; cases ra; exact hne rfl
      · subst e
        have : (List.replicate (1 : Int).toNat da).flatten = da := by simp [List.replicate]
        rw [this] at hq
        exact kv _ _ _ _ _ _ Ext.refl sm rx0 hq
      · obtain ⟨s2, x2⟩ := sm.frz hp (.tup (List.replicate k.toNat xs).flatten)
        exact kv _ _ _ _ _ _ x2 s2 (.tup (SqT.of upd_same) ((ra.rep _).ext x2)) hq
  · cases rx; cases ry
    exact .inr <| .inr ⟨_, _, rfl, rfl, h.1, kv _ _ _ _ _ _ Ext.refl sm (.str _) h.2⟩
  · exact h.elim
theorem ok_div {K : Fg} : Ok2 K oDiv (rI (fun _ j => IntDivOk j) fun i j => .int (i.fdiv j)) := by
  intro F ads S H x y v u Qd Q sm rx ry h kv
  unfold oDiv at h
  split at h
  · cases rx; cases ry
    exact ⟨_, _, rfl, rfl, h.1, kv _ _ _ _ _ _ Ext.refl sm (.int _) h.2⟩
  · exact h.elim
theorem ok_mod {K : Fg} : Ok2 K oMod (rI (fun _ j => j ≠ 0) fun i j => .int (i.fmod j)) := by
  intro F ads S H x y v u Qd Q sm rx ry h kv
  unfold oMod at h
  split at h
  · cases rx; cases ry
    exact ⟨_, _, rfl, rfl, h.1, kv _ _ _ _ _ _ Ext.refl sm (.int _) h.2⟩
  · exact h.elim
theorem ok_pow {K : Fg} : Ok2 K oPow (rI CPow fun i j => .int (i ^ j.toNat)) := by
  intro F ads S H x y v u Qd Q sm rx ry h kv
  unfold oPow at h
  split at h
  · cases rx; cases ry
    exact ⟨_, _, rfl, rfl, h.1, kv _ _ _ _ _ _ Ext.refl sm (.int _) h.2⟩
  · exact h.elim
theorem op_ok {X : Cx} (T : List (Addr × Str)) (o : Operator) : ∃ r, OpR X (binaryOp o) r ∧ Ok2 (kt X T) (opD o) r := by
  have no : ∀ o, ∃ r, OpR X (binaryOp o) r ∧ Ok2 (kt X T) (fun _ _ _ _ => False) r := fun o => ⟨fun _ _ _ _ => False, fun _ _ _ _ _ _ _ _ _ _ _ _ h => h.elim, fun _ _ _ h _ => h.elim⟩
  cases o with
  | Add => exact ⟨_, op_add.or (op_add_str.or (op_catA.or op_cat)), ok_add⟩
  | Sub => exact ⟨_, op_sub, ok_sub⟩
  | Mult => exact ⟨_, op_mulA.or (op_repA.or op_repS), ok_mul⟩
  | FloorDiv => exact ⟨_, op_divA, ok_div⟩
  | Mod => exact ⟨_, op_modN, ok_mod⟩
  | Pow => exact ⟨_, op_pow, ok_pow⟩
  | _ => exact no _
def DE.op (o : Operator) (a b : DE) : DE where
  mt c e := match e with
    | .BinOp x o' y _ => o' == o && a.mt c x && b.mt c y
    | _ => false
  wp := w2 (opD o) a.wp b.wp
  rq Z := a.rq Z ∧ b.rq Z
  ok X W T e h g q := by
    split at h
    · simp only [Bool.and_eq_true, beq_iff_eq] at h
      obtain ⟨⟨rfl, h1⟩, h2⟩ := h
      rename_i o' _ _
      obtain ⟨r, ho, hk⟩ := op_ok (X := X) T o'
      exact PE.imp (pe_op ho (a.ok X W T _ h1 g q.1) (b.ok X W T _ h2 g q.2)) fun σ H Q z => seq2 hk z
    · cases h
def oNeg : D → Sto → QD → Prop
  | .int i, S, Q => Q (.int (-i)) S
  | _, _, _ => False
theorem ok_neg {K : Fg} : Ok1 K oNeg (rU fun i => .int (-i)) := by
  intro F ads S H x v Qd Q sm rx h kv
  unfold oNeg at h
  split at h
  · cases rx
    exact ⟨_, rfl, kv _ _ _ _ _ _ Ext.refl sm (.int _) h⟩
  · exact h.elim
def DE.neg (a : DE) : DE where
  mt c e := match e with
    | .UnaryOp .USub x _ => a.mt c x
    | _ => false
  wp := w1 oNeg a.wp
  rq Z := a.rq Z
  ok X W T e h g q := by
    split at h
    · exact PE.imp (pe_un un_neg (a.ok X W T _ h g q)) fun σ H Q z => seq1 ok_neg z
    · cases h
/-! #### DL3 -/
/-! The D layer, part 3: comparisons, tests, subscripts, displays, built-ins. -/
/-! ### data as the library's own -/
mutual
def pyD : D → Option PyData
  | .non => some .none
  | .bl b => some (.bool b)
  | .int i => some (.int i)
  | .str x => some (.str x)
  | .tup ds => (pyDs ds).map .tuple
  | .lst ds => (pyDs ds).map .list
  | .scr ds => (pyDs ds).map .list
  | _ => none
def pyDs : List D → Option (List PyData)
  | [] => some []
  | d :: ds => match pyD d, pyDs ds with
    | some p, some ps => some (p :: ps)
    | _, _ => none
end
section
variable {K : Fg} {F : Hp} {ads : List Addr} {S : Sto} {H : Hp}
mutual
theorem dp_of (sm : Sim K F ads S H) : ∀ {d : D} {v : V} {p : PyData}, Rp K F ads d v → pyD d = some p → Dp K.K H v p
  | _, _, _, .non, e => by cases e; exact .non
  | _, _, _, .bl b, e => by cases e; exact .bl b
  | _, _, _, .int i, e => by cases e; exact .int i
  | _, _, _, .str x, e => by cases e; exact .str x
  | _, _, _, .flt b, e => by cases e
  | _, _, _, .tup (ds := ds) h r, e => by
    unfold pyD at e
    cases q : pyDs ds with
    | none => rw [q] at e; cases e
    | some ps => rw [q] at e; cases e; exact .tup (Sub.tup sm.sub h) (dps_of sm r q)
  | _, _, _, .lst (ds := ds) h r, e => by
    unfold pyD at e
    cases q : pyDs ds with
    | none => rw [q] at e; cases e
    | some ps => rw [q] at e; cases e; exact .lst (SqL.of (sm.sub _ _ h)) (dps_of sm r q)
  | _, _, _, .scr (ds := ds) h r, e => by
    unfold pyD at e
    cases q : pyDs ds with
    | none => rw [q] at e; cases e
    | some ps => rw [q] at e; cases e; exact .lst (sm.sub.seq h) (dps_of sm r q)
  | _, _, _, .han h, e => by cases e
  | _, _, _, .cst v, e => by cases e
theorem dps_of (sm : Sim K F ads S H) : ∀ {ds : List D} {vs : List V} {ps : List PyData}, Rps K F ads ds vs → pyDs ds = some ps → DpAll K.K H vs ps
  | _, _, _, .nil, e => by cases e; exact .nil
  | _, _, _, .cons (d := d) (ds := ds) r t, e => by
    unfold pyDs at e
    cases q : pyD d with
    | none => rw [q] at e; cases e
    | some p =>
      cases q2 : pyDs ds with
      | none => rw [q, q2] at e; cases e
      | some ps => rw [q, q2] at e; cases e; exact .cons (dp_of sm r q) (dps_of sm t q2)
end
/-- .. a handle's list too -/
def pyOf (S : Sto) : D → Option PyData
  | .han i => match S[i]? with
    | some (.lst ds) => (pyDs ds).map .list
    | _ => none
  | d => pyD d
theorem dpo_of (sm : Sim K F ads S H) {d : D} {v : V} {p : PyData} (r : Rp K F ads d v) (e : pyOf S d = some p) : Dp K.K H v p := by
  unfold pyOf at e
  split at e
  · split at e
    · rename_i ds hS
      cases r with
      | han ha =>
        obtain ⟨a', ha', nF, vs, hH, rs⟩ := sm.at hS
        rw [ha] at ha'; cases ha'
        cases q : pyDs ds with
        | none => rw [q] at e; cases e
        | some ps => rw [q] at e; cases e; exact .lst (SqL.of hH) (dps_of sm rs q)
    · cases e
  · exact dp_of sm r e
end
/-! ### comparisons -/
def oEq : D → D → Sto → QD → Prop
  | .int i, .int j, S, Q => Q (.bl (decide (i = j))) S
  | .str i, .str j, S, Q => Q (.bl (decide (i = j))) S
  | x, y, S, Q => ∃ p q, pyOf S x = some p ∧ pyOf S y = some q ∧ SeqAt.shaped p = true ∧ SeqAt.shaped q = true ∧ Q (.bl (PyData.eqv p q)) S
def oNe : D → D → Sto → QD → Prop
  | .int i, .int j, S, Q => Q (.bl (!decide (i = j))) S
  | .str i, .str j, S, Q => Q (.bl (!decide (i = j))) S
  | x, y, S, Q => ∃ p q, pyOf S x = some p ∧ pyOf S y = some q ∧ SeqAt.shaped p = true ∧ SeqAt.shaped q = true ∧ Q (.bl (!PyData.eqv p q)) S
def oI (f : Int → Int → Bool) : D → D → Sto → QD → Prop
  | .int i, .int j, S, Q => Q (.bl (f i j)) S
  | _, _, _, _ => False
def isNon : D → Option Bool
  | .non => some true
  | .cst _ => none
  | _ => some false
def oIs : D → D → Sto → QD → Prop
  | x, .non, S, Q => ∃ b, isNon x = some b ∧ Q (.bl b) S
  | .bl a, .bl b, S, Q => Q (.bl (decide (a = b))) S
  | _, _, _, _ => False
def oIsNot : D → D → Sto → QD → Prop
  | x, .non, S, Q => ∃ b, isNon x = some b ∧ Q (.bl (!b)) S
  | .bl a, .bl b, S, Q => Q (.bl (!decide (a = b))) S
  | _, _, _, _ => False
def oIn : D → D → Sto → QD → Prop
  | .str x, .str z, S, Q => ∃ c, x = ⟨#[c]⟩ ∧ Q (.bl (decide (c ∈ z.cps.toList))) S
  | .int i, y, S, Q => ∃ ns : List Int, seqOf S y = some (ns.map .int) ∧ Q (.bl (decide (i ∈ ns))) S
  | _, _, _, _ => False
def oNotIn : D → D → Sto → QD → Prop
  | .str x, .str z, S, Q => ∃ c, x = ⟨#[c]⟩ ∧ Q (.bl (!decide (c ∈ z.cps.toList))) S
  | .int i, y, S, Q => ∃ ns : List Int, seqOf S y = some (ns.map .int) ∧ Q (.bl (!decide (i ∈ ns))) S
  | _, _, _, _ => False
def cmD : CmpOp → D → D → Sto → QD → Prop
  | .Eq => oEq
  | .NotEq => oNe
  | .Lt => oI fun i j => decide (i < j)
  | .LtE => oI fun i j => decide (i ≤ j)
  | .Gt => oI fun i j => decide (j < i)
  | .GtE => oI fun i j => decide (j ≤ i)
  | .Is => oIs
  | .IsNot => oIsNot
  | .In => oIn
  | .NotIn => oNotIn
section
variable {K : Fg}
theorem ok_eq : Ok2 K oEq (fun x y H Q => rEq x y H Q ∨ rEqD K.K x y H Q) := by
  intro F ads S H x y v u Qd Q sm rx ry h kv
  unfold oEq at h
  split at h
  · cases rx; cases ry
    refine .inl ⟨rfl, kv _ _ _ _ _ _ Ext.refl sm (.bl _) ?_⟩
    simpa using h
  · cases rx; cases ry
    refine .inl ⟨rfl, kv _ _ _ _ _ _ Ext.refl sm (.bl _) ?_⟩
    simpa using h
  · obtain ⟨p, q, e1, e2, s1, s2, h⟩ := h
    exact .inr ⟨p, q, dpo_of sm rx e1, dpo_of sm ry e2, s1, s2, kv _ _ _ _ _ _ Ext.refl sm (.bl _) h⟩
theorem ok_ne : Ok2 K oNe (fun x y H Q => rNe x y H Q ∨ rNeD K.K x y H Q) := by
  intro F ads S H x y v u Qd Q sm rx ry h kv
  unfold oNe at h
  split at h
  · cases rx; cases ry
    refine .inl ⟨rfl, kv _ _ _ _ _ _ Ext.refl sm (.bl _) ?_⟩
    simpa using h
  · cases rx; cases ry
    refine .inl ⟨rfl, kv _ _ _ _ _ _ Ext.refl sm (.bl _) ?_⟩
    simpa using h
  · obtain ⟨p, q, e1, e2, s1, s2, h⟩ := h
    exact .inr ⟨p, q, dpo_of sm rx e1, dpo_of sm ry e2, s1, s2, kv _ _ _ _ _ _ Ext.refl sm (.bl _) h⟩
theorem ok_I {f : Int → Int → Bool} : Ok2 K (oI f) (rI0 fun i j => .bl (f i j)) := by
  intro F ads S H x y v u Qd Q sm rx ry h kv
  unfold oI at h
  split at h
  · cases rx; cases ry
    exact ⟨_, _, rfl, rfl, kv _ _ _ _ _ _ Ext.refl sm (.bl _) h⟩
  · exact h.elim
theorem isNon_of {F : Hp} {ads : List Addr} {x : D} {v : V} {b : Bool} (r : Rp K F ads x v) (h : isNon x = some b) : decide (v = .non) = b := by
  cases r <;> first | (cases h; rfl) | cases h
theorem ok_is : Ok2 K oIs (fun x y H Q => (y = .non ∧ Q (.bl (decide (x = .non))) H) ∨ ∃ a b, x = .bl a ∧ y = .bl b ∧ Q (.bl (decide (a = b))) H) := by
  intro F ads S H x y v u Qd Q sm rx ry h kv
  unfold oIs at h
  split at h
  · obtain ⟨b, hb, h⟩ := h
    cases ry
    refine .inl ⟨rfl, kv _ _ _ _ _ _ Ext.refl sm (.bl _) ?_⟩
    rw [isNon_of rx hb]; exact h
  · cases rx; cases ry
    exact .inr ⟨_, _, rfl, rfl, kv _ _ _ _ _ _ Ext.refl sm (.bl _) h⟩
  · exact h.elim
theorem ok_isnot : Ok2 K oIsNot (fun x y H Q => (y = .non ∧ Q (.bl (!decide (x = .non))) H) ∨ ∃ a b, x = .bl a ∧ y = .bl b ∧ Q (.bl (!decide (a = b))) H) := by
  intro F ads S H x y v u Qd Q sm rx ry h kv
  unfold oIsNot at h
  split at h
  · obtain ⟨b, hb, h⟩ := h
    cases ry
    refine .inl ⟨rfl, kv _ _ _ _ _ _ Ext.refl sm (.bl _) ?_⟩
    rw [isNon_of rx hb]; exact h
  · cases rx; cases ry
    exact .inr ⟨_, _, rfl, rfl, kv _ _ _ _ _ _ Ext.refl sm (.bl _) h⟩
  · exact h.elim
theorem inV_int (i : Int) : ∀ ns : List Int, inV (.int i) (ns.map V.int) = decide (i ∈ ns)
  | [] => rfl
  | n :: ns => by
    have ih := inV_int i ns
    unfold inV at ih ⊢
    rw [List.map_cons, List.any_cons, ih]
    by_cases e : n = i
    · subst e; simp [eqV]
    · have e' : ¬ i = n := fun q => e q.symm
      simp [eqV, e, e']
theorem flat_ints (ns : List Int) : (ns.map V.int).all flatV = true := by
  rw [List.all_map]
  simp [Function.comp_def, flatV]
theorem ok_in : Ok2 K oIn (fun x y H Q => (∃ (c : Nat) (z : Str), x = .str ⟨#[c]⟩ ∧ y = .str z ∧ Q (.bl (decide (c ∈ z.cps.toList))) H) ∨ rIn K.K false x y H Q) := by
  intro F ads S H x y v u Qd Q sm rx ry h kv
  unfold oIn at h
  split at h
  · obtain ⟨c, rfl, h⟩ := h
    cases rx; cases ry
    exact .inl ⟨_, _, rfl, rfl, kv _ _ _ _ _ _ Ext.refl sm (.bl _) h⟩
  · obtain ⟨ns, hs, h⟩ := h
    cases rx
    obtain ⟨a, vs, e, hq, rs⟩ := seq_sq sm ry hs
    have e2 := rs.ints
    subst e2
    refine .inr ⟨a, _, e, hq, rfl, flat_ints ns, kv _ _ _ _ _ _ Ext.refl sm (.bl _) ?_⟩
    rw [inV_int]; exact h
  · exact h.elim
theorem ok_notin : Ok2 K oNotIn (fun x y H Q => (∃ (c : Nat) (z : Str), x = .str ⟨#[c]⟩ ∧ y = .str z ∧ Q (.bl (!decide (c ∈ z.cps.toList))) H) ∨ rIn K.K true x y H Q) := by
  intro F ads S H x y v u Qd Q sm rx ry h kv
  unfold oNotIn at h
  split at h
  · obtain ⟨c, rfl, h⟩ := h
    cases rx; cases ry
    exact .inl ⟨_, _, rfl, rfl, kv _ _ _ _ _ _ Ext.refl sm (.bl _) h⟩
  · obtain ⟨ns, hs, h⟩ := h
    cases rx
    obtain ⟨a, vs, e, hq, rs⟩ := seq_sq sm ry hs
    have e2 := rs.ints
    subst e2
    refine .inr ⟨a, _, e, hq, rfl, flat_ints ns, kv _ _ _ _ _ _ Ext.refl sm (.bl _) ?_⟩
    rw [inV_int]; exact h
  · exact h.elim
end
theorem cm_ok {X : Cx} {W : WX} (T : List (Addr × Str)) (g : Good X W) (o : CmpOp) : ∃ r, OpR X (compareOp o) r ∧ Ok2 (kt X T) (cmD o) r := by
  have u64 : X.A.units + 64 < cLine := by have := g.un; omega
  cases o with
  | Eq => exact ⟨_, op_eq.or (op_eqD u64), ok_eq⟩
  | NotEq => exact ⟨_, op_ne.or (op_neD u64), ok_ne⟩
  | Lt => exact ⟨_, op_lt, ok_I⟩
  | LtE => exact ⟨_, op_le, ok_I⟩
  | Gt => exact ⟨_, op_gt, ok_I⟩
  | GtE => exact ⟨_, op_ge, ok_I⟩
  | Is => exact ⟨_, op_isN.or op_is_bl, ok_is⟩
  | IsNot => exact ⟨_, op_notN.or op_isnot_bl, ok_isnot⟩
  | In => exact ⟨_, op_in_sign.or op_in_seq, ok_in⟩
  | NotIn => exact ⟨_, op_notIn_sign.or op_notIn_seq, ok_notin⟩
def noSet : Expr → Bool
  | .Set _ _ _ => false
  | _ => true
theorem noSet_marks {o : CmpOp} {e : Expr} (h : noSet e = true) : behindInMarks o e = false := by
  cases e <;> first | rfl | (simp [noSet] at h)
def DE.cmp (o : CmpOp) (a b : DE) : DE where
  mt c e := match e with
    | .Compare x [o'] [y] _ => o' == o && a.mt c x && b.mt c y && noSet y
    | _ => false
  wp := w2 (cmD o) a.wp b.wp
  rq Z := a.rq Z ∧ b.rq Z
  ok X W T e h g q := by
    split at h
    · simp only [Bool.and_eq_true, beq_iff_eq] at h
      obtain ⟨⟨⟨rfl, h1⟩, h2⟩, h3⟩ := h
      rename_i o' _ _
      obtain ⟨r, ho, hk⟩ := cm_ok T g o'
      exact PE.imp (pe_cmpR ho (a.ok X W T _ h1 g q.1) (b.ok X W T _ h2 g q.2) (noSet_marks h3)) fun σ H Q z => seq2 hk z
    · cases h
/-! ### tests -/
/-- a value that is a bool, as a test -/
def wB (a : WE) : WT := fun env S Q X => a env S (fun d S1 => ∃ b, d = .bl b ∧ Q b S1) X
theorem tB_of {K : Fg} {mg : Str → Option Value} {W : WX} {a : WE} {σ : L2.St} {H : Hp} {Q : Bool → Hp → Prop} (h : tT K mg W (wB a) σ H Q) : tE K mg W a σ H fun x H' => ∃ k, x = .bl k ∧ Q k H' := by
  obtain ⟨env, S, F, ads, Qd, Xd, er, sm, hw, kv, kx⟩ := h
  refine ⟨env, S, F, ads, _, Xd, er, sm, hw, fun F1 ads1 S1 H1 d v x1 s1 r1 h1 => ?_, kx⟩
  obtain ⟨b, rfl, hq⟩ := h1
  cases r1
  exact ⟨b, rfl, kv _ _ _ _ _ x1 s1 hq⟩
def DT.cmp (o : CmpOp) (a b : DE) : DT where
  mt c e := match e with
    | .Compare x [o'] [y] _ => o' == o && a.mt c x && b.mt c y && noSet y
    | _ => false
  wp := wB (w2 (cmD o) a.wp b.wp)
  rq Z := a.rq Z ∧ b.rq Z
  ok X W T e h g q := by
    split at h
    · simp only [Bool.and_eq_true, beq_iff_eq] at h
      obtain ⟨⟨⟨rfl, h1⟩, h2⟩, h3⟩ := h
      rename_i o' _ _
      obtain ⟨r, ho, hk⟩ := cm_ok T g o'
      exact PT.imp (pt_cmpR ho (a.ok X W T _ h1 g q.1) (b.ok X W T _ h2 g q.2) (noSet_marks h3)) fun σ H Q z => seq2 hk (tB_of z)
    · cases h
/-- a < b < c -/
def w3 (op op' : D → D → Sto → QD → Prop) (a b c : WE) : WE := fun env S Q X => a env S (fun x S1 => b env S1 (fun y S2 => op x y S2 fun z S3 => ∃ k, z = .bl k ∧ if k = true then c env S3 (fun u S4 => op' y u S4 Q) X else Q (.bl false) S3) X) X
theorem seq3 {K : Fg} {mg : Str → Option Value} {W : WX} {op op' : D → D → Sto → QD → Prop} {r r' : R2} {a b c : WE} (o : Ok2 K op r) (o' : Ok2 K op' r') {σ : L2.St} {H : Hp} {Q : VK} (h : tE K mg W (w3 op op' a b c) σ H Q) :
    tChain r r' (tE K mg W a) (tE K mg W b) (tE K mg W c) σ H Q := by
  obtain ⟨env, S, F, ads, Qd, Xd, er, sm, hw, kv, kx⟩ := h
  refine ⟨env, S, F, ads, _, Xd, er, sm, hw, fun F1 ads1 S1 H1 d v x1 s1 r1 h1 => ?_, kx⟩
  refine ⟨env, S1, F1, ads1, _, Xd, er.ext x1, s1, h1, fun F2 ads2 S2 H2 d2 v2 x2 s2 r2 h2 => ?_, kx.ext x1⟩
  refine o s2 (r1.ext x2) r2 h2 fun F3 ads3 S3 H3 d3 v3 x3 s3 r3 h3 => ?_
  obtain ⟨k, rfl, h3⟩ := h3
  cases r3
  refine ⟨k, rfl, ?_⟩
  have x13 := (x1.trans x2).trans x3
  cases k with
  | false => exact kv _ _ _ _ _ _ x13 s3 (.bl _) h3
  | true => exact ⟨env, S3, F3, ads3, _, Xd, er.ext x13, s3, h3, fun F4 ads4 S4 H4 d4 v4 x4 s4 r4 h4 => o' s4 (r2.ext (x3.trans x4)) r4 h4 (kv.ext (x13.trans x4)), kx.ext x13⟩
def DE.chn (o o' : CmpOp) (a b c : DE) : DE where
  mt k e := match e with
    | .Compare x [p, p'] [y, z] _ => p == o && p' == o' && a.mt k x && b.mt k y && c.mt k z && noSet y && noSet z
    | _ => false
  wp := w3 (cmD o) (cmD o') a.wp b.wp c.wp
  rq Z := a.rq Z ∧ b.rq Z ∧ c.rq Z
  ok X W T e h g q := by
    split at h
    · simp only [Bool.and_eq_true, beq_iff_eq] at h
      obtain ⟨⟨⟨⟨⟨⟨rfl, rfl⟩, h1⟩, h2⟩, h3⟩, h4⟩, h5⟩ := h
      rename_i p p' _ _ _
      obtain ⟨r, ho, hk⟩ := cm_ok T g p
      obtain ⟨r', ho', hk'⟩ := cm_ok T g p'
      exact PE.imp (pe_chain ho ho' (a.ok X W T _ h1 g q.1) (b.ok X W T _ h2 g q.2.1) (c.ok X W T _ h3 g q.2.2) (noSet_marks h5)) fun σ H Q z => seq3 hk hk' z
    · cases h
def DT.chn (o o' : CmpOp) (a b c : DE) : DT where
  mt k e := match e with
    | .Compare x [p, p'] [y, z] _ => p == o && p' == o' && a.mt k x && b.mt k y && c.mt k z && noSet y && noSet z
    | _ => false
  wp := wB (w3 (cmD o) (cmD o') a.wp b.wp c.wp)
  rq Z := a.rq Z ∧ b.rq Z ∧ c.rq Z
  ok X W T e h g q := by
    split at h
    · simp only [Bool.and_eq_true, beq_iff_eq] at h
      obtain ⟨⟨⟨⟨⟨⟨rfl, rfl⟩, h1⟩, h2⟩, h3⟩, h4⟩, h5⟩ := h
      rename_i p p' _ _ _
      obtain ⟨r, ho, hk⟩ := cm_ok T g p
      obtain ⟨r', ho', hk'⟩ := cm_ok T g p'
      exact PT.imp (pt_chain ho ho' (a.ok X W T _ h1 g q.1) (b.ok X W T _ h2 g q.2.1) (c.ok X W T _ h3 g q.2.2) (noSet_marks h5)) fun σ H Q z => seq3 hk hk' (tB_of z)
    · cases h
def plainT : Expr → Bool
  | .UnaryOp .Not _ _ => false
  | .BoolOp _ _ _ => false
  | .IfExp _ _ _ _ => false
  | .Compare _ _ _ _ => false
  | _ => true
theorem plainT_of {e : Expr} {env : PySem.Env} (h : plainT e = true) (whole : Sem Value) : isTrue e env whole = (do let v ← whole; standAt e.pos; holding [v] (truthy v)) := by
  cases e with
  | UnaryOp o x p => cases o <;> first | rfl | (exact absurd h (by simp [plainT]))
  | _ => first | rfl | (exact absurd h (by simp [plainT]))
/-- an expression that gives a bool -/
def DT.val (a : DE) : DT where
  mt c e := plainT e && a.mt c e
  wp := wB a.wp
  rq Z := a.rq Z
  ok X W T e h g q := by
    simp only [Bool.and_eq_true] at h
    exact PT.imp (pt_val (a.ok X W T _ h.2 g q) (plainT_of h.1)) fun σ H Q z => tB_of z
def wNotT (a : WT) : WT := fun env S Q X => a env S (fun b S1 => Q (!b) S1) X
def DT.not (a : DT) : DT where
  mt c e := match e with
    | .UnaryOp .Not x _ => a.mt c x
    | _ => false
  wp := wNotT a.wp
  rq Z := a.rq Z
  ok X W T e h g q := by
    split at h
    · exact PT.imp (pt_not (a.ok X W T _ h g q)) fun σ H Q ⟨env, S, F, ads, Qd, Xd, er, sm, hw, kv, kx⟩ => ⟨env, S, F, ads, _, Xd, er, sm, hw, fun F1 ads1 S1 H1 b x1 s1 h1 => kv _ _ _ _ _ x1 s1 h1, kx⟩
    · cases h
/-- the parts of an «and», an «or» -/
structure DW where
  op : BoolOp
  mt : Sc → List Expr → Bool
  wp : WT
  rq : Cy → Prop
  ok : ∀ (X : Cx) (W : WX) (T : List (Addr × Str)) (e : List Expr) (pos : Pos), mt (scOf X) e = true → Good X W → rq (cyOf X T) → PW X (.BoolOp op e pos) (tT (kt X T) X.mg W wp) ∧ e ≠ []
theorem PW.imp {X : Cx} {e : Expr} {t t' : TT} (h : PW X e t) (q : ∀ σ H Q, t' σ H Q → t σ H Q) : PW X e t' := ⟨fun wh pins s σ H Q I z => h.run wh pins s σ H Q I (q _ _ _ z)⟩
def DW.one (o : BoolOp) (a : DT) : DW where
  op := o
  mt c e := match e with
    | [x] => a.mt c x
    | _ => false
  wp := a.wp
  rq := a.rq
  ok X W T e pos h g q := by
    split at h
    · cases o with
      | And => exact ⟨pw_and1 (a.ok X W T _ h g q), by simp⟩
      | Or => exact ⟨pw_or1 (a.ok X W T _ h g q), by simp⟩
    · cases h
def wAndT (a b : WT) : WT := fun env S Q X => a env S (fun k S1 => if k = true then b env S1 Q X else Q false S1) X
def wOrT (a b : WT) : WT := fun env S Q X => a env S (fun k S1 => if k = true then Q true S1 else b env S1 Q X) X
theorem seqAnd {K : Fg} {mg : Str → Option Value} {W : WX} {a b : WT} {σ : L2.St} {H : Hp} {Q : Bool → Hp → Prop} (h : tT K mg W (wAndT a b) σ H Q) : tAnd (tT K mg W a) (tT K mg W b) σ H Q := by
  obtain ⟨env, S, F, ads, Qd, Xd, er, sm, hw, kv, kx⟩ := h
  refine ⟨env, S, F, ads, _, Xd, er, sm, hw, fun F1 ads1 S1 H1 k x1 s1 h1 => ?_, kx⟩
  cases k with
  | true => exact ⟨env, S1, F1, ads1, _, Xd, er.ext x1, s1, h1, kv.ext x1, kx.ext x1⟩
  | false => exact kv _ _ _ _ _ x1 s1 h1
theorem seqOr {K : Fg} {mg : Str → Option Value} {W : WX} {a b : WT} {σ : L2.St} {H : Hp} {Q : Bool → Hp → Prop} (h : tT K mg W (wOrT a b) σ H Q) : tOr (tT K mg W a) (tT K mg W b) σ H Q := by
  obtain ⟨env, S, F, ads, Qd, Xd, er, sm, hw, kv, kx⟩ := h
  refine ⟨env, S, F, ads, _, Xd, er, sm, hw, fun F1 ads1 S1 H1 k x1 s1 h1 => ?_, kx⟩
  cases k with
  | false => exact ⟨env, S1, F1, ads1, _, Xd, er.ext x1, s1, h1, kv.ext x1, kx.ext x1⟩
  | true => exact kv _ _ _ _ _ x1 s1 h1
def boolW : BoolOp → WT → WT → WT
  | .And => wAndT
  | .Or => wOrT
def DW.cons (a : DT) (r : DW) : DW where
  op := r.op
  mt c e := match e with
    | x :: xs => a.mt c x && r.mt c xs
    | _ => false
  wp := boolW r.op a.wp r.wp
  rq Z := a.rq Z ∧ r.rq Z
  ok X W T e pos h g q := by
    split at h
    · simp only [Bool.and_eq_true] at h
      rename_i x xs
      obtain ⟨hr, hne⟩ := r.ok X W T xs pos h.2 g q.2
      have ha := a.ok X W T x h.1 g q.1
      refine ⟨?_, by simp⟩
      cases xs with
      | nil => exact absurd rfl hne
      | cons y ys =>
        cases hop : r.op with
        | And => rw [hop] at hr; exact PW.imp (pw_and ha hr) fun σ H Q z => seqAnd z
        | Or => rw [hop] at hr; exact PW.imp (pw_or ha hr) fun σ H Q z => seqOr z
    · cases h
def DT.bool (r : DW) : DT where
  mt c e := match e with
    | .BoolOp o es _ => o == r.op && r.mt c es
    | _ => false
  wp := r.wp
  rq := r.rq
  ok X W T e h g q := by
    split at h
    · simp only [Bool.and_eq_true, beq_iff_eq] at h
      obtain ⟨rfl, h2⟩ := h
      exact (r.ok X W T _ _ h2 g q).1.pt
    · cases h
/-! ### and, or, not, if as values -/
def wNotV (a : WE) : WE := fun env S Q X => a env S (fun d S1 => ∃ b, d = .bl b ∧ Q (.bl (!b)) S1) X
def DE.not (a : DE) : DE where
  mt c e := match e with
    | .UnaryOp .Not x _ => a.mt c x
    | _ => false
  wp := wNotV a.wp
  rq Z := a.rq Z
  ok X W T e h g q := by
    split at h
    · exact PE.imp (pe_not (a.ok X W T _ h g q)) fun σ H Q ⟨env, S, F, ads, Qd, Xd, er, sm, hw, kv, kx⟩ => ⟨env, S, F, ads, _, Xd, er, sm, hw, fun F1 ads1 S1 H1 d v x1 s1 r1 h1 => by
        obtain ⟨b, rfl, hq⟩ := h1
        cases r1
        exact ⟨b, rfl, kv _ _ _ _ _ _ x1 s1 (.bl _) hq⟩, kx⟩
    · cases h
structure DV where
  op : BoolOp
  mt : Sc → List Expr → Bool
  wp : WE
  rq : Cy → Prop
  ok : ∀ (X : Cx) (W : WX) (T : List (Addr × Str)) (e : List Expr) (pos : Pos), mt (scOf X) e = true → Good X W → rq (cyOf X T) → PE X (.BoolOp op e pos) (tE (kt X T) X.mg W wp) ∧ e ≠ []
def DV.one (o : BoolOp) (a : DE) : DV where
  op := o
  mt c e := match e with
    | [x] => a.mt c x
    | _ => false
  wp := a.wp
  rq := a.rq
  ok X W T e pos h g q := by
    split at h
    · exact ⟨pe_one (a.ok X W T _ h g q), by simp⟩
    · cases h
def wAndV (a b : WE) : WE := fun env S Q X => a env S (fun d S1 => ∃ k, d = .bl k ∧ if k = true then b env S1 Q X else Q (.bl false) S1) X
def wOrV (a b : WE) : WE := fun env S Q X => a env S (fun d S1 => ∃ k, d = .bl k ∧ if k = true then Q (.bl true) S1 else b env S1 Q X) X
theorem seqAndV {K : Fg} {mg : Str → Option Value} {W : WX} {a b : WE} {σ : L2.St} {H : Hp} {Q : VK} (h : tE K mg W (wAndV a b) σ H Q) : tAndV (tE K mg W a) (tE K mg W b) σ H Q := by
  obtain ⟨env, S, F, ads, Qd, Xd, er, sm, hw, kv, kx⟩ := h
  refine ⟨env, S, F, ads, _, Xd, er, sm, hw, fun F1 ads1 S1 H1 d v x1 s1 r1 h1 => ?_, kx⟩
  obtain ⟨k, rfl, h1⟩ := h1
  cases r1
  refine ⟨k, rfl, ?_⟩
  cases k with
  | true => exact ⟨env, S1, F1, ads1, _, Xd, er.ext x1, s1, h1, kv.ext x1, kx.ext x1⟩
  | false => exact kv _ _ _ _ _ _ x1 s1 (.bl _) h1
theorem seqOrV {K : Fg} {mg : Str → Option Value} {W : WX} {a b : WE} {σ : L2.St} {H : Hp} {Q : VK} (h : tE K mg W (wOrV a b) σ H Q) : tOrV (tE K mg W a) (tE K mg W b) σ H Q := by
  obtain ⟨env, S, F, ads, Qd, Xd, er, sm, hw, kv, kx⟩ := h
  refine ⟨env, S, F, ads, _, Xd, er, sm, hw, fun F1 ads1 S1 H1 d v x1 s1 r1 h1 => ?_, kx⟩
  obtain ⟨k, rfl, h1⟩ := h1
  cases r1
  refine ⟨k, rfl, ?_⟩
  cases k with
  | false => exact ⟨env, S1, F1, ads1, _, Xd, er.ext x1, s1, h1, kv.ext x1, kx.ext x1⟩
  | true => exact kv _ _ _ _ _ _ x1 s1 (.bl _) h1
def boolV : BoolOp → WE → WE → WE
  | .And => wAndV
  | .Or => wOrV
def DV.cons (a : DE) (r : DV) : DV where
  op := r.op
  mt c e := match e with
    | x :: xs => a.mt c x && r.mt c xs
    | _ => false
  wp := boolV r.op a.wp r.wp
  rq Z := a.rq Z ∧ r.rq Z
  ok X W T e pos h g q := by
    split at h
    · simp only [Bool.and_eq_true] at h
      rename_i x xs
      obtain ⟨hr, hne⟩ := r.ok X W T xs pos h.2 g q.2
      have ha := a.ok X W T x h.1 g q.1
      refine ⟨?_, by simp⟩
      cases xs with
      | nil => exact absurd rfl hne
      | cons y ys =>
        cases hop : r.op with
        | And => rw [hop] at hr; exact PE.imp (pe_and ha hr) fun σ H Q z => seqAndV z
        | Or => rw [hop] at hr; exact PE.imp (pe_or ha hr) fun σ H Q z => seqOrV z
    · cases h
def DE.bool (r : DV) : DE where
  mt c e := match e with
    | .BoolOp o es _ => o == r.op && r.mt c es
    | _ => false
  wp := r.wp
  rq := r.rq
  ok X W T e h g q := by
    split at h
    · simp only [Bool.and_eq_true, beq_iff_eq] at h
      obtain ⟨rfl, h2⟩ := h
      exact (r.ok X W T _ _ h2 g q).1
    · cases h
def wIte (t : WT) (a b : WE) : WE := fun env S Q X => t env S (fun k S1 => if k = true then a env S1 Q X else b env S1 Q X) X
def DE.ite (t : DT) (a b : DE) : DE where
  mt c e := match e with
    | .IfExp x y z _ => t.mt c x && a.mt c y && b.mt c z
    | _ => false
  wp := wIte t.wp a.wp b.wp
  rq Z := t.rq Z ∧ a.rq Z ∧ b.rq Z
  ok X W T e h g q := by
    split at h
    · simp only [Bool.and_eq_true] at h
      refine PE.imp (pe_ifExp (t.ok X W T _ h.1.1 g q.1) (a.ok X W T _ h.1.2 g q.2.1) (b.ok X W T _ h.2 g q.2.2)) fun σ H Q ⟨env, S, F, ads, Qd, Xd, er, sm, hw, kv, kx⟩ => ?_
      refine ⟨env, S, F, ads, _, Xd, er, sm, hw, fun F1 ads1 S1 H1 k x1 s1 h1 => ?_, kx⟩
      cases k with
      | true => exact ⟨env, S1, F1, ads1, _, Xd, er.ext x1, s1, h1, kv.ext x1, kx.ext x1⟩
      | false => exact ⟨env, S1, F1, ads1, _, Xd, er.ext x1, s1, h1, kv.ext x1, kx.ext x1⟩
    · cases h
/-! ### subscripts -/
def oIx : D → D → Sto → QD → Prop
  | x, .int i, S, Q => ∃ ds d, seqOf S x = some ds ∧ atI ds i = some d ∧ Q d S
  | _, _, _, _ => False
theorem atI_rp {K : Fg} {F : Hp} {ads : List Addr} {ds : List D} {vs : List V} {i : Int} {d : D} (r : Rps K F ads ds vs) (h : atI ds i = some d) : ∃ v, atI vs i = some v ∧ Rp K F ads d v := by
  unfold atI at h ⊢
  rw [← r.length]
  cases e : ixN ds.length i with
  | none => rw [e] at h; cases h
  | some j =>
    rw [e] at h
    obtain ⟨v, hv, rv⟩ := r.get (show ds[j]? = some d from h)
    exact ⟨v, hv, rv⟩
theorem ok_ix {K : Fg} : Ok2 K oIx (rIx K.K) := by
  intro F ads S H x y v u Qd Q sm rx ry h kv
  unfold oIx at h
  split at h
  · obtain ⟨ds, d, hs, hi, hq⟩ := h
    cases ry
    obtain ⟨a, vs, e, hq2, rs⟩ := seq_sq sm rx hs
    obtain ⟨z, hz, rz⟩ := atI_rp rs hi
    rcases hq2 with hq2 | hq2
    · exact .inl ⟨a, vs, _, z, e, rfl, hq2, hz, kv _ _ _ _ _ _ Ext.refl sm rz hq⟩
    · exact .inr (.inl ⟨a, vs, _, z, e, rfl, hq2, hz, kv _ _ _ _ _ _ Ext.refl sm rz hq⟩)
  · exact h.elim
def plainIx : Expr → Bool
  | .Slice _ _ _ _ => false
  | _ => true
theorem plainIx_of {e : Expr} (h : plainIx e = true) : PlainIx e := fun o i => by
  cases e <;> first | rfl | (simp [plainIx] at h)
def DE.ix (a b : DE) : DE where
  mt c e := match e with
    | .Subscript x y _ => a.mt c x && b.mt c y && plainIx y
    | _ => false
  wp := w2 oIx a.wp b.wp
  rq Z := a.rq Z ∧ b.rq Z
  ok X W T e h g q := by
    split at h
    · simp only [Bool.and_eq_true] at h
      exact PE.imp (pe_ix ix_seq (a.ok X W T _ h.1.1 g q.1) (b.ok X W T _ h.1.2 g q.2) (plainIx_of h.2)) fun σ H Q z => seq2 ok_ix z
    · cases h
/-! slices -/
abbrev WO := Env → Sto → (Option Int → Sto → Prop) → XD → Prop
def tO (K : Fg) (mg : Str → Option Value) (W : WX) (w : WO) : TO := fun σ H Q => ∃ env S F ads Qd Xd, EnvR K F ads env σ ∧ Sim K F ads S H ∧ w env S Qd Xd ∧ (∀ F' ads' S' H' o, Ext F ads H F' ads' H' → Sim K F' ads' S' H' → Qd o S' → Q o H') ∧ KX K mg W F ads H σ Xd
structure DO where
  mt : Sc → Option Expr → Bool
  wp : WO
  rq : Cy → Prop
  ok : ∀ (X : Cx) (W : WX) (T : List (Addr × Str)) (e : Option Expr), mt (scOf X) e = true → Good X W → rq (cyOf X T) → PO X e (tO (kt X T) X.mg W wp)
theorem PO.imp {X : Cx} {e : Option Expr} {t t' : TO} (h : PO X e t) (q : ∀ σ H Q, t' σ H Q → t σ H Q) : PO X e t' := ⟨fun pins s σ H Q I z => h.run pins s σ H Q I (q _ _ _ z)⟩
def wNo : WO := fun _ S Q _ => Q none S
def wSo (a : WE) : WO := fun env S Q X => a env S (fun d S1 => ∃ i, d = .int i ∧ Q (some i) S1) X
def DO.no : DO where
  mt _ e := e.isNone
  wp := wNo
  rq _ := True
  ok X W T e h g _ := by
    cases e with
    | none => exact PO.imp po_none fun σ H Q ⟨env, S, F, ads, Qd, Xd, er, sm, hw, kv, kx⟩ => kv _ _ _ _ _ Ext.refl sm hw
    | some x => cases h
def DO.so (a : DE) : DO where
  mt c e := match e with
    | some x => a.mt c x
    | none => false
  wp := wSo a.wp
  rq := a.rq
  ok X W T e h g q := by
    split at h
    · exact PO.imp (po_some (a.ok X W T _ h g q)) fun σ H Q ⟨env, S, F, ads, Qd, Xd, er, sm, hw, kv, kx⟩ => ⟨env, S, F, ads, _, Xd, er, sm, hw, fun F1 ads1 S1 H1 d v x1 s1 r1 h1 => by
        obtain ⟨i, rfl, hq⟩ := h1
        cases r1
        exact ⟨i, rfl, kv _ _ _ _ _ x1 s1 hq⟩, kx⟩
    · cases h
def cutD (xs : List D) (lo hi : Option Int) : List D := (xs.drop (HT.sIx xs.length 0 lo)).take (HT.sIx xs.length xs.length hi - HT.sIx xs.length 0 lo)
theorem cut_rp {K : Fg} {F : Hp} {ads : List Addr} {ds : List D} {vs : List V} (r : Rps K F ads ds vs) (lo hi : Option Int) : Rps K F ads (cutD ds lo hi) (cutV vs lo hi) := by
  unfold cutD cutV
  rw [r.length]
  exact (r.drop _).take _
def oSl (lo hi : Option Int) : D → Sto → QD → Prop
  | .tup ds, S, Q => Q (.tup (cutD ds lo hi)) S
  | .str z, S, Q => z.length ≤ sizeLine ∧ Q (.str (cutS z lo hi)) S
  | x, S, Q => ∃ ds, lstOf S x = some ds ∧ Q (.lst (cutD ds lo hi)) S
theorem cut_all {n : Nat} {ds : List D} {lo hi : Option Int} (h : HT.sIx ds.length 0 lo = 0 ∧ HT.sIx ds.length ds.length hi = ds.length) : cutD ds lo hi = ds := by
  unfold cutD
  rw [h.1, h.2]
  simp
theorem ok_sl {K : Fg} {lo hi : Option Int} : Ok1 K (oSl lo hi) (fun x H Q => rSlA K.K x lo hi H Q ∨ (rSlL K.K x lo hi H Q ∨ rSlS x lo hi H Q)) := by
  intro F ads S H x v Qd Q sm rx h kv
  unfold oSl at h
  split at h
  · have rx0 := rx
    cases rx with
    | tup ha ra =>
      rename_i ds a vs
      refine .inl ⟨a, vs, rfl, Sub.tup sm.sub ha, fun e => ?_, fun _ p hp => ?_⟩
      · rw [← ra.length] at e
        rw [cut_all (n := 0) e] at h
        exact kv _ _ _ _ _ _ Ext.refl sm rx0 h
      · obtain ⟨s2, x2⟩ := sm.frz hp (.tup (cutV vs lo hi))
        exact kv _ _ _ _ _ _ x2 s2 (.tup (SqT.of upd_same) ((cut_rp ra lo hi).ext x2)) h
  · cases rx
    exact .inr (.inr ⟨_, rfl, h.1, kv _ _ _ _ _ _ Ext.refl sm (.str _) h.2⟩)
  · obtain ⟨ds, hs, h⟩ := h
    obtain ⟨a, vs, e, hq, rs⟩ := lst_sq sm rx hs
    refine .inr (.inl ⟨a, vs, e, hq, fun p hp => ?_⟩)
    obtain ⟨s2, x2⟩ := sm.frz hp (.lst (cutV vs lo hi))
    exact kv _ _ _ _ _ _ x2 s2 (.lst upd_same ((cut_rp rs lo hi).ext x2)) h
def wSl (a : WE) (lo hi : WO) : WE := fun env S Q X => a env S (fun x S1 => lo env S1 (fun l S2 => hi env S2 (fun u S3 => oSl l u x S3 Q) X) X) X
def DE.sl (a : DE) (lo hi : DO) : DE where
  mt c e := match e with
    | .Subscript x (.Slice l u none _) _ => a.mt c x && lo.mt c l && hi.mt c u
    | _ => false
  wp := wSl a.wp lo.wp hi.wp
  rq Z := a.rq Z ∧ lo.rq Z ∧ hi.rq Z
  ok X W T e h g q := by
    split at h
    · simp only [Bool.and_eq_true] at h
      refine PE.imp (pe_slice (sl_tupA.or (sl_list.or sl_str)) (a.ok X W T _ h.1.1 g q.1) (lo.ok X W T _ h.1.2 g q.2.1) (hi.ok X W T _ h.2 g q.2.2)) fun σ H Q ⟨env, S, F, ads, Qd, Xd, er, sm, hw, kv, kx⟩ => ?_
      refine ⟨env, S, F, ads, _, Xd, er, sm, hw, fun F1 ads1 S1 H1 d v x1 s1 r1 h1 => ?_, kx⟩
      refine ⟨env, S1, F1, ads1, _, Xd, er.ext x1, s1, h1, fun F2 ads2 S2 H2 l x2 s2 h2 => ?_, kx.ext x1⟩
      refine ⟨env, S2, F2, ads2, _, Xd, er.ext (x1.trans x2), s2, h2, fun F3 ads3 S3 H3 u x3 s3 h3 => ?_, kx.ext (x1.trans x2)⟩
      exact ok_sl s3 (r1.ext (x2.trans x3)) h3 (kv.ext ((x1.trans x2).trans x3))
    · cases h
/-! #### DL4 -/
/-! The D layer, part 4: displays, new lists, built-ins, methods. -/
theorem small_line {n : Nat} (h : decide (n ≤ 1000) = true) : n ≤ sizeLine := Nat.le_trans (of_decide_eq_true h) (by rw [sizeLine_eq]; decide)
def wTup (a : WL) : WE := fun env S Q X => a env S (fun ds S1 => Q (.tup ds) S1) X
def DE.tup (a : DA) : DE where
  mt c e := match e with
    | .Tuple es _ _ => a.mt c es && decide (a.n ≤ 1000)
    | _ => false
  wp := wTup a.wp
  rq := a.rq
  ok X W T e h g q := by
    split at h
    · simp only [Bool.and_eq_true] at h
      refine PE.imp (pe_tup (a.ok X W T _ h.1 g q).1) fun σ H Q ⟨env, S, F, ads, Qd, Xd, er, sm, hw, kv, kx⟩ => ?_
      refine ⟨env, S, F, ads, _, Xd, er, sm, hw, fun F1 ads1 S1 H1 ds vs x1 s1 r1 l1 h1 => ?_, kx⟩
      refine ⟨by rw [← r1.length, l1]; exact small_line h.2, fun p hp => ?_⟩
      obtain ⟨s2, x2⟩ := s1.frz hp (.tup vs)
      exact kv _ _ _ _ _ _ (x1.trans x2) s2 (.tup (SqT.of upd_same) (r1.ext x2)) h1
    · cases h
/-! ### new lists -/
def DL.dis (a : DA) : DL where
  mt c e := match e with
    | .List es _ => a.mt c es && decide (a.n ≤ 1000)
    | _ => false
  wp := a.wp
  rq := a.rq
  ok X W T e h g q := by
    split at h
    · simp only [Bool.and_eq_true] at h
      refine PE.imp (pe_lst (a.ok X W T _ h.1 g q).1) fun σ H Q ⟨env, S, F, ads, Qd, Xd, er, sm, hw, kv, kx⟩ => ?_
      refine ⟨env, S, F, ads, _, Xd, er, sm, hw, fun F1 ads1 S1 H1 ds vs x1 s1 r1 l1 h1 => ?_, kx⟩
      exact ⟨by rw [← r1.length, l1]; exact small_line h.2, fun p hp => kv _ _ _ _ _ _ _ x1 s1 r1 hp h1⟩
    · cases h
def wLst (a : WL) : WE := fun env S Q X => a env S (fun ds S1 => Q (.lst ds) S1) X
def wThw (a : WL) : WE := fun env S Q X => a env S (fun ds S1 => Q (.han S1.length) (S1 ++ [.lst ds])) X
theorem seqLst {K : Fg} {mg : Str → Option Value} {W : WX} {a : WL} {σ : L2.St} {H : Hp} {Q : VK} (h : tE K mg W (wLst a) σ H Q) : tL K mg W a σ H Q := by
  obtain ⟨env, S, F, ads, Qd, Xd, er, sm, hw, kv, kx⟩ := h
  refine ⟨env, S, F, ads, _, Xd, er, sm, hw, fun F1 ads1 S1 H1 ds vs p x1 s1 r1 hp h1 => ?_, kx⟩
  obtain ⟨s2, x2⟩ := s1.frz hp (.lst vs)
  exact kv _ _ _ _ _ _ (x1.trans x2) s2 (.lst upd_same (r1.ext x2)) h1
theorem seqThw {K : Fg} {mg : Str → Option Value} {W : WX} {a : WL} {σ : L2.St} {H : Hp} {Q : VK} (h : tE K mg W (wThw a) σ H Q) : tL K mg W a σ H Q := by
  obtain ⟨env, S, F, ads, Qd, Xd, er, sm, hw, kv, kx⟩ := h
  refine ⟨env, S, F, ads, _, Xd, er, sm, hw, fun F1 ads1 S1 H1 ds vs p x1 s1 r1 hp h1 => ?_, kx⟩
  have pr : ∀ (i : Nat) a, ads1[i]? = some a → (ads1 ++ [p])[i]? = some a := fun i a e => by
    rw [List.getElem?_append_left (List.getElem?_eq_some_iff.mp e).1]; exact e
  obtain ⟨s2, x2⟩ := s1.thw hp (.lst vs) (.lst ds) ⟨(s1.fresh hp).2, vs, upd_same, r1.mono (Same.refl _) pr⟩
  refine kv _ _ _ _ _ _ (x1.trans x2) s2 (.han ?_) h1
  rw [← s1.len, List.getElem?_append_right (Nat.le_refl _)]
  simp
def DE.lst (l : DL) : DE where
  mt := l.mt
  wp := wLst l.wp
  rq := l.rq
  ok X W T e h g q := PE.imp (l.ok X W T e h g q) fun σ H Q z => seqLst z
def DE.thw (l : DL) : DE where
  mt := l.mt
  wp := wThw l.wp
  rq := l.rq
  ok X W T e h g q := PE.imp (l.ok X W T e h g q) fun σ H Q z => seqThw z
/-! ### built-ins by their names -/
def bltB (x : Str) (a : DA) (c : Sc) : Expr → Bool
  | .Call (.Name y _) (e :: es) [] _ => y == x && glB c x && a.mt c (e :: es)
  | _ => false
/-- a built-in function -/
def mkB (x : Str) (id : String) (hv : bootBuiltins x = some (.builtin id)) (hn : x ≠ "__name__") (hd : (x == ("__debug__" : Str)) = false) (op : List D → Sto → QD → Prop)
    (pf : ∀ (X : Cx) (W : WX) (T : List (Addr × Str)), Good X W → ∃ r, CallR X (.builtin id) r ∧ OkA (kt X T) op r) (a : DA) : DE where
  mt c e := bltB x a c e
  wp := wAp op a.wp
  rq Z := Z.mg x = none ∧ a.rq Z
  ok X W T e h g q := by
    unfold bltB at h
    split at h
    · simp only [Bool.and_eq_true, beq_iff_eq] at h
      obtain ⟨⟨rfl, h1⟩, h2⟩ := h
      obtain ⟨r, hr, hk⟩ := pf X W T g
      obtain ⟨pa, ps⟩ := a.ok X W T _ h2 g q.2
      simp only [List.all_cons, Bool.and_eq_true] at ps
      exact PE.imp (pe_callB hr (gl_of h1) q.1 hv pa hn hd (starEach_cons ps.1) (star_any ps.2)) fun σ H Q z => seqA hk z
    · cases h
/-- a built-in class, called -/
def mkT (x : Str) (Ty : String) (hv : bootBuiltins x = some (.type Ty)) (hn : x ≠ "__name__") (hd : (x == ("__debug__" : Str)) = false) (op : List D → Sto → QD → Prop)
    (pf : ∀ (X : Cx) (W : WX) (T : List (Addr × Str)), Good X W → ∃ r, CallR X (.type Ty) r ∧ OkA (kt X T) op r) (a : DA) : DE where
  mt c e := bltB x a c e
  wp := wAp op a.wp
  rq Z := Z.mg x = none ∧ a.rq Z
  ok X W T e h g q := by
    unfold bltB at h
    split at h
    · simp only [Bool.and_eq_true, beq_iff_eq] at h
      obtain ⟨⟨rfl, h1⟩, h2⟩ := h
      obtain ⟨r, hr, hk⟩ := pf X W T g
      obtain ⟨pa, ps⟩ := a.ok X W T _ h2 g q.2
      simp only [List.all_cons, Bool.and_eq_true] at ps
      exact PE.imp (pe_callTy hr (gl_of h1) q.1 hv pa hn hd (starEach_cons ps.1) (star_any ps.2)) fun σ H Q z => seqA hk z
    · cases h
def oLen : List D → Sto → QD → Prop
  | [.str z], S, Q => z.length ≤ sizeLine ∧ Q (.int z.length) S
  | [x], S, Q => ∃ ds, seqOf S x = some ds ∧ Q (.int ds.length) S
  | _, _, _ => False
theorem ok_len {K : Fg} : OkA K oLen (fun xs H Q => (∃ p ys, xs = [.ref p] ∧ (SqL K.K H p ys ∨ SqT K.K H p ys) ∧ Q (.int ys.length) H) ∨ ∃ z, xs = [.str z] ∧ z.length ≤ sizeLine ∧ Q (.int z.length) H) := by
  intro F ads S H xs vs Qd Q sm rx h kv
  unfold oLen at h
  split at h
  · cases rx with
    | cons r t => cases t; cases r; exact .inr ⟨_, rfl, h.1, kv _ _ _ _ _ _ Ext.refl sm (.int _) h.2⟩
  · cases rx with
    | cons r t =>
      cases t
      obtain ⟨ds, hs, hq⟩ := h
      obtain ⟨a, ys, e, hy, rs⟩ := seq_sq sm r hs
      subst e
      exact .inl ⟨a, ys, rfl, hy, kv _ _ _ _ _ _ Ext.refl sm (.int _) (by rw [← rs.length]; exact hq)⟩
  · exact h.elim
def DE.len : DA → DE := mkB "len" "len" PySem.boot_len (by decide) (by decide) oLen fun X W T g => ⟨_, call_len_seq.or call_len_str, ok_len⟩
def oAbs : List D → Sto → QD → Prop
  | [.int i], S, Q => Q (.int i.natAbs) S
  | _, _, _ => False
theorem ok_abs {K : Fg} : OkA K oAbs (fun xs H Q => ∃ i, xs = [.int i] ∧ Q (.int (if i < 0 then -i else i)) H) := by
  intro F ads S H xs vs Qd Q sm rx h kv
  unfold oAbs at h
  split at h
  · cases rx with
    | cons r t =>
      cases t; cases r
      rename_i i
      refine ⟨i, rfl, kv _ _ _ _ _ _ Ext.refl sm (.int _) ?_⟩
      have e : (if i < 0 then -i else i) = ((i.natAbs : Nat) : Int) := by split <;> omega
      rw [e]; exact h
  · exact h.elim
def DE.abs : DA → DE := mkB "abs" "abs" (by decide +kernel) (by decide) (by decide) oAbs fun X W T g => ⟨_, call_abs, ok_abs⟩
def oSum : List D → Sto → QD → Prop
  | [x], S, Q => ∃ ns : List Int, lstOf S x = some (ns.map .int) ∧ Q (.int ns.sum) S
  | _, _, _ => False
theorem ok_sum {K : Fg} : OkA K oSum (rSum K.K) := by
  intro F ads S H xs vs Qd Q sm rx h kv
  unfold oSum at h
  split at h
  · cases rx with
    | cons r t =>
      cases t
      obtain ⟨ns, hs, hq⟩ := h
      obtain ⟨a, ys, e, hy, rs⟩ := lst_sq sm r hs
      subst e
      have e2 := rs.ints
      subst e2
      exact ⟨a, ns, rfl, hy, kv _ _ _ _ _ _ Ext.refl sm (.int _) hq⟩
  · exact h.elim
def DE.sum : DA → DE := mkB "sum" "sum" (by decide +kernel) (by decide) (by decide) oSum fun X W T g => ⟨_, cr_sum g.calm, ok_sum⟩
def oAll : List D → Sto → QD → Prop
  | [x], S, Q => ∃ bs : List Bool, lstOf S x = some (bs.map .bl) ∧ Q (.bl (bs.all id)) S
  | _, _, _ => False
def oAny : List D → Sto → QD → Prop
  | [x], S, Q => ∃ bs : List Bool, lstOf S x = some (bs.map .bl) ∧ Q (.bl (bs.any id)) S
  | _, _, _ => False
theorem ok_all {K : Fg} : OkA K oAll (rAll K.K) := by
  intro F ads S H xs vs Qd Q sm rx h kv
  unfold oAll at h
  split at h
  · cases rx with
    | cons r t =>
      cases t
      obtain ⟨ns, hs, hq⟩ := h
      obtain ⟨a, ys, e, hy, rs⟩ := lst_sq sm r hs
      subst e
      have e2 := rs.bls
      subst e2
      exact ⟨a, ns, rfl, hy, kv _ _ _ _ _ _ Ext.refl sm (.bl _) hq⟩
  · exact h.elim
theorem ok_any {K : Fg} : OkA K oAny (rAny K.K) := by
  intro F ads S H xs vs Qd Q sm rx h kv
  unfold oAny at h
  split at h
  · cases rx with
    | cons r t =>
      cases t
      obtain ⟨ns, hs, hq⟩ := h
      obtain ⟨a, ys, e, hy, rs⟩ := lst_sq sm r hs
      subst e
      have e2 := rs.bls
      subst e2
      exact ⟨a, ns, rfl, hy, kv _ _ _ _ _ _ Ext.refl sm (.bl _) hq⟩
  · exact h.elim
def DE.all : DA → DE := mkB "all" "all" (by decide +kernel) (by decide) (by decide) oAll fun X W T g => ⟨_, cr_all g.calm, ok_all⟩
def DE.any : DA → DE := mkB "any" "any" (by decide +kernel) (by decide) (by decide) oAny fun X W T g => ⟨_, cr_any g.calm, ok_any⟩
def oTuple : List D → Sto → QD → Prop
  | [x], S, Q => ∃ ds, seqOf S x = some ds ∧ Q (.tup ds) S
  | _, _, _ => False
theorem tupOf_eq {d : D} {ds : List D} (h : tupOf d = some ds) : d = .tup ds := by
  unfold tupOf at h
  split at h
  · cases h; rfl
  · cases h
theorem ok_tuple {K : Fg} : OkA K oTuple (fun xs H Q => ∃ p ys, xs = [.ref p] ∧ ((SqL K.K H p ys ∧ ∀ l, H l = none → Q (.ref l) (upd H l (.tup ys))) ∨ (SqT K.K H p ys ∧ Q (.ref p) H))) := by
  intro F ads S H xs vs Qd Q sm rx h kv
  unfold oTuple at h
  split at h
  · cases rx with
    | cons r t =>
      cases t
      obtain ⟨ds, hs, hq⟩ := h
      unfold seqOf at hs
      split at hs
      · rename_i ht
        cases hs
        have r0 := r
        obtain ⟨a, ys, e, hy, rs⟩ := tup_sq sm r ht
        subst e
        rw [tupOf_eq ht] at r0
        exact ⟨a, ys, rfl, .inr ⟨hy, kv _ _ _ _ _ _ Ext.refl sm r0 hq⟩⟩
      · obtain ⟨a, ys, e, hy, rs⟩ := lst_sq sm r hs
        subst e
        refine ⟨a, ys, rfl, .inl ⟨hy, fun l hl => ?_⟩⟩
        obtain ⟨s2, x2⟩ := sm.frz hl (.tup ys)
        exact kv _ _ _ _ _ _ x2 s2 (.tup (SqT.of upd_same) (rs.ext x2)) hq
  · exact h.elim
def DE.tuple : DA → DE := mkT "tuple" "tuple" (by decide +kernel) (by decide) (by decide) oTuple fun X W T g => ⟨_, call_tuple_of, ok_tuple⟩
def oInt : List D → Sto → QD → Prop
  | [.int i], S, Q => Q (.int i) S
  | [.bl b], S, Q => Q (.int (if b then 1 else 0)) S
  | [.str z], S, Q => ∃ n, PySem.intText? z = some n ∧ z.length ≤ 640 ∧ Q (.int n) S
  | _, _, _ => False
theorem ok_int {K : Fg} : OkA K oInt (fun xs H Q => ((∃ i, xs = [.int i] ∧ Q (.int i) H) ∨ ∃ k, xs = [.bl k] ∧ Q (.int (if k then 1 else 0)) H) ∨ ∃ a n, xs = [.str a] ∧ PySem.intText? a = some n ∧ a.length ≤ 640 ∧ Q (.int n) H) := by
  intro F ads S H xs vs Qd Q sm rx h kv
  unfold oInt at h
  split at h
  · cases rx with
    | cons r t => cases t; cases r; exact .inl (.inl ⟨_, rfl, kv _ _ _ _ _ _ Ext.refl sm (.int _) h⟩)
  · cases rx with
    | cons r t => cases t; cases r; exact .inl (.inr ⟨_, rfl, kv _ _ _ _ _ _ Ext.refl sm (.int _) h⟩)
  · cases rx with
    | cons r t =>
      cases t; cases r
      obtain ⟨n, h1, h2, h3⟩ := h
      exact .inr ⟨_, n, rfl, h1, h2, kv _ _ _ _ _ _ Ext.refl sm (.int _) h3⟩
  · exact h.elim
def DE.int : DA → DE := mkT "int" "int" (by decide +kernel) (by decide) (by decide) oInt fun X W T g => ⟨_, call_int1.or call_int_str, ok_int⟩
def oStr : List D → Sto → QD → Prop
  | [.int i], S, Q => i.natAbs.log2 < 1920 ∧ Q (.str (toString i)) S
  | _, _, _ => False
theorem ok_str {K : Fg} : OkA K oStr (fun xs H Q => ∃ i : Int, xs = [.int i] ∧ i.natAbs.log2 < 1920 ∧ Q (.str (toString i)) H) := by
  intro F ads S H xs vs Qd Q sm rx h kv
  unfold oStr at h
  split at h
  · cases rx with
    | cons r t => cases t; cases r; exact ⟨_, rfl, h.1, kv _ _ _ _ _ _ Ext.refl sm (.str _) h.2⟩
  · exact h.elim
def DE.str : DA → DE := mkT "str" "str" (by decide +kernel) (by decide) (by decide) oStr fun X W T g => ⟨_, call_str_int, ok_str⟩
/-! list(x): a new list -/
def wLof (a : WL) : WL := fun env S Q X => a env S (fun xs S1 => ∃ x ds, xs = [x] ∧ seqOf S1 x = some ds ∧ Q ds S1) X
def DL.lof (a : DA) : DL where
  mt c e := bltB "list" a c e
  wp := wLof a.wp
  rq Z := Z.mg "list" = none ∧ a.rq Z
  ok X W T e h g q := by
    unfold bltB at h
    split at h
    · simp only [Bool.and_eq_true, beq_iff_eq] at h
      obtain ⟨⟨rfl, h1⟩, h2⟩ := h
      obtain ⟨pa, ps⟩ := a.ok X W T _ h2 g q.2
      simp only [List.all_cons, Bool.and_eq_true] at ps
      refine PE.imp (pe_callTy call_list_of (gl_of h1) q.1 (by decide +kernel) pa (by decide) (by decide) (starEach_cons ps.1) (star_any ps.2)) fun σ H Q ⟨env, S, F, ads, Qd, Xd, er, sm, hw, kv, kx⟩ => ?_
      refine ⟨env, S, F, ads, _, Xd, er, sm, hw, fun F1 ads1 S1 H1 xs vs x1 s1 r1 _ hh => ?_, kx⟩
      obtain ⟨x, ds, rfl, hs, hq⟩ := hh
      cases r1 with
      | cons r t =>
        cases t
        obtain ⟨a, ys, e, hy, rs⟩ := seq_sq s1 r hs
        subst e
        exact ⟨a, ys, rfl, hy, fun l hl => kv _ _ _ _ _ _ _ x1 s1 rs hl hq⟩
    · cases h
/-! a + b of lists, a new list -/
def wCat (a b : WE) : WL := fun env S Q X => a env S (fun x S1 => b env S1 (fun y S2 => ∃ xs ys, lstX S2 x = some xs ∧ lstX S2 y = some ys ∧ xs.length + ys.length ≤ sizeLine ∧ Q (xs ++ ys) S2) X) X
def DL.cat (a b : DE) : DL where
  mt c e := match e with
    | .BinOp x .Add y _ => a.mt c x && b.mt c y
    | _ => false
  wp := wCat a.wp b.wp
  rq Z := a.rq Z ∧ b.rq Z
  ok X W T e h g q := by
    split at h
    · simp only [Bool.and_eq_true] at h
      refine PE.imp (pe_op op_cat (a.ok X W T _ h.1 g q.1) (b.ok X W T _ h.2 g q.2)) fun σ H Q ⟨env, S, F, ads, Qd, Xd, er, sm, hw, kv, kx⟩ => ?_
      refine ⟨env, S, F, ads, _, Xd, er, sm, hw, fun F1 ads1 S1 H1 d v x1 s1 r1 h1 => ?_, kx⟩
      refine ⟨env, S1, F1, ads1, _, Xd, er.ext x1, s1, h1, fun F2 ads2 S2 H2 d2 v2 x2 s2 r2 h2 => ?_, kx.ext x1⟩
      obtain ⟨xs, ys, e1, e2, hz, hq⟩ := h2
      obtain ⟨a1, us, rfl, ea, ra⟩ := lstX_at s2 (r1.ext x2) e1
      obtain ⟨a2, ws, rfl, eb, rb⟩ := lstX_at s2 r2 e2
      exact ⟨a1, a2, us, ws, rfl, rfl, ea, eb, by rw [← ra.length, ← rb.length]; exact hz, fun p hp => kv _ _ _ _ _ _ _ (x1.trans x2) s2 (ra.append rb) hp hq⟩
    · cases h
/-! [a] * n -/
def wRep (a b : WE) : WL := fun env S Q X => a env S (fun x S1 => b env S1 (fun y S2 => ∃ xs k, lstX S2 x = some xs ∧ y = .int k ∧ -(2 ^ 63) ≤ k ∧ k < 2 ^ 63 ∧ xs.length * k.toNat ≤ sizeLine ∧ Q (List.replicate k.toNat xs).flatten S2) X) X
def DL.rep (a b : DE) : DL where
  mt c e := match e with
    | .BinOp x .Mult y _ => a.mt c x && b.mt c y
    | _ => false
  wp := wRep a.wp b.wp
  rq Z := a.rq Z ∧ b.rq Z
  ok X W T e h g q := by
    split at h
    · simp only [Bool.and_eq_true] at h
      refine PE.imp (pe_op op_rep (a.ok X W T _ h.1 g q.1) (b.ok X W T _ h.2 g q.2)) fun σ H Q ⟨env, S, F, ads, Qd, Xd, er, sm, hw, kv, kx⟩ => ?_
      refine ⟨env, S, F, ads, _, Xd, er, sm, hw, fun F1 ads1 S1 H1 d v x1 s1 r1 h1 => ?_, kx⟩
      refine ⟨env, S1, F1, ads1, _, Xd, er.ext x1, s1, h1, fun F2 ads2 S2 H2 d2 v2 x2 s2 r2 h2 => ?_, kx.ext x1⟩
      obtain ⟨xs, k, e1, rfl, hk1, hk2, hz, hq⟩ := h2
      cases r2
      obtain ⟨a1, us, rfl, ea, ra⟩ := lstX_at s2 (r1.ext x2) e1
      exact ⟨a1, k, us, rfl, rfl, ea, hk1, hk2, by rw [← ra.length]; exact hz, fun p hp => kv _ _ _ _ _ _ _ (x1.trans x2) s2 (ra.rep _) hp hq⟩
    · cases h
/-! ### isinstance(x, T), T a built-in class -/
def tyD (S : Sto) : D → Option String
  | .non => some "NoneType"
  | .bl _ => some "bool"
  | .int _ => some "int"
  | .str _ => some "str"
  | .flt _ => some "float"
  | .tup _ => some "tuple"
  | .lst _ => some "list"
  | .scr _ => some "list"
  | .han i => match S[i]? with
    | some (.lst _) => some "list"
    | some (.dct _) => some "dict"
    | _ => none
  | .cst _ => none
  | .exc _ => none
theorem tyD_of {K : Fg} {F : Hp} {ads : List Addr} {S : Sto} {H : Hp} {d : D} {v : V} {T : String} (sm : Sim K F ads S H) (r : Rp K F ads d v) (h : tyD S d = some T) : TyX K.K H v (.type T) := by
  cases r with
  | non => cases h; exact .base .non
  | bl b => cases h; exact .base (.bl b)
  | int b => cases h; exact .base (.int b)
  | str b => cases h; exact .base (.str b)
  | flt b => cases h; exact .base (.flt b)
  | tup hs _ =>
    cases h
    rcases Sub.tup sm.sub hs with (z | ⟨o, z⟩) | ⟨o, its, n, z, c, _⟩
    · exact .base (.tup z)
    · exact .fTuple z
    · exact .kTuple z c
  | lst hs _ => cases h; exact .base (.lst (sm.sub _ _ hs))
  | scr hs _ =>
    cases h
    rcases sm.sub.seq hs with (z | ⟨o, z⟩) | ⟨o, its, n, z, c, _⟩
    · exact .base (.lst z)
    · exact .base (.frz z)
    · exact .kList z c
  | han ha =>
    unfold tyD at h
    simp only at h
    split at h
    · rename_i hS
      cases h
      obtain ⟨a', ha', nF, vs, hH, rs⟩ := sm.at hS
      rw [ha] at ha'; cases ha'
      exact .base (.lst hH)
    · rename_i hS
      cases h
      obtain ⟨a', ha', nF, vs, hH, rs⟩ := sm.at hS
      rw [ha] at ha'; cases ha'
      exact .base (.dT hH)
    · cases h
  | cst v => cases h
  | exc _ _ => cases h
def wIsi (T : String) (a : WE) : WE := fun env S Q X => a env S (fun d S1 => ∃ t b, tyD S1 d = some t ∧ kitB t T = some b ∧ Q (.bl b) S1) X
def DE.isi (x : Str) (Ty : String) (hv : bootBuiltins x = some (.type Ty)) (hn : x ≠ "__name__") (hd : (x == ("__debug__" : Str)) = false) (a : DE) : DE where
  mt c e := match e with
    | .Call (.Name f _) [y, .Name z _] [] _ => f == "isinstance" && glB c "isinstance" && noStar y && a.mt c y && z == x && glB c x
    | _ => false
  wp := wIsi Ty a.wp
  rq Z := Z.mg "isinstance" = none ∧ Z.mg x = none ∧ a.rq Z
  ok X W T e h g q := by
    split at h
    · simp only [Bool.and_eq_true, beq_iff_eq] at h
      obtain ⟨⟨⟨⟨⟨rfl, h1⟩, h2⟩, h3⟩, rfl⟩, h5⟩ := h
      refine PE.imp (pe_callB call_isi (gl_of h1) q.1 (by decide +kernel) (pa_cons (a.ok X W T _ h3 g q.2.2) (pa_cons (pe_bltn (v := .ty Ty) (gl_of h5) q.2.1 hv rfl hn hd) pa_nil) (starEach_cons h2)) (by decide) (by decide) (starEach_cons h2) rfl) fun σ H Q ⟨env, S, F, ads, Qd, Xd, er, sm, hw, kv, kx⟩ => ?_
      refine ⟨env, S, F, ads, _, Xd, er, sm, hw, fun F1 ads1 S1 H1 d v x1 s1 r1 hh => ?_, kx⟩
      obtain ⟨t, b, ht, hb, hq⟩ := hh
      exact ⟨v, .ty Ty, .type t, .type Ty, b, rfl, .ty Ty, tyD_of s1 r1 ht, kit_ty hb, kv _ _ _ _ _ _ x1 s1 (.bl _) hq⟩
    · cases h
def DE.isTuple : DE → DE := DE.isi "tuple" "tuple" (by decide +kernel) (by decide) (by decide)
def DE.isInt : DE → DE := DE.isi "int" "int" (by decide +kernel) (by decide) (by decide)
def DE.isBool : DE → DE := DE.isi "bool" "bool" (by decide +kernel) (by decide) (by decide)
def DE.isStr : DE → DE := DE.isi "str" "str" (by decide +kernel) (by decide) (by decide)
/-! ### methods of built-in classes -/
def noCall : Expr → Bool
  | .Call (.Name _ _) [] [] _ => false
  | _ => true
theorem noCall_base {o : Expr} {f : Str} {env : PySem.Env} (h : noCall o = true) : attributeBase o f env (eval o env) = eval o env := by
  unfold attributeBase
  split
  · simp [noCall] at h
  · rfl
def met0B (name : Str) (o : DE) (c : Sc) : Expr → Bool
  | .Call (.Attribute x n apos) [] [] cpos => n == name && noCall x && o.mt c x && (apos.endLine == cpos.line)
  | _ => false
def met1B (name : Str) (o : DE) (a : DE) (c : Sc) : Expr → Bool
  | .Call (.Attribute x n apos) [e] [] cpos => n == name && noCall x && o.mt c x && (apos.endLine == cpos.line) && noStar e && a.mt c e
  | _ => false
/-- the receiver's class -/
def recD (S : Sto) (T : String) : D → Bool
  | .str _ => T == "str"
  | .lst _ => T == "list"
  | .han i => match S[i]? with
    | some (.lst _) => T == "list"
    | some (.dct _) => T == "dict"
    | _ => false
  | _ => false
theorem rec_ty {K : Fg} {F : Hp} {ads : List Addr} {S : Sto} {H : Hp} {d : D} {v : V} {T : String} (sm : Sim K F ads S H) (r : Rp K F ads d v) (h : recD S T d = true) : tyV K.K T v H := by
  cases r with
  | str b => simp [recD] at h; exact h
  | lst hs _ => simp [recD] at h; exact .inl ⟨h, _, SqL.of (sm.sub _ _ hs)⟩
  | han ha =>
    unfold recD at h
    simp only at h
    split at h
    · rename_i hS
      obtain ⟨a', ha', nF, vs, hH, rs⟩ := sm.at hS
      rw [ha] at ha'; cases ha'
      exact .inl ⟨by simpa using h, _, SqL.of hH⟩
    · rename_i hS
      obtain ⟨a', ha', nF, vs, hH, rs⟩ := sm.at hS
      rw [ha] at ha'; cases ha'
      exact .inr (.inr (.inl ⟨by simpa using h, .inr ⟨_, hH⟩⟩))
    · cases h
  | _ => simp [recD] at h
def OkM (K : Fg) (op : D → List D → Sto → QD → Prop) (r : V → List V → Hp → VK → Prop) : Prop := ∀ {F ads S H x xs v vs Qd Q}, Sim K F ads S H → Rp K F ads x v → Rps K F ads xs vs → op x xs S Qd → KV K F ads H Qd Q → r v vs H Q
def wM0 (T : String) (op : D → List D → Sto → QD → Prop) (o : WE) : WE := fun env S Q X => o env S (fun x S1 => recD S1 T x = true ∧ op x [] S1 Q) X
def wM1 (T : String) (op : D → List D → Sto → QD → Prop) (o a : WE) : WE := fun env S Q X => o env S (fun x S1 => recD S1 T x = true ∧ a env S1 (fun y S2 => op x [y] S2 Q) X) X
def mkM0 (Ty : String) (name : Str) (id : String) (pa : PlainAttrs Ty) (slot : Slot Ty name id) (hty : typeOf (.builtin id) = pure (.type "method_descriptor")) (op : D → List D → Sto → QD → Prop)
    (pf : ∀ (X : Cx) (W : WX) (T : List (Addr × Str)), Good X W → ∃ r, MtR X id r ∧ OkM (kt X T) op r) (o : DE) : DE where
  mt c e := met0B name o c e
  wp := wM0 Ty op o.wp
  rq Z := o.rq Z
  ok X W T e h g q := by
    unfold met0B at h
    split at h
    · simp only [Bool.and_eq_true, beq_iff_eq] at h
      obtain ⟨⟨⟨rfl, h1⟩, h2⟩, h3⟩ := h
      obtain ⟨r, hr, hk⟩ := pf X W T g
      refine PE.imp (pe_bm0 pa slot hty hr (o.ok X W T _ h2 g q) (noCall_base h1) (by simpa using h3)) fun σ H Q ⟨env, S, F, ads, Qd, Xd, er, sm, hw, kv, kx⟩ => ?_
      refine ⟨env, S, F, ads, _, Xd, er, sm, hw, fun F1 ads1 S1 H1 d v x1 s1 r1 hh => ?_, kx⟩
      exact ⟨rec_ty s1 r1 hh.1, hk s1 r1 .nil hh.2 (kv.ext x1)⟩
    · cases h
def mkM1 (Ty : String) (name : Str) (id : String) (pa : PlainAttrs Ty) (slot : Slot Ty name id) (hty : typeOf (.builtin id) = pure (.type "method_descriptor")) (op : D → List D → Sto → QD → Prop)
    (pf : ∀ (X : Cx) (W : WX) (T : List (Addr × Str)), Good X W → ∃ r, MtR X id r ∧ OkM (kt X T) op r) (o a : DE) : DE where
  mt c e := met1B name o a c e
  wp := wM1 Ty op o.wp a.wp
  rq Z := o.rq Z ∧ a.rq Z
  ok X W T e h g q := by
    unfold met1B at h
    split at h
    · simp only [Bool.and_eq_true, beq_iff_eq] at h
      obtain ⟨⟨⟨⟨⟨rfl, h1⟩, h2⟩, h3⟩, h4⟩, h5⟩ := h
      obtain ⟨r, hr, hk⟩ := pf X W T g
      have hs : ∀ e, noStar e = true → starEach [e] X.env = [(false, eval e X.env)] := fun e he => starEach_cons he
      refine PE.imp (pe_bm pa slot hty hr (o.ok X W T _ h2 g q.1) (pa_cons (a.ok X W T _ h5 g q.2) pa_nil (starEach_cons h4)) (noCall_base h1) (by rw [hs _ h4]; rfl) (by simpa using h3) (starEach_cons h4) rfl) fun σ H Q ⟨env, S, F, ads, Qd, Xd, er, sm, hw, kv, kx⟩ => ?_
      refine ⟨env, S, F, ads, _, Xd, er, sm, hw, fun F1 ads1 S1 H1 d v x1 s1 r1 hh => ?_, kx⟩
      refine ⟨rec_ty s1 r1 hh.1, env, S1, F1, ads1, _, Xd, er.ext x1, s1, hh.2, fun F2 ads2 S2 H2 d2 v2 x2 s2 r2 h2 => ?_, kx.ext x1⟩
      exact hk s2 (r1.ext x2) (.cons r2 .nil) h2 (kv.ext (x1.trans x2))
    · cases h
/-- .. of an object of the store -/
def oAppend : D → List D → Sto → QD → Prop
  | .han i, [y], S, Q => ∃ ds, S[i]? = some (.lst ds) ∧ ds.length < sizeLine ∧ Q .non (S.set i (.lst (ds ++ [y])))
  | _, _, _, _ => False
theorem ok_append {K : Fg} : OkM K oAppend rAppend := by
  intro F ads S H x xs v vs Qd Q sm rx rxs h kv
  unfold oAppend at h
  split at h
  · obtain ⟨ds, hS, hz, hq⟩ := h
    cases rx with
    | han ha =>
      cases rxs with
      | cons r t =>
        cases t
        obtain ⟨a', ha', nF, us, hH, rs⟩ := sm.at hS
        rw [ha] at ha'; cases ha'
        refine ⟨_, us, _, rfl, rfl, hH, by rw [← rs.length]; exact hz, ?_⟩
        obtain ⟨s2, x2⟩ := sm.put ha nF (.lst (us ++ [_])) (o := .lst (ds ++ [_])) ⟨nF, _, upd_same, rs.append (.cons r .nil)⟩
        exact kv _ _ _ _ _ _ x2 s2 .non hq
  · exact h.elim
def DE.append : DE → DE → DE := mkM1 "list" "append" "list.append" PySem.F.plainAttrs_list PySem.F.slot_list_append PySem.F.type_list_append oAppend fun X W T g => ⟨_, mt_append, ok_append⟩
def oPop : D → List D → Sto → QD → Prop
  | .han i, [], S, Q => ∃ ds d, S[i]? = some (.lst ds) ∧ ds[ds.length - 1]? = some d ∧ Q d (S.set i (.lst ds.dropLast))
  | _, _, _, _ => False
theorem ok_pop {K : Fg} : OkM K oPop rPop := by
  intro F ads S H x xs v vs Qd Q sm rx rxs h kv
  unfold oPop at h
  split at h
  · obtain ⟨ds, d, hS, hd, hq⟩ := h
    cases rx with
    | han ha =>
      cases rxs
      obtain ⟨a', ha', nF, us, hH, rs⟩ := sm.at hS
      rw [ha] at ha'; cases ha'
      obtain ⟨u, hu, ru⟩ := rs.get hd
      rw [rs.length] at hu
      refine ⟨_, us, u, rfl, rfl, hH, hu, ?_⟩
      obtain ⟨s2, x2⟩ := sm.put ha nF (.lst us.dropLast) (o := .lst ds.dropLast) ⟨nF, _, upd_same, rs.dropLast⟩
      exact kv _ _ _ _ _ _ x2 s2 (ru.ext x2) hq
  · exact h.elim
def DE.pop : DE → DE := mkM0 "list" "pop" "list.pop" PySem.F.plainAttrs_list PySem.F.slot_list_pop PySem.F.type_list_pop oPop fun X W T g => ⟨_, mt_pop, ok_pop⟩
def oExtend : D → List D → Sto → QD → Prop
  | .han i, [y], S, Q => ∃ ds es, S[i]? = some (.lst ds) ∧ y = .lst es ∧ ds.length + es.length ≤ sizeLine ∧ Q .non (S.set i (.lst (ds ++ es)))
  | _, _, _, _ => False
theorem ok_extend {K : Fg} : OkM K oExtend rExtend := by
  intro F ads S H x xs v vs Qd Q sm rx rxs h kv
  unfold oExtend at h
  split at h
  · obtain ⟨ds, es, hS, rfl, hz, hq⟩ := h
    cases rx with
    | han ha =>
      cases rxs with
      | cons r t =>
        cases t
        cases r with
        | lst hF re =>
          obtain ⟨a', ha', nF, us, hH, rs⟩ := sm.at hS
          rw [ha] at ha'; cases ha'
          refine ⟨_, _, us, _, rfl, rfl, hH, sm.sub _ _ hF, by rw [← rs.length, ← re.length]; exact hz, ?_⟩
          obtain ⟨s2, x2⟩ := sm.put ha nF (.lst _) (o := .lst (ds ++ es)) ⟨nF, _, upd_same, rs.append re⟩
          exact kv _ _ _ _ _ _ x2 s2 .non hq
  · exact h.elim
def DE.extend : DE → DE → DE := mkM1 "list" "extend" "list.extend" PySem.F.plainAttrs_list PySem.F.slot_list_extend PySem.F.type_list_extend oExtend fun X W T g => ⟨_, mt_extend, ok_extend⟩
/-! #### DL5 -/
/-! The D layer, part 5: what is walked, targets, comprehensions. -/
/-! ### what is walked -/
abbrev Src := List (Nat × List D)
abbrev QI := List D → Src → Sto → Prop
abbrev WI := Env → Sto → QI → XD → Prop
def srcOk : Src → Sto → Prop
  | [], _ => True
  | (h, ds) :: r, S => S[h]? = some (.lst ds) ∧ srcOk r S
theorem srcOk_app : ∀ {a b : Src} {S : Sto}, srcOk (a ++ b) S → srcOk a S ∧ srcOk b S
  | [], _, _, h => ⟨trivial, h⟩
  | (_, _) :: r, _, _, h => ⟨⟨h.1, (srcOk_app (a := r) h.2).1⟩, (srcOk_app (a := r) h.2).2⟩
def ItOk (K : Fg) (F : Hp) (ads : List Addr) (ds : List D) (src : Src) (J : It) : Prop :=
  ∀ F2 ads2 S2 H2, Same F F2 → (∀ (i : Nat) a, ads[i]? = some a → ads2[i]? = some a) → Sim K F2 ads2 S2 H2 → srcOk src S2 →
    (∀ (i : Nat) d, ds[i]? = some d → J.go i H2 ∧ ∀ x H3, J.yld i H2 x H3 → ∃ F3, Ext F2 ads2 H2 F3 ads2 H3 ∧ Sim K F3 ads2 S2 H3 ∧ Rp K F3 ads2 d x) ∧ ∀ i, ds.length ≤ i → J.stop i H2
def tI (K : Fg) (mg : Str → Option Value) (W : WX) (w : WI) : TI := fun σ H R => ∃ env S F ads Qd Xd, EnvR K F ads env σ ∧ Sim K F ads S H ∧ w env S Qd Xd ∧
  (∀ F' ads' S' H' ds src J, Ext F ads H F' ads' H' → Sim K F' ads' S' H' → ItOk K F' ads' ds src J → Qd ds src S' → R J H') ∧ KX K mg W F ads H σ Xd
structure DI where
  mt : Sc → Expr → Expr → Bool
  wp : WI
  rq : Cy → Prop
  ok : ∀ (X : Cx) (W : WX) (T : List (Addr × Str)) (tg e : Expr), mt (scOf X) tg e = true → Good X W → rq (cyOf X T) → PI X tg e (tI (kt X T) X.mg W wp)
theorem PI.imp {X : Cx} {tg e : Expr} {t t' : TI} (h : PI X tg e t) (q : ∀ σ H Q, t' σ H Q → t σ H Q) : PI X tg e t' := ⟨fun pins s σ H Q I z => h.run pins s σ H Q I (q _ _ _ z)⟩
/-- lists and tuples -/
def iSeq (K : PySem.W.Frag) (tl : TE) : TI := fun σ H R => tl σ H fun x H1 => ∃ a, x = .ref a ∧ (((∃ xs, SqL K H1 a xs) ∧ R (Itl K a) H1) ∨ ((∃ xs, SqT K H1 a xs) ∧ R (Itt K a) H1))
theorem pi_seq {X : Cx} {tg l : Expr} {tl : TE} (hl : PE X l tl) : PI X tg l (iSeq X.K tl) := by
  refine ⟨fun pins s σ H R I h => ?_⟩
  refine thn (hl.run pins s σ H _ I h) fun v s1 ⟨x, H1, I1, r1, q1⟩ => ?_
  obtain ⟨a, e, q⟩ := q1
  subst e
  cases r1
  rcases q with ⟨⟨xs, hq⟩, q⟩ | ⟨⟨xs, hq⟩, q⟩
  · obtain ⟨its, rv, p, hz⟩ := I1.list hq
    refine wpAny_pyIter_list p.isList ?_
    refine ⟨s1.heap.objs.size, [s1.heap.objs.size], _, _, H1, rfl, I1.kept (t' := s1.toks) fun b o e => Heap.get?_push_of_some _ e, turn_list a _, ⟨_, Heap.get?_push_size _ rfl, rfl, rfl⟩, fun b hb => ?_, q⟩
    have e : b = s1.heap.objs.size := by simpa using hb
    subst e
    exact I1.fpOk (Nat.le_refl _) (I1.hok.fresh (Nat.le_refl _))
  · obtain ⟨its, rv, p, hz⟩ := I1.tuple hq
    refine wpAny_pyIter_tuple (show s1.heap.IsTuple a its.toArray from p) ?_
    refine ⟨s1.heap.objs.size, [s1.heap.objs.size], _, _, H1, rfl, I1.kept (t' := s1.toks) fun b o e => Heap.get?_push_of_some _ e, turn_tuple a _, ⟨_, Heap.get?_push_size _ rfl, rfl, rfl⟩, fun b hb => ?_, q⟩
    have e : b = s1.heap.objs.size := by simpa using hb
    subst e
    exact I1.fpOk (Nat.le_refl _) (I1.hok.fresh (Nat.le_refl _))
def srcOf : D → List D → Src
  | .han i, ds => [(i, ds)]
  | _, _ => []
theorem it_key {K : Fg} {F : Hp} {ads : List Addr} {ds : List D} {src : Src} {a : Addr}
    (hk : ∀ F2 ads2 S2 H2, Same F F2 → (∀ (i : Nat) a, ads[i]? = some a → ads2[i]? = some a) → Sim K F2 ads2 S2 H2 → srcOk src S2 → ∃ us, SqL K.K H2 a us ∧ Rps K F2 ads2 ds us) : ItOk K F ads ds src (Itl K.K a) := fun F2 ads2 S2 H2 f2 p2 s2 so => by
  obtain ⟨us, hu, ru⟩ := hk F2 ads2 S2 H2 f2 p2 s2 so
  refine ⟨fun i d hd => ?_, fun i hi => ⟨us, hu, by rw [← ru.length]; exact hi⟩⟩
  obtain ⟨x, hx, rx⟩ := ru.get hd
  refine ⟨⟨us, x, hu, hx⟩, fun y H3 hy => ?_⟩
  obtain ⟨rfl, hy⟩ := hy
  have ey : us[i]? = some y := hy us hu
  rw [hx] at ey; cases ey
  exact ⟨F2, Ext.refl, s2, rx⟩
theorem it_keyT {K : Fg} {F : Hp} {ads : List Addr} {ds : List D} {a : Addr} {vs : List V} (h : SqT K.K F a vs) (r : Rps K F ads ds vs) : ItOk K F ads ds [] (Itt K.K a) := fun F2 ads2 S2 H2 f2 p2 s2 so => by
  have hu : SqT K.K H2 a vs := Sub.tup s2.sub (Same.tup f2 h)
  have ru := r.mono f2 p2
  refine ⟨fun i d hd => ?_, fun i hi => ⟨vs, hu, by rw [← ru.length]; exact hi⟩⟩
  obtain ⟨x, hx, rx⟩ := ru.get hd
  refine ⟨⟨vs, x, hu, hx⟩, fun y H3 hy => ?_⟩
  obtain ⟨rfl, hy⟩ := hy
  have ey : vs[i]? = some y := hy vs hu
  rw [hx] at ey; cases ey
  exact ⟨F2, Ext.refl, s2, rx⟩
/-- a list's standing in every later state -/
theorem lst_later {K : Fg} {F : Hp} {ads : List Addr} {S : Sto} {d : D} {v : V} {ds : List D} (r : Rp K F ads d v) (h : lstOf S d = some ds) : ∃ a, v = .ref a ∧
    ∀ F2 ads2 S2 H2, Same F F2 → (∀ (i : Nat) a, ads[i]? = some a → ads2[i]? = some a) → Sim K F2 ads2 S2 H2 → srcOk (srcOf d ds) S2 → ∃ us, SqL K.K H2 a us ∧ Rps K F2 ads2 ds us := by
  cases r with
  | lst hF rs => cases h; exact ⟨_, rfl, fun F2 ads2 S2 H2 f2 p2 s2 so => ⟨_, SqL.of (s2.sub _ _ (f2 _ _ hF)), rs.mono f2 p2⟩⟩
  | scr hF rs => cases h; exact ⟨_, rfl, fun F2 ads2 S2 H2 f2 p2 s2 so => ⟨_, s2.sub.seq (f2.seq hF), rs.mono f2 p2⟩⟩
  | han ha =>
    refine ⟨_, rfl, fun F2 ads2 S2 H2 f2 p2 s2 so => ?_⟩
    obtain ⟨a', ha', nF, us, hH, rs⟩ := s2.at (show S2[_]? = some (.lst ds) from so.1)
    rw [p2 _ _ ha] at ha'; cases ha'
    exact ⟨us, SqL.of hH, rs⟩
  | _ => cases h
theorem src_now {S : Sto} {d : D} {ds : List D} (h : lstOf S d = some ds) : srcOk (srcOf d ds) S := by
  cases d with
  | han i =>
    unfold lstOf at h
    simp only at h
    split at h
    · rename_i q; cases h; exact ⟨q, trivial⟩
    · cases h
  | _ => trivial
def wIseq (a : WE) : WI := fun env S Q X => a env S (fun d S1 => ∃ ds, seqOf S1 d = some ds ∧ Q ds (srcOf d ds) S1) X
def DI.seq (a : DE) : DI where
  mt c _ e := a.mt c e && noSet e
  wp := wIseq a.wp
  rq := a.rq
  ok X W T tg e h g q := by
    simp only [Bool.and_eq_true] at h
    refine PI.imp (pi_seq (a.ok X W T e h.1 g q)) fun σ H R ⟨env, S, F, ads, Qd, Xd, er, sm, hw, kv, kx⟩ => ?_
    refine ⟨env, S, F, ads, _, Xd, er, sm, hw, fun F1 ads1 S1 H1 d v x1 s1 r1 h1 => ?_, kx⟩
    obtain ⟨ds, hs, hq⟩ := h1
    unfold seqOf at hs
    split at hs
    · rename_i ht
      cases hs
      rw [tupOf_eq ht] at r1 hq
      cases r1 with
      | tup hF rs => exact ⟨_, rfl, .inr ⟨⟨_, Sub.tup s1.sub hF⟩, kv _ _ _ _ _ _ _ x1 s1 (it_keyT hF rs) hq⟩⟩
    · obtain ⟨a, e, hk⟩ := lst_later r1 hs
      obtain ⟨a', vs, e', hq', rs⟩ := lst_sq s1 r1 hs
      subst e; cases e'
      exact ⟨a, rfl, .inl ⟨⟨vs, hq'⟩, kv _ _ _ _ _ _ _ x1 s1 (it_key hk) hq⟩⟩
/-- range -/
def rangeD (lo : Int) (n : Nat) : List D := (List.range n).map fun i => .int (lo + (i : Nat))
theorem range_get {lo : Int} {n i : Nat} {d : D} (h : (rangeD lo n)[i]? = some d) : i < n ∧ d = .int (lo + (i : Nat)) := by
  unfold rangeD at h
  rw [List.getElem?_map] at h
  by_cases hi : i < n
  · rw [List.getElem?_range hi] at h
    exact ⟨hi, (Option.some.inj h).symm⟩
  · rw [List.getElem?_eq_none (by simpa using hi)] at h; cases h
theorem range_len {lo : Int} {n : Nat} : (rangeD lo n).length = n := by unfold rangeD; simp
theorem it_range {K : Fg} {F : Hp} {ads : List Addr} {lo : Int} {n : Nat} : ItOk K F ads (rangeD lo n) [] (Itr lo n) := fun F2 ads2 S2 H2 f2 p2 s2 so => by
  refine ⟨fun i d hd => ?_, fun i hi => ?_⟩
  · obtain ⟨hi, rfl⟩ := range_get hd
    refine ⟨hi, fun x H3 hy => ?_⟩
    obtain ⟨rfl, rfl⟩ := hy
    exact ⟨F2, Ext.refl, s2, .int _⟩
  · rw [range_len] at hi; exact hi
def wR1 (a : WE) : WI := fun env S Q X => a env S (fun d S1 => ∃ j, d = .int j ∧ -(2 ^ 62) ≤ j ∧ j < 2 ^ 62 ∧ Q (rangeD 0 j.toNat) [] S1) X
def wR2 (a b : WE) : WI := fun env S Q X => a env S (fun d S1 => b env S1 (fun d2 S2 => ∃ i j, d = .int i ∧ d2 = .int j ∧ (-(2 ^ 62) ≤ i ∧ i < 2 ^ 62 ∧ -(2 ^ 62) ≤ j ∧ j < 2 ^ 62) ∧ Q (rangeD i (j - i).toNat) [] S2) X) X
def DI.range1 (a : DE) : DI where
  mt c _ e := match e with
    | .Call (.Name x _) [y] [] _ => x == "range" && glB c "range" && noStar y && a.mt c y
    | _ => false
  wp := wR1 a.wp
  rq Z := Z.mg "range" = none ∧ a.rq Z
  ok X W T tg e h g q := by
    split at h
    · simp only [Bool.and_eq_true, beq_iff_eq] at h
      obtain ⟨⟨⟨rfl, h1⟩, h2⟩, h3⟩ := h
      refine PI.imp (pi_range1 (gl_of h1) q.1 (pa_cons (a.ok X W T _ h3 g q.2) pa_nil (starEach_cons h2)) (starEach_cons h2)) fun σ H R ⟨env, S, F, ads, Qd, Xd, er, sm, hw, kv, kx⟩ => ?_
      refine ⟨env, S, F, ads, _, Xd, er, sm, hw, fun F1 ads1 S1 H1 d v x1 s1 r1 h1 => ?_, kx⟩
      obtain ⟨j, rfl, b1, b2, hq⟩ := h1
      cases r1
      exact ⟨j, rfl, b1, b2, kv _ _ _ _ _ _ _ x1 s1 it_range hq⟩
    · cases h
def DI.range2 (a b : DE) : DI where
  mt c _ e := match e with
    | .Call (.Name x _) [y, z] [] _ => x == "range" && glB c "range" && noStar y && a.mt c y && noStar z && b.mt c z
    | _ => false
  wp := wR2 a.wp b.wp
  rq Z := Z.mg "range" = none ∧ a.rq Z ∧ b.rq Z
  ok X W T tg e h g q := by
    split at h
    · simp only [Bool.and_eq_true, beq_iff_eq] at h
      obtain ⟨⟨⟨⟨⟨rfl, h1⟩, h2⟩, h3⟩, h4⟩, h5⟩ := h
      rename_i y z _
      have e2 : starEach [z] X.env = [(false, eval z X.env)] := starEach_cons h4
      refine PI.imp (pi_range2 (gl_of h1) q.1 (pa_cons (a.ok X W T _ h3 g q.2.1) (pa_cons (b.ok X W T _ h5 g q.2.2) pa_nil (starEach_cons h4)) (starEach_cons h2)) (by rw [starEach_cons h2, e2]) e2) fun σ H R ⟨env, S, F, ads, Qd, Xd, er, sm, hw, kv, kx⟩ => ?_
      refine ⟨env, S, F, ads, _, Xd, er, sm, hw, fun F1 ads1 S1 H1 d v x1 s1 r1 h1 => ?_, kx⟩
      refine ⟨env, S1, F1, ads1, _, Xd, er.ext x1, s1, h1, fun F2 ads2 S2 H2 d2 v2 x2 s2 r2 h2 => ?_, kx.ext x1⟩
      obtain ⟨i, j, rfl, rfl, hb, hq⟩ := h2
      cases r1; cases r2
      exact ⟨i, j, rfl, hb, kv _ _ _ _ _ _ _ (x1.trans x2) s2 it_range hq⟩
    · cases h
/-- the signs of a text -/
def wChr (a : WE) : WI := fun env S Q X => a env S (fun d S1 => ∃ z : Str, d = .str z ∧ Q (z.cps.toList.map fun c => .str ⟨#[c]⟩) [] S1) X
theorem it_str {K : Fg} {F : Hp} {ads : List Addr} {z : Str} : ItOk K F ads (z.cps.toList.map fun c => D.str ⟨#[c]⟩) [] (Its z) := fun F2 ads2 S2 H2 f2 p2 s2 so => by
  refine ⟨fun i d hd => ?_, fun i hi => ?_⟩
  · rw [List.getElem?_map] at hd
    cases e : z.cps.toList[i]? with
    | none => rw [e] at hd; cases hd
    | some c =>
      rw [e] at hd
      have hc : z.cps[i]? = some c := by rw [← Array.getElem?_toList]; exact e
      have hi : i < z.cps.size := by
        rw [Array.getElem?_eq_some_iff] at hc; exact hc.1
      refine ⟨hi, fun x H3 hy => ?_⟩
      obtain ⟨rfl, c', e', rfl⟩ := hy
      rw [hc] at e'; cases e'
      have hd' : d = .str ⟨#[c]⟩ := (Option.some.inj hd).symm
      subst hd'
      exact ⟨F2, Ext.refl, s2, .str _⟩
  · have : z.cps.size ≤ i := by simpa using hi
    exact this
def DI.chr (a : DE) : DI where
  mt c _ e := a.mt c e && noSet e
  wp := wChr a.wp
  rq := a.rq
  ok X W T tg e h g q := by
    simp only [Bool.and_eq_true] at h
    refine PI.imp (pi_str (a.ok X W T e h.1 g q)) fun σ H R ⟨env, S, F, ads, Qd, Xd, er, sm, hw, kv, kx⟩ => ?_
    refine ⟨env, S, F, ads, _, Xd, er, sm, hw, fun F1 ads1 S1 H1 d v x1 s1 r1 h1 => ?_, kx⟩
    obtain ⟨z, rfl, hq⟩ := h1
    cases r1
    exact ⟨z, rfl, kv _ _ _ _ _ _ _ x1 s1 it_str hq⟩
/-- zip of two lists or of two tuples -/
def zipD (xs ys : List D) : List D := (xs.zip ys).map fun p => .tup [p.1, p.2]
theorem zip_get {xs ys : List D} {i : Nat} {d : D} (h : (zipD xs ys)[i]? = some d) : ∃ x y, xs[i]? = some x ∧ ys[i]? = some y ∧ d = .tup [x, y] := by
  unfold zipD at h
  rw [List.getElem?_map] at h
  cases e : (xs.zip ys)[i]? with
  | none => rw [e] at h; cases h
  | some p =>
    rw [e] at h
    obtain ⟨e1, e2⟩ := List.getElem?_zip_eq_some.mp e
    exact ⟨p.1, p.2, e1, e2, (Option.some.inj h).symm⟩
theorem zip_len {xs ys : List D} {i : Nat} (h : (zipD xs ys).length ≤ i) : xs.length ≤ i ∨ ys.length ≤ i := by
  unfold zipD at h
  simp only [List.length_map, List.length_zip] at h
  omega
theorem new_pair {K : Fg} {F : Hp} {ads : List Addr} {S : Sto} {H : Hp} {T : Addr} {x y : V} {a b : D} (sm : Sim K F ads S H) (hT : H T = none) (ra : Rp K F ads a x) (rb : Rp K F ads b y) :
    ∃ F3, Ext F ads H F3 ads (upd H T (.tup [x, y])) ∧ Sim K F3 ads S (upd H T (.tup [x, y])) ∧ Rp K F3 ads (.tup [a, b]) (.ref T) := by
  obtain ⟨s2, x2⟩ := sm.frz hT (.tup [x, y])
  exact ⟨_, x2, s2, .tup (SqT.of upd_same) (.cons (ra.ext x2) (.cons (rb.ext x2) .nil))⟩
def wZip (a b : WE) : WI := fun env S Q X => a env S (fun d S1 => b env S1 (fun d2 S2 => ∃ xs ys, ((tupOf d = some xs ∧ tupOf d2 = some ys) ∨ (lstOf S2 d = some xs ∧ lstOf S2 d2 = some ys)) ∧ Q (zipD xs ys) (srcOf d xs ++ srcOf d2 ys) S2) X) X
def isTup : Expr → Bool
  | .Tuple _ _ _ => true
  | _ => false
def DI.zip (a b : DE) : DI where
  mt c tg e := isTup tg && match e with
    | .Call (.Name x _) [y, z] [] _ => x == "zip" && glB c "zip" && noStar y && a.mt c y && noStar z && b.mt c z
    | _ => false
  wp := wZip a.wp b.wp
  rq Z := Z.mg "zip" = none ∧ a.rq Z ∧ b.rq Z
  ok X W T tg e h g q := by
    simp only [Bool.and_eq_true] at h
    obtain ⟨ht, h⟩ := h
    cases tg with
    | Tuple elts kk tpos =>
      split at h
      · simp only [Bool.and_eq_true, beq_iff_eq] at h
        obtain ⟨⟨⟨⟨⟨rfl, h1⟩, h2⟩, h3⟩, h4⟩, h5⟩ := h
        rename_i y z _
        have e2 : starEach [z] X.env = [(false, eval z X.env)] := starEach_cons h4
        refine PI.imp (RZ.pi_zipA (gl_of h1) q.1 (pa_cons (a.ok X W T _ h3 g q.2.1) (pa_cons (b.ok X W T _ h5 g q.2.2) pa_nil (starEach_cons h4)) (starEach_cons h2)) (starEach_cons h2) (star_any (by rw [List.all_cons, h4]; rfl))) fun σ H R ⟨env, S, F, ads, Qd, Xd, er, sm, hw, kv, kx⟩ => ?_
        refine ⟨env, S, F, ads, _, Xd, er, sm, hw, fun F1 ads1 S1 H1 d v x1 s1 r1 h1 => ?_, kx⟩
        refine ⟨env, S1, F1, ads1, _, Xd, er.ext x1, s1, h1, fun F2 ads2 S2 H2 d2 v2 x2 s2 r2 h2 => ?_, kx.ext x1⟩
        obtain ⟨xs, ys, hs, hq⟩ := h2
        have r1 := r1.ext x2
        rcases hs with ⟨t1, t2⟩ | ⟨t1, t2⟩
        · rw [tupOf_eq t1] at r1 hq
          rw [tupOf_eq t2] at r2 hq
          cases r1 with
          | tup f1 g1 =>
            cases r2 with
            | tup f2 g2 =>
              refine ⟨_, _, _, _, rfl, .inr ⟨Sub.tup s2.sub f1, Sub.tup s2.sub f2, kv _ _ _ _ _ _ _ (x1.trans x2) s2 ?_ hq⟩⟩
              intro F3 ads3 S3 H3 f3 p3 s3 so
              have q1 := Sub.tup s3.sub (Same.tup f3 f1)
              have q2 := Sub.tup s3.sub (Same.tup f3 f2)
              have g1 := g1.mono f3 p3
              have g2 := g2.mono f3 p3
              refine ⟨fun i d hd => ?_, fun i hi => ⟨_, _, q1, q2, by rw [← g1.length, ← g2.length]; exact zip_len hi⟩⟩
              obtain ⟨x, y, ex, ey, rfl⟩ := zip_get hd
              obtain ⟨u, hu, ru⟩ := g1.get ex
              obtain ⟨w, hw, rw⟩ := g2.get ey
              refine ⟨⟨_, _, u, w, q1, q2, hu, hw⟩, fun z H4 hy => ?_⟩
              obtain ⟨T, u', w', rfl, hT, rfl, k1, k2⟩ := hy
              have := k1 _ q1; rw [hu] at this; cases this
              have := k2 _ q2; rw [hw] at this; cases this
              exact new_pair s3 hT ru rw
        · obtain ⟨a1, rfl, l1⟩ := lst_later r1 t1
          obtain ⟨a2, rfl, l2⟩ := lst_later r2 t2
          obtain ⟨us, hu, gu⟩ := l1 _ _ _ _ (Same.refl _) (fun _ _ h => h) s2 (src_now t1)
          obtain ⟨ws, hw, gw⟩ := l2 _ _ _ _ (Same.refl _) (fun _ _ h => h) s2 (src_now t2)
          refine ⟨a1, a2, us, ws, rfl, .inl ⟨hu, hw, kv _ _ _ _ _ _ _ (x1.trans x2) s2 ?_ hq⟩⟩
          intro F3 ads3 S3 H3 f3 p3 s3 so
          obtain ⟨us, q1, g1⟩ := l1 _ _ _ _ f3 p3 s3 (srcOk_app so).1
          obtain ⟨ws, q2, g2⟩ := l2 _ _ _ _ f3 p3 s3 (srcOk_app so).2
          refine ⟨fun i d hd => ?_, fun i hi => ⟨_, _, q1, q2, by rw [← g1.length, ← g2.length]; exact zip_len hi⟩⟩
          obtain ⟨x, y, ex, ey, rfl⟩ := zip_get hd
          obtain ⟨u, hu, ru⟩ := g1.get ex
          obtain ⟨w, hw, rw⟩ := g2.get ey
          refine ⟨⟨_, _, u, w, q1, q2, hu, hw⟩, fun z H4 hy => ?_⟩
          obtain ⟨T, u', w', rfl, hT, rfl, k1, k2⟩ := hy
          have := k1 _ q1; rw [hu] at this; cases this
          have := k2 _ q2; rw [hw] at this; cases this
          exact new_pair s3 hT ru rw
      · cases h
    | _ => cases ht
/-! ### targets: names, tuples of names -/
theorem wipe_set {σ : L2.St} {i : Nat} {x : Option V} : ∀ {vs : List Nat}, i ∈ vs → L2.wipe (σ.set i x) vs = L2.wipe σ vs
  | [], h => by cases h
  | v :: vs, h => by
    unfold L2.wipe
    by_cases e : i = v
    · subst e
      by_cases hm : i ∈ vs
      · rw [wipe_set hm]
      · have key : ∀ (us : List Nat) (τ : L2.St), i ∉ us → L2.wipe (τ.set i x) us = (L2.wipe τ us).set i x := by
          intro us
          induction us with
          | nil => intro τ _; rfl
          | cons u us ih =>
            intro τ hn
            simp only [List.mem_cons, not_or] at hn
            show (L2.wipe (τ.set i x) us).set u none = ((L2.wipe τ us).set u none).set i x
            rw [ih τ hn.2, List.set_comm _ _ hn.1]
        rw [key vs σ hm, List.set_set]
    · have hm : i ∈ vs := by
        rcases List.mem_cons.mp h with q | q
        · exact absurd q e
        · exact q
      rw [wipe_set hm]
def tG (K : Fg) (sl : List Nat) (bd : D → Env → Sto → Option Env) : TG := fun v σ H Q => ∃ env S F ads d env', EnvR K F ads env σ ∧ Sim K F ads S H ∧ Rp K F ads d v ∧ bd d env S = some env' ∧
  ∀ σ', EnvR K F ads env' σ' → (∀ vs : List Nat, (∀ i ∈ sl, i ∈ vs) → L2.wipe σ' vs = L2.wipe σ vs) → Q σ' H
structure DG where
  sl : List Nat
  mt : Sc → Expr → Bool
  bd : D → Env → Sto → Option Env
  ok : ∀ (X : Cx) (T : List (Addr × Str)) (e : Expr), mt (scOf X) e = true → X.calm = true → X.N.Nodup → PG X e (tG (kt X T) sl bd)
theorem PG.imp {X : Cx} {e : Expr} {t t' : TG} (h : PG X e t) (q : ∀ v σ H Q, t' v σ H Q → t v σ H Q) : PG X e t' := ⟨fun pins s σ H v u Q I r z => h.run pins s σ H v u Q I r (q _ _ _ _ z)⟩
theorem PG.or {X : Cx} {e : Expr} {t t' : TG} (h : PG X e t) (h' : PG X e t') : PG X e (fun v σ H Q => t v σ H Q ∨ t' v σ H Q) := ⟨fun pins s σ H v u Q I r z => z.elim (h.run pins s σ H v u Q I r) (h'.run pins s σ H v u Q I r)⟩
def locB (c : Sc) (i : Nat) (x : Str) : Bool := c.N[i]? == some x && ((c.sc.names.lookup x == some .local) || (c.sc.names.lookup x == some .cell && c.fn x))
theorem loc_of {X : Cx} {i : Nat} {x : Str} (h : locB (scOf X) i x = true) : X.N[i]? = some x ∧ Loc X.env.scope x ∧ (X.fn x = true ∨ X.env.scope.names.lookup x = some .local) := by
  simp only [locB, Bool.and_eq_true, Bool.or_eq_true, beq_iff_eq] at h
  obtain ⟨h1, h2 | ⟨h2, h3⟩⟩ := h
  · exact ⟨h1, .inl h2, .inr h2⟩
  · exact ⟨h1, .inr h2, .inl h3⟩
def DG.nm (i : Nat) : DG where
  sl := [i]
  mt c e := match e with
    | .Name x _ => locB c i x
    | _ => false
  bd d env _ := some (env.set i (some d))
  ok X T e h hc hN := by
    split at h
    · obtain ⟨h1, h2, h3⟩ := loc_of h
      exact PG.imp (pg_name hN h1 h2 h3) fun v σ H Q ⟨env, S, F, ads, d, env', er, sm, r, hb, k⟩ => by
        cases hb
        exact k _ (er.set r) fun vs hv => wipe_set (hv i (by simp))
    · cases h
def tGs (K : Fg) (sl : List Nat) (bd : List D → Env → Option Env) : TGs := fun vs σ H Q => ∃ env F ads ds env', EnvR K F ads env σ ∧ Rps K F ads ds vs ∧ bd ds env = some env' ∧
  ∀ σ', EnvR K F ads env' σ' → (∀ vs : List Nat, (∀ i ∈ sl, i ∈ vs) → L2.wipe σ' vs = L2.wipe σ vs) → Q σ' H
structure DGs where
  n : Nat
  sl : List Nat
  mt : Sc → List Expr → Bool
  bd : List D → Env → Option Env
  ok : ∀ (X : Cx) (T : List (Addr × Str)) (e : List Expr), mt (scOf X) e = true → X.N.Nodup → PGs X e (tGs (kt X T) sl bd) ∧ (assignEach e X.env).length = n ∧ (assignEach e X.env).findIdx? (·.1) = none
theorem PGs.imp {X : Cx} {e : List Expr} {t t' : TGs} (h : PGs X e t) (q : ∀ v σ H Q, t' v σ H Q → t v σ H Q) : PGs X e t' := ⟨fun pins s σ H v u Q I r z => h.run pins s σ H v u Q I r (q _ _ _ _ z)⟩
def DGs.nil : DGs where
  n := 0
  sl := []
  mt _ e := e.isEmpty
  bd ds env := match ds with
    | [] => some env
    | _ => none
  ok X T e h hN := by
    have e0 : e = [] := by simpa using h
    subst e0
    refine ⟨PGs.imp pgs_nil fun v σ H Q ⟨env, F, ads, ds, env', er, r, hb, k⟩ => ?_, rfl, rfl⟩
    simp only at hb
    split at hb
    · cases hb; cases r; exact ⟨rfl, k σ er fun _ _ => rfl⟩
    · cases hb
def DGs.cons (i : Nat) (r : DGs) : DGs where
  n := r.n + 1
  sl := i :: r.sl
  mt c e := match e with
    | .Name x _ :: es => locB c i x && r.mt c es
    | _ => false
  bd ds env := match ds with
    | d :: ds => r.bd ds (env.set i (some d))
    | _ => none
  ok X T e h hN := by
    split at h
    · simp only [Bool.and_eq_true] at h
      obtain ⟨h1, h2, h3⟩ := loc_of h.1
      obtain ⟨p, l, f⟩ := r.ok X T _ h.2 hN
      refine ⟨PGs.imp (pgs_cons (pg_name hN h1 h2 h3) p rfl) fun v σ H Q ⟨env, F, ads, ds, env', er, rs, hb, k⟩ => ?_, ?_, ?_⟩
      · simp only at hb
        split at hb
        · cases rs with
          | cons ra rt =>
            refine ⟨_, _, rfl, env.set i (some _), F, ads, _, env', er.set ra, rt, hb, fun σ' er' hw => k σ' er' fun vs hv => ?_⟩
            rw [hw vs fun j hj => hv j (List.mem_cons_of_mem _ hj)]
            exact wipe_set (hv i List.mem_cons_self)
        · cases hb
      · show (assignEach _ X.env).length + 1 = _
        rw [l]
      · show ((false, _) :: assignEach _ X.env).findIdx? (·.1) = none
        rw [List.findIdx?_cons]
        simp [f]
    · cases h
def DG.tp (r : DGs) : DG where
  sl := r.sl
  mt c e := match e with
    | .Tuple es _ _ => r.mt c es
    | _ => false
  bd d env S := match seqOf S d with
    | some ds => if ds.length = r.n then r.bd ds env else none
    | none => none
  ok X T e h hc hN := by
    split at h
    · obtain ⟨p, l, f⟩ := r.ok X T _ h hN
      refine PG.imp (PG.or (pg_tup hc p l f) (pg_lst hc p l f)) fun v σ H Q ⟨env, S, F, ads, d, env', er, sm, rd, hb, k⟩ => ?_
      cases hs : seqOf S d with
      | none => simp only [hs] at hb; cases hb
      | some ds =>
        simp only [hs] at hb
        split at hb
        · rename_i hl
          obtain ⟨a, vs, rfl, hq, rs⟩ := seq_sq sm rd hs
          have fin : tGs (kt X T) r.sl r.bd vs σ H Q := ⟨env, F, ads, ds, env', er, rs, hb, k⟩
          rcases hq with hq | hq
          · exact .inr ⟨a, vs, rfl, hq, by rw [← rs.length]; exact hl, fin⟩
          · exact .inl ⟨a, vs, rfl, hq, by rw [← rs.length]; exact hl, fin⟩
        · cases hb
    · cases h
/-! #### DL6 -/
/-! The D layer, part 6: comprehensions. -/
/-- a clause's tests: none or one -/
structure DF where
  mt : Sc → List Expr → Bool
  wp : WT
  rq : Cy → Prop
  ok : ∀ (X : Cx) (W : WX) (T : List (Addr × Str)) (e : List Expr), mt (scOf X) e = true → Good X W → rq (cyOf X T) → PTs X e (tT (kt X T) X.mg W wp)
theorem PTs.imp {X : Cx} {e : List Expr} {t t' : TT} (h : PTs X e t) (q : ∀ σ H Q, t' σ H Q → t σ H Q) : PTs X e t' := ⟨fun pins s σ H Q I z => h.run pins s σ H Q I (q _ _ _ z)⟩
def wYes : WT := fun _ S Q _ => Q true S
def DF.no : DF where
  mt _ e := e.isEmpty
  wp := wYes
  rq _ := True
  ok X W T e h g _ := by
    have e0 : e = [] := by simpa using h
    subst e0
    exact PTs.imp pts_nil fun σ H Q ⟨env, S, F, ads, Qd, Xd, er, sm, hw, kv, kx⟩ => kv _ _ _ _ _ Ext.refl sm hw
def DF.one (t : DT) : DF where
  mt c e := match e with
    | [x] => t.mt c x
    | _ => false
  wp := t.wp
  rq := t.rq
  ok X W T e h g q := by
    split at h
    · exact pts_one (t.ok X W T _ h g q)
    · cases h
def blkSc (c : Sc) (scope : Scope) : Sc := ⟨c.N, relS scope c.sc, fun x => scope.names.lookup x == some .cell⟩
theorem good_blk {X : Cx} {W : WX} (g : Good X W) (s : Shared) (H : Hp) (scope : Scope) (C : Addr) (cl : List (Str × Addr)) (fp : List Addr) : Good (X.blk s H scope (compEnvC scope cl C X.env) fp) (fun _ _ _ _ => False) :=
  ⟨g.calm, g.nd, takes0, PassesOwn.never, g.un, g.dp⟩
def noX : XD := fun _ _ => False
/-- the turns of a comprehension -/
def compGo (bd : D → Env → Sto → Option Env) (t : WT) (e : WE) (env : Env) (src : Src) : List D → Sto → List D → QL → Prop
  | [], S, acc, Q => srcOk src S ∧ Q acc S
  | d :: ds, S, acc, Q => srcOk src S ∧ ∃ env', bd d env S = some env' ∧ t env' S (fun b S1 => if b = true then e env' S1 (fun x S2 => compGo bd t e env src ds S2 (acc ++ [x]) Q) noX else compGo bd t e env src ds S1 acc Q) noX
def wComp (own : List Nat) (bd : D → Env → Sto → Option Env) (i : WI) (t : WT) (e : WE) : WL := fun env S Q X => i env S (fun ds src S1 => ds.length ≤ sizeLine ∧ compGo bd t e (wipeD env own) src ds S1 [] Q) X
theorem noX_kx {K : Fg} {mg : Str → Option Value} {W : WX} {F : Hp} {ads : List Addr} {H : Hp} {σ : L2.St} : KX K mg W F ads H σ noX := fun _ _ _ _ _ _ _ h => h.elim
theorem wipe_wipe {σ : L2.St} {own : List Nat} : ∀ us : List Nat, (∀ i ∈ us, i ∈ own) → L2.wipe (L2.wipe σ us) own = L2.wipe σ own
  | [], _ => rfl
  | u :: us, h => by
    show L2.wipe ((L2.wipe σ us).set u none) own = _
    rw [wipe_set (h u List.mem_cons_self)]
    exact wipe_wipe us fun i hi => h i (List.mem_cons_of_mem _ hi)
theorem seqComp {K : Fg} {mg : Str → Option Value} {W : WX} {own sl : List Nat} {bd : D → Env → Sto → Option Env} {i : WI} {t : WT} {e : WE} (hsl : ∀ j ∈ sl, j ∈ own) {σ : L2.St} {H : Hp} {Q : VK} (h : tL K mg W (wComp own bd i t e) σ H Q) :
    tLc (tI K mg W i) (tG K sl bd) (tT K mg (fun _ _ _ _ => False) t) (tE K mg (fun _ _ _ _ => False) e) own σ H Q := by
  obtain ⟨env, S, F, ads, Qd, Xd, er, sm, hw, kv, kx⟩ := h
  refine ⟨env, S, F, ads, _, Xd, er, sm, hw, fun F1 ads1 S1 H1 ds src J x1 s1 it h1 => ?_, kx⟩
  intro D hD
  obtain ⟨hz, h1⟩ := h1
  have er1 := (er.ext x1).wipe own
  refine ⟨fun i m H => m = ds.length - i ∧ i ≤ ds.length ∧ ∃ F2 ads2 S2 acc accv, Ext F1 ads1 H1 F2 ads2 (DLay.er H D) ∧ Sim K F2 ads2 S2 (DLay.er H D) ∧ F2 D = none ∧ H D = some (.lst accv) ∧ Rps K F2 ads2 acc accv ∧ acc.length ≤ i ∧ compGo bd t e (wipeD env own) src (ds.drop i) S2 acc Qd,
    ⟨ds.length, rfl, Nat.zero_le _, F1, ads1, S1, [], [], ?_, ?_, s1.sub.free hD, upd_same, .nil, Nat.le_refl _, by rw [List.drop_zero]; exact h1⟩, ?_⟩
  · rw [er_upd, er_none hD]; exact Ext.refl
  · rw [er_upd, er_none hD]; exact s1
  rintro i m H2 ⟨rfl, hi, F2, ads2, S2, acc, accv, x2, s2, nF, eD, ra, hl, hc⟩
  have nD : D ∉ ads2 := fun q => by
    obtain ⟨u, z⟩ := s2.there q
    rw [er_same] at z; cases z
  have s2u : Sim K F2 ads2 S2 H2 := s2.uner
  by_cases hlt : i < ds.length
  · have hdrop : ds.drop i = ds[i] :: ds.drop (i + 1) := List.drop_eq_getElem_cons hlt
    rw [hdrop] at hc
    obtain ⟨so, env', hb, ht⟩ := hc
    obtain ⟨go, yl⟩ := (it F2 ads2 S2 H2 x2.sub x2.pre s2u so).1 i ds[i] (List.getElem?_eq_getElem hlt)
    refine .inr ⟨go, fun H' => ∃ F3 ads3 S3 acc accv, Ext F1 ads1 H1 F3 ads3 (DLay.er H' D) ∧ Sim K F3 ads3 S3 (DLay.er H' D) ∧ F3 D = none ∧ H' D = some (.lst accv) ∧ Rps K F3 ads3 acc accv ∧ acc.length ≤ i + 1 ∧ compGo bd t e (wipeD env own) src (ds.drop (i + 1)) S3 acc Qd,
      fun H' hN => ⟨_, by omega, rfl, hlt, hN⟩, fun x H' hy => ?_⟩
    obtain ⟨F3, x3, s3, rx⟩ := yl x H' hy
    have er3 := (er1.ext x2).ext x3
    have eD3 := x3.kep D _ eD nD rfl
    have nF3 := x3.fno D _ eD nD rfl nF
    refine ⟨_, S2, F3, ads2, _, env', er3, s3, rx, hb, fun σ' er' hw => ⟨(hw own hsl).trans (wipe_wipe own fun _ h => h), env', S2, F3, ads2, _, noX, er', s3, ht, fun F4 ads4 S4 H4 b x4 s4 h4 => ?_, noX_kx⟩⟩
    have x34 := x3.trans x4
    have eD4 := x34.kep D _ eD nD rfl
    have nF4 := x34.fno D _ eD nD rfl nF
    have nD4 : D ∉ ads4 := fun q => (x34.new D q).elim nD fun z => by cases z _ eD
    cases b with
    | false =>
      exact ⟨F4, ads4, S4, acc, accv, x2.trans x34.er, s4.er nD4 nF4 ⟨_, eD4⟩, nF4, eD4, ra.ext x34, by omega, h4⟩
    | true =>
      refine ⟨env', S4, F4, ads4, _, noX, er'.ext x4, s4, h4, fun F5 ads5 S5 H5 d v x5 s5 r5 h5 => ?_, noX_kx⟩
      have x35 := x34.trans x5
      have eD5 := x35.kep D _ eD nD rfl
      have nF5 := x35.fno D _ eD nD rfl nF
      have nD5 : D ∉ ads5 := fun q => (x35.new D q).elim nD fun z => by cases z _ eD
      refine ⟨accv, eD5, ?_, F5, ads5, S5, acc ++ [d], accv ++ [v], ?_, ?_, nF5, upd_same, (ra.ext x35).append (.cons r5 .nil), by simp; omega, h5⟩
      · rw [← ra.length]; omega
      · rw [er_upd]; exact x2.trans x35.er
      · rw [er_upd]; exact s5.er nD5 nF5 ⟨_, eD5⟩
  · have e0 : ds.drop i = [] := List.drop_eq_nil_of_le (by omega)
    rw [e0] at hc
    obtain ⟨so, hq⟩ := hc
    refine .inl ⟨(it F2 ads2 S2 H2 x2.sub x2.pre s2u so).2 i (by omega), ?_⟩
    have := kv F2 ads2 S2 (DLay.er H2 D) acc accv D (x1.trans x2) s2 ra er_same hq
    rw [upd_er eD] at this
    exact this
def compB (own : List (Str × Nat)) (g : DG) (i : DI) (t : DF) (e : DE) (c : Sc) : Expr → Bool
  | .ListComp elt [⟨tg, iter, ifs, a⟩] scope _ => a == 0 && i.mt c tg iter && noSet iter && blkC c.N c.sc scope own && g.sl.all (fun j => (own.map (·.2)).contains j) && g.mt (blkSc c scope) tg && t.mt (blkSc c scope) ifs && e.mt (blkSc c scope) elt
  | _ => false
theorem folded_no {e : Expr} (h : noSet e = true) (env : PySem.Env) (x : Value) : foldedSetIterable e env x = pure x := by
  cases e <;> first | rfl | (simp [noSet] at h)
/-- what pe_lc and ps_setLc ask -/
structure CompOk (X : Cx) (W : WX) (T : List (Addr × Str)) (own : List (Str × Nat)) (g : DG) (i : DI) (t : DF) (e : DE) (elt tg iter : Expr) (ifs : List Expr) (scope : Scope) : Prop where
  hi : PI X tg iter (tI (kt X T) X.mg W i.wp)
  ok : BlkOk X.N X.env.scope scope own
  hg : ∀ (s : Shared) (H : Hp) (C : Addr) (cl : List (Str × Addr)) (fp : List Addr), PG (X.blk s H scope (compEnvC scope cl C X.env) fp) tg (tG (kt X T) g.sl g.bd)
  ht : ∀ (s : Shared) (H : Hp) (C : Addr) (cl : List (Str × Addr)) (fp : List Addr), PTs (X.blk s H scope (compEnvC scope cl C X.env) fp) ifs (tT (kt X T) X.mg (fun _ _ _ _ => False) t.wp)
  he : ∀ (s : Shared) (H : Hp) (C : Addr) (cl : List (Str × Addr)) (fp : List Addr), PE (X.blk s H scope (compEnvC scope cl C X.env) fp) elt (tE (kt X T) X.mg (fun _ _ _ _ => False) e.wp)
  hs : ∀ x, foldedSetIterable iter X.env x = pure x
  sl : ∀ j ∈ g.sl, j ∈ own.map (·.2)
theorem comp_ok {X : Cx} {W : WX} {T : List (Addr × Str)} {own : List (Str × Nat)} {g : DG} {i : DI} {t : DF} {e : DE} {elt tg iter : Expr} {ifs : List Expr} {scope : Scope} {a : Int} {pos : Pos} (h : compB own g i t e (scOf X) (.ListComp elt [⟨tg, iter, ifs, a⟩] scope pos) = true)
    (gd : Good X W) (q : i.rq (cyOf X T) ∧ t.rq (cyOf X T) ∧ e.rq (cyOf X T)) : a = 0 ∧ CompOk X W T own g i t e elt tg iter ifs scope := by
  unfold compB at h
  simp only [Bool.and_eq_true, beq_iff_eq] at h
  obtain ⟨⟨⟨⟨⟨⟨⟨h0, h1⟩, h2⟩, h3⟩, h4⟩, h5⟩, h6⟩, h7⟩ := h
  refine ⟨h0, i.ok X W T tg iter h1 gd q.1, blkOk_by h3, fun s H C cl fp => ?_, fun s H C cl fp => ?_, fun s H C cl fp => ?_, folded_no h2 X.env, fun j hj => ?_⟩
  · exact g.ok (X.blk s H scope (compEnvC scope cl C X.env) fp) T tg h5 gd.calm gd.nd
  · exact t.ok (X.blk s H scope (compEnvC scope cl C X.env) fp) _ T ifs h6 (good_blk gd s H scope C cl fp) q.2.1
  · exact e.ok (X.blk s H scope (compEnvC scope cl C X.env) fp) _ T elt h7 (good_blk gd s H scope C cl fp) q.2.2
  · have := List.all_eq_true.mp h4 j hj
    simpa using this
def DL.comp (own : List (Str × Nat)) (g : DG) (i : DI) (t : DF) (e : DE) : DL where
  mt c x := compB own g i t e c x
  wp := wComp (own.map (·.2)) g.bd i.wp t.wp e.wp
  rq Z := i.rq Z ∧ t.rq Z ∧ e.rq Z
  ok X W T x h gd q := by
    have h' := h
    unfold compB at h'
    split at h'
    · obtain ⟨rfl, c⟩ := comp_ok h gd q
      exact PE.imp (pe_lc gd.calm gd.nd c.hi c.ok c.hg c.ht c.he c.hs) fun σ H Q z => seqComp c.sl z
    · cases h'
/-! #### DL7 -/
/-! The D layer, part 7: statements. -/
structure DEnds where
  nx : Env → Sto → Prop
  rt : D → Sto → Prop
  xq : Str → Env → Sto → Prop
  bk : Env → Sto → Prop := fun _ _ => False
  ct : Env → Sto → Prop := fun _ _ => False
abbrev WS := DEnds → Env → Sto → Prop
section
variable (K : Fg) (mg : Str → Option Value) (W : WX)
def KN (F : Hp) (ads : List Addr) (H : Hp) (P : Env → Sto → Prop) (Q : L2.St → Hp → Prop) : Prop := ∀ F' ads' S' H' env' σ', Ext F ads H F' ads' H' → Sim K F' ads' S' H' → EnvR K F' ads' env' σ' → P env' S' → Q σ' H'
def KZ (F : Hp) (ads : List Addr) (H : Hp) (P : Str → Env → Sto → Prop) : Prop := ∀ F' ads' S' H' env' σ' x, Ext F ads H F' ads' H' → Sim K F' ads' S' H' → EnvR K F' ads' env' σ' → P x env' S' → W ((mg x).getD .none) none σ' H'
structure KE (F : Hp) (ads : List Addr) (H : Hp) (E : DEnds) (D : Ends) : Prop where
  nx : KN K F ads H E.nx D.nx
  rt : KV K F ads H E.rt D.rt
  bk : KN K F ads H E.bk D.bk
  ct : KN K F ads H E.ct D.ct
  xq : KZ K mg W F ads H E.xq
def tS (w : WS) : TS := fun D σ H => ∃ env S F ads E, EnvR K F ads env σ ∧ Sim K F ads S H ∧ w E env S ∧ KE K mg W F ads H E D
end
section
variable {K : Fg} {mg : Str → Option Value} {W : WX} {F F' : Hp} {ads ads' : List Addr} {H H' : Hp} {σ : L2.St} {E : DEnds} {D : Ends}
theorem KN.ext {P : Env → Sto → Prop} {Q : L2.St → Hp → Prop} (k : KN K F ads H P Q) (x : Ext F ads H F' ads' H') : KN K F' ads' H' P Q := fun _ _ _ _ _ _ y s r h => k _ _ _ _ _ _ (x.trans y) s r h
theorem KZ.ext {P : Str → Env → Sto → Prop} (k : KZ K mg W F ads H P) (x : Ext F ads H F' ads' H') : KZ K mg W F' ads' H' P := fun _ _ _ _ _ _ _ y s r h => k _ _ _ _ _ _ _ (x.trans y) s r h
theorem KE.ext (k : KE K mg W F ads H E D) (x : Ext F ads H F' ads' H') : KE K mg W F' ads' H' E D := ⟨k.nx.ext x, k.rt.ext x, k.bk.ext x, k.ct.ext x, k.xq.ext x⟩
theorem KZ.kx {P : Str → Env → Sto → Prop} {env : Env} (k : KZ K mg W F ads H P) (er : EnvR K F ads env σ) : KX K mg W F ads H σ (fun x S => P x env S) := fun _ _ _ _ _ x s h => k _ _ _ _ _ _ _ x s (er.ext x) h
end
/-- the surroundings of a def's body -/
structure FnK (X : Cx) : Prop where
  kind : X.env.scope.kind = .function
  stk : X.stack = X.env :: X.outer
  frm : X.env.frame = some X.env.locals
  ex : X.ex = []
structure DS where
  mt : Sc → Stmt → Bool
  wp : WS
  rq : Cy → Prop
  ok : ∀ (X : Cx) (W : WX) (T : List (Addr × Str)) (s : Stmt), mt (scOf X) s = true → Good X W → FnK X → rq (cyOf X T) → PS X s (tS (kt X T) X.mg W wp)
structure DB where
  mt : Sc → List Stmt → Bool
  wp : WS
  rq : Cy → Prop
  ok : ∀ (X : Cx) (W : WX) (T : List (Addr × Str)) (s : List Stmt), mt (scOf X) s = true → Good X W → FnK X → rq (cyOf X T) → PSs X s (tS (kt X T) X.mg W wp)
theorem PS.imp {X : Cx} {e : Stmt} {t t' : TS} (h : PS X e t) (q : ∀ D σ H, t' D σ H → t D σ H) : PS X e t' := ⟨fun pins s σ H D I z => h.run pins s σ H D I (q _ _ _ z)⟩
theorem PSs.imp {X : Cx} {e : List Stmt} {t t' : TS} (h : PSs X e t) (q : ∀ D σ H, t' D σ H → t D σ H) : PSs X e t' := ⟨fun pins s σ H D I z => h.run pins s σ H D I (q _ _ _ z)⟩
def wSkip : WS := fun E env S => E.nx env S
def DB.nil : DB where
  mt _ s := s.isEmpty
  wp := wSkip
  rq _ := True
  ok X W T s h g _ _ := by
    have e0 : s = [] := by simpa using h
    subst e0
    exact PSs.imp pss_nil fun D σ H ⟨env, S, F, ads, E, er, sm, hw, k⟩ => k.nx _ _ _ _ _ _ Ext.refl sm er hw
def wSeq (a b : WS) : WS := fun E env S => a { E with nx := b E } env S
def DB.cons (a : DS) (b : DB) : DB where
  mt c s := match s with
    | x :: xs => a.mt c x && b.mt c xs
    | [] => false
  wp := wSeq a.wp b.wp
  rq Z := a.rq Z ∧ b.rq Z
  ok X W T s h g f q := by
    split at h
    · simp only [Bool.and_eq_true] at h
      refine PSs.imp (pss_cons (a.ok X W T _ h.1 g f q.1) (b.ok X W T _ h.2 g f q.2)) fun D σ H ⟨env, S, F, ads, E, er, sm, hw, k⟩ => ?_
      refine ⟨env, S, F, ads, { E with nx := b.wp E }, er, sm, hw, fun F1 ads1 S1 H1 env1 σ1 x1 s1 r1 h1 => ?_, k.rt, k.bk, k.ct, k.xq⟩
      exact ⟨env1, S1, F1, ads1, E, r1, s1, h1, k.ext x1⟩
    · cases h
def noComp : Expr → Bool
  | .ListComp _ _ _ _ => false
  | .SetComp _ _ _ _ => false
  | .DictComp _ _ _ _ _ => false
  | _ => true
theorem noComp_sw {e : Expr} {t : Option Expr} {l : Nat} {env : PySem.Env} (h : noComp e = true) : swapsWith e t l env = pure false := by
  cases e <;> first | rfl | (simp [noComp] at h)
def wExpr (a : WE) : WS := fun E env S => a env S (fun _ S1 => E.nx env S1) (fun x S1 => E.xq x env S1)
def DS.expr (a : DE) : DS where
  mt c s := match s with
    | .Expr e _ => a.mt c e && noComp e
    | _ => false
  wp := wExpr a.wp
  rq := a.rq
  ok X W T s h g f q := by
    split at h
    · simp only [Bool.and_eq_true] at h
      refine PS.imp (ps_expr (a.ok X W T _ h.1 g q) (noComp_sw h.2)) fun D σ H ⟨env, S, F, ads, E, er, sm, hw, k⟩ => ?_
      exact ⟨env, S, F, ads, _, _, er, sm, hw, fun F1 ads1 S1 H1 d v x1 s1 r1 h1 => k.nx _ _ _ _ _ _ x1 s1 (er.ext x1) h1, k.xq.kx er⟩
    · cases h
def wRet (a : WE) : WS := fun E env S => a env S E.rt (fun x S1 => E.xq x env S1)
def DS.ret (a : DE) : DS where
  mt c s := match s with
    | .Return (some e) _ => a.mt c e
    | _ => false
  wp := wRet a.wp
  rq := a.rq
  ok X W T s h g f q := by
    split at h
    · refine PS.imp (ps_ret (a.ok X W T _ h g q)) fun D σ H ⟨env, S, F, ads, E, er, sm, hw, k⟩ => ?_
      exact ⟨env, S, F, ads, _, _, er, sm, hw, k.rt, k.xq.kx er⟩
    · cases h
def DS.pass : DS where
  mt _ s := match s with
    | .Pass _ => true
    | _ => false
  wp := wSkip
  rq _ := True
  ok X W T s h g f q := by
    split at h
    · exact PS.imp ps_pass fun D σ H ⟨env, S, F, ads, E, er, sm, hw, k⟩ => k.nx _ _ _ _ _ _ Ext.refl sm er hw
    · cases h
def wCont : WS := fun E env S => E.ct env S
def DS.cont : DS where
  mt _ s := match s with
    | .Continue _ => true
    | _ => false
  wp := wCont
  rq _ := True
  ok X W T s h g f q := by
    split at h
    · exact PS.imp ps_continue fun D σ H ⟨env, S, F, ads, E, er, sm, hw, k⟩ => k.ct _ _ _ _ _ _ Ext.refl sm er hw
    · cases h
/-! ### assignments -/
def wSet (i : Nat) (a : WE) : WS := fun E env S => a env S (fun d S1 => E.nx (env.set i (some d)) S1) (fun x S1 => E.xq x env S1)
theorem seqSet {K : Fg} {mg : Str → Option Value} {W : WX} {i : Nat} {a : WE} {D : Ends} {σ : L2.St} {H : Hp} (h : tS K mg W (wSet i a) D σ H) : tAsg (tE K mg W a) (gName i) D σ H := by
  obtain ⟨env, S, F, ads, E, er, sm, hw, k⟩ := h
  exact ⟨env, S, F, ads, _, _, er, sm, hw, fun F1 ads1 S1 H1 d v x1 s1 r1 h1 => k.nx _ _ _ _ _ _ x1 s1 ((er.ext x1).set r1) h1, k.xq.kx er⟩
def DS.set (i : Nat) (a : DE) : DS where
  mt c s := match s with
    | .Assign [.Name x _] e _ => locB c i x && a.mt c e && noComp e
    | _ => false
  wp := wSet i a.wp
  rq := a.rq
  ok X W T s h g f q := by
    split at h
    · simp only [Bool.and_eq_true] at h
      obtain ⟨h1, h2, h3⟩ := loc_of h.1.1
      exact PS.imp (ps_set g.nd h1 h2 (a.ok X W T _ h.1.2 g q) (noComp_sw h.2) h3) fun D σ H z => seqSet z
    · cases h
/-- name = [.. for ..], frozen (the name is a plain local, on one line) -/
def setCB (i : Nat) (own : List (Str × Nat)) (g : DG) (it : DI) (t : DF) (e : DE) (c : Sc) : Stmt → Bool
  | .Assign [.Name y py] (.ListComp elt gs scope pos) _ => c.N[i]? == some y && (c.sc.names.lookup y == some .local) && (py.line == pos.line) && !(scope.names.any fun (n, k) => n == y && (k == .local || k == .cell)) && compB own g it t e c (.ListComp elt gs scope pos)
  | _ => false
theorem setC_ok {X : Cx} {W : WX} {T : List (Addr × Str)} {i : Nat} {own : List (Str × Nat)} {g : DG} {it : DI} {t : DF} {e : DE} {s : Stmt} (h : setCB i own g it t e (scOf X) s = true) (gd : Good X W) (f : X.env.scope.kind = .function)
    (q : it.rq (cyOf X T) ∧ t.rq (cyOf X T) ∧ e.rq (cyOf X T)) : PS X s (tAsg (tL (kt X T) X.mg W (wComp (own.map (·.2)) g.bd it.wp t.wp e.wp)) (gName i)) := by
  unfold setCB at h
  split at h
  · rename_i y py elt gs scope pos spos
    simp only [Bool.and_eq_true, beq_iff_eq, Bool.not_eq_true'] at h
    obtain ⟨⟨⟨⟨h1, h2⟩, h3⟩, h4⟩, h5⟩ := h
    have h5' := h5
    unfold compB at h5'
    split at h5'
    · rename_i heq
      cases heq
      obtain ⟨rfl, c⟩ := comp_ok h5 gd q
      have z := ps_setLc (py := py) (pos := pos) (spos := spos) gd.calm gd.nd h1 h2 (sw_true f h2 (by simpa using h3) h4) c.hi c.ok c.hg c.ht c.he c.hs
      exact PS.imp z fun D σ H z => seqComp c.sl z
    · cases h5'
  · cases h
def DS.setC (i : Nat) (own : List (Str × Nat)) (g : DG) (it : DI) (t : DF) (e : DE) : DS where
  mt c s := setCB i own g it t e c s
  wp := wSet i (wLst (wComp (own.map (·.2)) g.bd it.wp t.wp e.wp))
  rq Z := it.rq Z ∧ t.rq Z ∧ e.rq Z
  ok X W T s h gd f q := PS.imp (setC_ok h gd f.kind q) fun D σ H z => seqLst (seqSet z)
/-- .. as a list of the store -/
def DS.setCT (i : Nat) (own : List (Str × Nat)) (g : DG) (it : DI) (t : DF) (e : DE) : DS where
  mt c s := setCB i own g it t e c s
  wp := wSet i (wThw (wComp (own.map (·.2)) g.bd it.wp t.wp e.wp))
  rq Z := it.rq Z ∧ t.rq Z ∧ e.rq Z
  ok X W T s h gd f q := PS.imp (setC_ok h gd f.kind q) fun D σ H z => seqThw (seqSet z)
/-! a, b = .. -/
def isStar : Expr → Bool
  | .Starred .. => true
  | _ => false
def swNm (sc : Scope) (ts : List Expr) : List Str := ts.filterMap fun
  | .Name id pos => if sc.names.lookup id == some .local && pos.line == (ts.head?.map (·.pos.line)).getD 0 then some id else none
  | _ => none
def swCore (sc : Scope) (ts vs : List Expr) : Option (Option (List Str)) :=
  if (!(ts.length == 2 || ts.length == 3) || vs.length != ts.length || ScopeKind.function != ScopeKind.function) = true then some none else
  if (vs.any fun | .Starred .. => true | _ => false) = true then some none else
  if ((swNm sc ts).length != ts.length || (swNm sc ts).eraseDups.length != (swNm sc ts).length) = true then some none else
  if vs.all (foldedForSure 8) = true then some none else
  if vs.all (constantsAlone 8) = true then none else some (some (swNm sc ts))
theorem swCore_of {ts vs : List Expr} {k k2 : Nat} {p p2 : Pos} {env : PySem.Env} {r : Option (List Str)} (hk : env.scope.kind = .function) (h : swCore env.scope ts vs = some r) : swappedStores [.Tuple ts k p] (.Tuple vs k2 p2) env = pure r := by
  have hb : env.blockKind = .function := by unfold Env.blockKind; rw [hk]; rfl
  unfold swappedStores
  dsimp only
  rw [hb]
  unfold swCore at h
  split at h
  · rename_i c; cases h; exact if_pos c
  rename_i c; refine (if_neg c).trans ?_; clear c
  split at h
  · rename_i c; cases h; exact if_pos c
  rename_i c; refine (if_neg c).trans ?_; clear c
  split at h
  · rename_i c; cases h; exact if_pos c
  rename_i c
  refine (if_neg c).trans ?_; clear c
  split at h
  · rename_i c; cases h; exact if_pos c
  rename_i c; refine (if_neg c).trans ?_; clear c
  split at h
  · cases h
  rename_i c; cases h; exact if_neg c
def swNo (sc : Scope) (tg e : Expr) : Bool := match tg, e with
  | .Tuple ts _ _, .Tuple vs _ _ => swCore sc ts vs == some none
  | .List _ _, .Tuple _ _ _ => false
  | _, _ => true
theorem swNo_of {tg e : Expr} {env : PySem.Env} (hk : env.scope.kind = .function) (h : swNo env.scope tg e = true) : swappedStores [tg] e env = pure none := by
  cases tg with
  | Tuple ts a b =>
    cases e with
    | Tuple vs c d => exact swCore_of hk (by simpa [swNo] using h)
    | _ => rfl
  | List ts a =>
    cases e with
    | Tuple vs c d => simp [swNo] at h
    | _ => rfl
  | _ => cases e <;> rfl
def isName : Expr → Bool
  | .Name _ _ => true
  | _ => false
/-- a target of names (a tuple of them), no swap -/
def wAsg (bd : D → Env → Sto → Option Env) (a : WE) : WS := fun E env S => a env S (fun d S1 => ∃ env', bd d env S1 = some env' ∧ E.nx env' S1) (fun x S1 => E.xq x env S1)
def DS.asg (t : DG) (a : DE) : DS where
  mt c s := match s with
    | .Assign [tg] e _ => t.mt c tg && a.mt c e && noComp e && swNo c.sc tg e && noStar tg
    | _ => false
  wp := wAsg t.bd a.wp
  rq := a.rq
  ok X W T s h g f q := by
    split at h
    · rename_i tg e pos
      simp only [Bool.and_eq_true] at h
      obtain ⟨⟨⟨⟨h1, h2⟩, h3⟩, h4⟩, h5⟩ := h
      refine PS.imp (ps_asg (a.ok X W T _ h2 g q) (t.ok X T _ h1 g.calm g.nd) (noComp_sw h3) (swNo_of f.kind h4) (by cases tg <;> first | rfl | (simp [noStar] at h5))) fun D σ H ⟨env, S, F, ads, E, er, sm, hw, k⟩ => ?_
      refine ⟨env, S, F, ads, _, _, er, sm, hw, fun F1 ads1 S1 H1 d v x1 s1 r1 h1 => ?_, k.xq.kx er⟩
      obtain ⟨env', hb, hq⟩ := h1
      exact ⟨env, S1, F1, ads1, d, env', er.ext x1, s1, r1, hb, fun σ' er' _ => k.nx _ _ _ _ _ _ x1 s1 er' hq⟩
    · cases h
/-- a, b = x, y: two plain locals -/
def wPar (i j : Nat) (a b : WE) : WS := fun E env S => a env S (fun d S1 => b env S1 (fun d2 S2 => E.nx ((env.set i (some d)).set j (some d2)) S2) (fun x S2 => E.xq x env S2)) (fun x S1 => E.xq x env S1)
def parB (i j : Nat) (a b : DE) (c : Sc) : Stmt → Bool
  | .Assign [.Tuple [.Name x px, .Name y py] kt pt] (.Tuple [u, v] k2 pt2) _ => c.N[i]? == some x && c.N[j]? == some y && i != j && (c.sc.names.lookup x == some .local) && (c.sc.names.lookup y == some .local) &&
      noStar u && noStar v && a.mt c u && b.mt c v && swCore c.sc [.Name x px, .Name y py] [u, v] == some (some [x, y])
  | _ => false
def DS.par (i j : Nat) (a b : DE) : DS where
  mt c s := parB i j a b c s
  wp := wPar i j a.wp b.wp
  rq Z := a.rq Z ∧ b.rq Z
  ok X W T s h g f q := by
    unfold parB at h
    split at h
    · rename_i x px y py kt pt u v k2 pt2 pos
      simp only [Bool.and_eq_true, beq_iff_eq, bne_iff_ne, ne_eq] at h
      obtain ⟨⟨⟨⟨⟨⟨⟨⟨⟨h1, h2⟩, h3⟩, h4⟩, h5⟩, h6⟩, h7⟩, h8⟩, h9⟩, h10⟩ := h
      refine PS.imp (ps_par g.calm g.nd h1 h2 h3 h4 h5 (pa_cons (a.ok X W T _ h8 g q.1) (pa_cons (b.ok X W T _ h9 g q.2) pa_nil (starEach_cons h7)) (starEach_cons h6)) (swCore_of f.kind h10)) fun D σ H ⟨env, S, F, ads, E, er, sm, hw, k⟩ => ?_
      refine ⟨env, S, F, ads, _, _, er, sm, hw, fun F1 ads1 S1 H1 d v x1 s1 r1 h1 => ?_, k.xq.kx er⟩
      refine ⟨env, S1, F1, ads1, _, _, er.ext x1, s1, h1, fun F2 ads2 S2 H2 d2 v2 x2 s2 r2 h2 => ?_, (k.xq.kx er).ext x1⟩
      exact ⟨v, v2, rfl, k.nx _ _ _ _ _ _ (x1.trans x2) s2 (((er.ext (x1.trans x2)).set (r1.ext x2)).set r2) h2⟩
    · cases h
/-- a, b, c = x, y, z -/
def wPar3 (i j l : Nat) (a b c : WE) : WS := fun E env S => a env S (fun d S1 => b env S1 (fun d2 S2 => c env S2 (fun d3 S3 => E.nx (((env.set i (some d)).set j (some d2)).set l (some d3)) S3) (fun x S2 => E.xq x env S2)) (fun x S2 => E.xq x env S2)) (fun x S1 => E.xq x env S1)
/-! ### o[i] = e, an object of the store -/
def wSub (a o b : WE) : WS := fun E env S => a env S (fun d S1 => o env S1 (fun x S2 => b env S2 (fun y S3 => ∃ h k j ds, x = .han h ∧ y = .int k ∧ S3[h]? = some (.lst ds) ∧ ixN ds.length k = some j ∧ E.nx env (S3.set h (.lst (ds.set j d)))) (fun x S3 => E.xq x env S3)) (fun x S2 => E.xq x env S2)) (fun x S1 => E.xq x env S1)
def tgSub (c : Sc) (o b : DE) : Expr → Bool
  | .Subscript x y _ => o.mt c x && b.mt c y && plainIx y
  | _ => false
theorem assign_sub {o i : Expr} {pos : Pos} {env : PySem.Env} (h : plainIx i = true) (v : Value) : assign (.Subscript o i pos) env v = (do
      let ov ← holding [v] (eval o env)
      let iv ← holding [v, ov] (eval i env)
      standAt pos
      holding [v, ov, iv] (setItem ov iv v)
      release [v, ov, iv] []) := by
  cases i <;> first | rfl | (simp [plainIx] at h)
def DS.sub (o b a : DE) : DS where
  mt c s := match s with
    | .Assign [tg] e _ => tgSub c o b tg && a.mt c e
    | _ => false
  wp := wSub a.wp o.wp b.wp
  rq Z := a.rq Z ∧ o.rq Z ∧ b.rq Z
  ok X W T s h g f q := by
    split at h
    · rename_i tg e pos
      simp only [Bool.and_eq_true] at h
      obtain ⟨h1, h2⟩ := h
      unfold tgSub at h1
      split at h1
      · simp only [Bool.and_eq_true] at h1
        obtain ⟨⟨h3, h4⟩, h5⟩ := h1
        refine PS.imp (ps_asg (a.ok X W T _ h2 g q.1) (pg_sub (o.ok X W T _ h3 g q.2.1) (b.ok X W T _ h4 g q.2.2) set_list (assign_sub h5)) (by cases e <;> rfl) (by cases e <;> rfl) rfl) fun D σ H ⟨env, S, F, ads, E, er, sm, hw, k⟩ => ?_
        refine ⟨env, S, F, ads, _, _, er, sm, hw, fun F1 ads1 S1 H1 d v x1 s1 r1 h1 => ?_, k.xq.kx er⟩
        refine ⟨env, S1, F1, ads1, _, _, er.ext x1, s1, h1, fun F2 ads2 S2 H2 d2 v2 x2 s2 r2 h2 => ?_, (k.xq.kx er).ext x1⟩
        refine ⟨env, S2, F2, ads2, _, _, er.ext (x1.trans x2), s2, h2, fun F3 ads3 S3 H3 d3 v3 x3 s3 r3 h3 => ?_, (k.xq.kx er).ext (x1.trans x2)⟩
        obtain ⟨hd, kk, j, ds, rfl, rfl, hS, hj, hq⟩ := h3
        cases r3
        cases r2.ext x3 with
        | han ha =>
          obtain ⟨a', ha', nF, us, hH, rs⟩ := s3.at hS
          rw [ha] at ha'; cases ha'
          refine ⟨_, us, kk, j, rfl, rfl, hH, by rw [← rs.length]; exact hj, ?_⟩
          have r1' := r1.ext (x2.trans x3)
          obtain ⟨s4, x4⟩ := s3.put ha nF (.lst (us.set j v)) (o := .lst (ds.set j d)) ⟨nF, _, upd_same, rs.set r1' j⟩
          have xx := ((x1.trans x2).trans x3).trans x4
          exact k.nx _ _ _ _ _ _ xx s4 (er.ext xx) hq
      · cases h1
    · cases h
/-! ### if, while, for, raise -/
def wIf (t : WT) (a b : WS) : WS := fun E env S => t env S (fun k S1 => if k = true then a E env S1 else b E env S1) (fun x S1 => E.xq x env S1)
def DS.iff (t : DT) (a b : DB) : DS where
  mt c s := match s with
    | .If x y z _ => t.mt c x && a.mt c y && b.mt c z
    | _ => false
  wp := wIf t.wp a.wp b.wp
  rq Z := t.rq Z ∧ a.rq Z ∧ b.rq Z
  ok X W T s h g f q := by
    split at h
    · simp only [Bool.and_eq_true] at h
      refine PS.imp (ps_if (t.ok X W T _ h.1.1 g q.1) (a.ok X W T _ h.1.2 g f q.2.1) (b.ok X W T _ h.2 g f q.2.2)) fun D σ H ⟨env, S, F, ads, E, er, sm, hw, k⟩ => ?_
      refine ⟨env, S, F, ads, _, _, er, sm, hw, fun F1 ads1 S1 H1 b x1 s1 h1 => ?_, k.xq.kx er⟩
      cases b with
      | true => exact ⟨env, S1, F1, ads1, E, er.ext x1, s1, h1, k.ext x1⟩
      | false => exact ⟨env, S1, F1, ads1, E, er.ext x1, s1, h1, k.ext x1⟩
    · cases h
def whileGo (t : WT) (b : WS) (E : DEnds) : Nat → Env → Sto → Prop
  | 0, _, _ => False
  | n + 1, env, S => t env S (fun k S1 => if k = true then b { E with nx := whileGo t b E n, ct := whileGo t b E n, bk := E.nx } env S1 else E.nx env S1) (fun x S1 => E.xq x env S1)
def wWhile (t : WT) (b : WS) : WS := fun E env S => ∃ n, whileGo t b E n env S
def DS.while (t : DT) (b : DB) : DS where
  mt c s := match s with
    | .While x y [] _ => t.mt c x && b.mt c y
    | _ => false
  wp := wWhile t.wp b.wp
  rq Z := t.rq Z ∧ b.rq Z
  ok X W T s h g f q := by
    split at h
    · simp only [Bool.and_eq_true] at h
      refine PS.imp (ps_while g.own (t.ok X W T _ h.1 g q.1) (b.ok X W T _ h.2 g f q.2)) fun D σ H ⟨env, S, F, ads, E, er, sm, hw, k⟩ => ?_
      obtain ⟨n, hw⟩ := hw
      refine ⟨fun m σ' H' => ∃ env' S' F' ads', Ext F ads H F' ads' H' ∧ EnvR (kt X T) F' ads' env' σ' ∧ Sim (kt X T) F' ads' S' H' ∧ whileGo t.wp b.wp E m env' S', ⟨n, env, S, F, ads, Ext.refl, er, sm, hw⟩, ?_⟩
      rintro m σ1 H1 ⟨env1, S1, F1, ads1, x1, er1, s1, hw1⟩
      cases m with
      | zero => exact hw1.elim
      | succ m =>
        have k1 := k.ext x1
        refine ⟨env1, S1, F1, ads1, _, _, er1, s1, hw1, fun F2 ads2 S2 H2 b2 x2 s2 h2 => ?_, k1.xq.kx er1⟩
        cases b2 with
        | false => exact k1.nx _ _ _ _ _ _ x2 s2 (er1.ext x2) h2
        | true =>
          have k2 := k1.ext x2
          have nxt : KN (kt X T) F2 ads2 H2 (whileGo t.wp b.wp E m) (fun σ' H' => ∃ env' S' F' ads', Ext F ads H F' ads' H' ∧ EnvR (kt X T) F' ads' env' σ' ∧ Sim (kt X T) F' ads' S' H' ∧ whileGo t.wp b.wp E m env' S') :=
            fun F3 ads3 S3 H3 env3 σ3 x3 s3 er3 h3 => ⟨env3, S3, F3, ads3, (x1.trans x2).trans x3, er3, s3, h3⟩
          exact ⟨_, fun σ' H' hN => ⟨m, Nat.lt_succ_self m, hN⟩, env1, S2, F2, ads2, { E with nx := whileGo t.wp b.wp E m, ct := whileGo t.wp b.wp E m, bk := E.nx }, er1.ext x2, s2, h2, nxt, k2.rt, k2.nx, nxt, k2.xq⟩
    · cases h
def forGo (bd : D → Env → Sto → Option Env) (b : WS) (E : DEnds) (src : Src) : List D → Env → Sto → Prop
  | [], env, S => srcOk src S ∧ E.nx env S
  | d :: ds, env, S => srcOk src S ∧ ∃ env', bd d env S = some env' ∧ b { E with nx := forGo bd b E src ds, ct := forGo bd b E src ds, bk := E.nx } env' S
def wFor (bd : D → Env → Sto → Option Env) (i : WI) (b : WS) : WS := fun E env S => i env S (fun ds src S1 => forGo bd b E src ds env S1) (fun x S1 => E.xq x env S1)
def DS.for (t : DG) (i : DI) (b : DB) : DS where
  mt c s := match s with
    | .For tg it y [] _ => t.mt c tg && i.mt c tg it && noSet it && b.mt c y
    | _ => false
  wp := wFor t.bd i.wp b.wp
  rq Z := i.rq Z ∧ b.rq Z
  ok X W T s h g f q := by
    split at h
    · simp only [Bool.and_eq_true] at h
      obtain ⟨⟨⟨h1, h2⟩, h3⟩, h4⟩ := h
      refine PS.imp (ps_for g.own g.calm (i.ok X W T _ _ h2 g q.1) (t.ok X T _ h1 g.calm g.nd) (b.ok X W T _ h4 g f q.2) (folded_no h3 X.env)) fun D σ H ⟨env, S, F, ads, E, er, sm, hw, k⟩ => ?_
      refine ⟨env, S, F, ads, _, _, er, sm, hw, fun F1 ads1 S1 H1 ds src J x1 s1 it h1 => ?_, k.xq.kx er⟩
      refine ⟨fun i m σ' H' => m = ds.length - i ∧ i ≤ ds.length ∧ ∃ env' S' F' ads', Ext F1 ads1 H1 F' ads' H' ∧ EnvR (kt X T) F' ads' env' σ' ∧ Sim (kt X T) F' ads' S' H' ∧ forGo t.bd b.wp E src (ds.drop i) env' S',
        ⟨ds.length, rfl, Nat.zero_le _, env, S1, F1, ads1, Ext.refl, er.ext x1, s1, by rw [List.drop_zero]; exact h1⟩, ?_⟩
      rintro i m σ2 H2 ⟨rfl, hi, env2, S2, F2, ads2, x2, er2, s2, hw2⟩
      have k2 := k.ext (x1.trans x2)
      by_cases hlt : i < ds.length
      · have hdrop : ds.drop i = ds[i] :: ds.drop (i + 1) := List.drop_eq_getElem_cons hlt
        rw [hdrop] at hw2
        obtain ⟨so, env', hb, hw2⟩ := hw2
        obtain ⟨go, yl⟩ := (it F2 ads2 S2 H2 x2.sub x2.pre s2 so).1 i ds[i] (List.getElem?_eq_getElem hlt)
        refine .inr ⟨go, fun σ' H' => ∃ env' S' F' ads', Ext F1 ads1 H1 F' ads' H' ∧ EnvR (kt X T) F' ads' env' σ' ∧ Sim (kt X T) F' ads' S' H' ∧ forGo t.bd b.wp E src (ds.drop (i + 1)) env' S', fun σ' H' hN => ⟨_, by omega, rfl, hlt, hN⟩, fun x H' hy => ?_⟩
        obtain ⟨F3, x3, s3, rx⟩ := yl x H' hy
        have k3 := k2.ext x3
        refine ⟨env2, S2, F3, ads2, _, env', er2.ext x3, s3, rx, hb, fun σ' er' _ => ?_⟩
        have nxt : KN (kt X T) F3 ads2 H' (forGo t.bd b.wp E src (ds.drop (i + 1))) (fun σ' H' => ∃ env' S' F' ads', Ext F1 ads1 H1 F' ads' H' ∧ EnvR (kt X T) F' ads' env' σ' ∧ Sim (kt X T) F' ads' S' H' ∧ forGo t.bd b.wp E src (ds.drop (i + 1)) env' S') :=
          fun F4 ads4 S4 H4 env4 σ4 x4 s4 er4 h4 => ⟨env4, S4, F4, ads4, (x2.trans x3).trans x4, er4, s4, h4⟩
        exact ⟨env', S2, F3, ads2, { E with nx := forGo t.bd b.wp E src (ds.drop (i + 1)), ct := forGo t.bd b.wp E src (ds.drop (i + 1)), bk := E.nx }, er', s3, hw2, nxt, k3.rt, k3.nx, nxt, k3.xq⟩
      · have e0 : ds.drop i = [] := List.drop_eq_nil_of_le (by omega)
        rw [e0] at hw2
        obtain ⟨so, hq⟩ := hw2
        exact .inl ⟨(it F2 ads2 S2 H2 x2.sub x2.pre s2 so).2 i (by omega), k2.nx _ _ _ _ _ _ Ext.refl s2 er2 hq⟩
    · cases h
/-- what is known of an own exception class -/
def ExcOk (Z : Cy) (x : Str) : Prop := ∃ C, Z.mg x = some (.ref C) ∧ PySem.W.excIn Z.K C [.type "ValueError", .type "Exception", .type "BaseException", .type "object"] "ValueError.__new__" = true ∧ PySem.W.keepIn Z.K (.ref C) = true ∧ PySem.W.subIn Z.K (.ref C) (.type "BaseException") = some true ∧ PySem.W.typeIn Z.K (.ref C) = some (.type "type")
def wRaise (x : Str) : WS := fun E env S => E.xq x env S
def DS.raise (x : Str) : DS where
  mt c s := match s with
    | .Raise (some (.Call (.Name y _) [.Constant (.str _) _ _] [] _)) none _ => y == x && glB c x && !(x == ("__debug__" : Str))
    | _ => false
  wp := wRaise x
  rq Z := ExcOk Z x
  ok X W T s h g f q := by
    split at h
    · simp only [Bool.and_eq_true, beq_iff_eq, Bool.not_eq_true'] at h
      obtain ⟨⟨rfl, h1⟩, h2⟩ := h
      obtain ⟨C, gC, xC, kC, bC, tC⟩ := q
      refine PS.imp (ps_raise g.calm g.tk (pmk_own PySem.F.excBase_ValueError xC gC kC (raises_own bC tC) (gl_of h1) h2)) fun D σ H ⟨env, S, F, ads, E, er, sm, hw, k⟩ => ?_
      have := k.xq _ _ _ _ _ _ _ Ext.refl sm er hw
      rw [show X.mg _ = some (.ref C) from gC] at this
      exact this
    · cases h
/-! #### DL8 -/
/-! The D layer, part 8: defs, their promises, the law's end. -/
/-- a def's promise over data -/
abbrev Ct := List D → Sto → QD → XD → Prop
def spOf (K : Fg) (mg : Str → Option Value) (n : Nat) (C : Ct) : Sp := fun vs H Q E => ∃ ds S F ads Qd Xd, ds.length = n ∧ Sim K F ads S H ∧ Rps K F ads ds vs ∧ C ds S Qd Xd ∧ KV K F ads H Qd Q ∧
  (∀ F' ads' S' H' x, Ext F ads H F' ads' H' → Sim K F' ads' S' H' → Xd x S' → E ((mg x).getD .none) none H')
/-- a def of the text keeps a promise, with room for k calls one in another -/
def FnAt (P : Program) (w : World) (K : Fg) (mg : Str → Option Value) (base : Heap) (k : Nat) (f : Str) (n : Nat) (C : Ct) : Prop :=
  ∃ a fd ps, FnOk P w K.K mg base (L2.CX P w) k a fd ps (spOf K mg n C) ∧ mg f = some (.ref a) ∧ PySem.W.keepIn K.K (.ref a) = true ∧ L2.Binds K.K fd ps []
theorem FnAt.mono {P : Program} {w : World} {K : Fg} {mg : Str → Option Value} {base : Heap} {j k n : Nat} {f : Str} {C : Ct} (h : FnAt P w K mg base j f n C) (hk : j ≤ k) : FnAt P w K mg base k f n C :=
  let ⟨a, fd, ps, F, r⟩ := h
  ⟨a, fd, ps, F.mono hk, r⟩
theorem FnAt.imp {P : Program} {w : World} {K : Fg} {mg : Str → Option Value} {base : Heap} {k n : Nat} {f : Str} {C C' : Ct} (h : FnAt P w K mg base k f n C) (q : ∀ ds S Q X, C' ds S Q X → C ds S Q X) : FnAt P w K mg base k f n C' :=
  let ⟨a, fd, ps, F, r⟩ := h
  ⟨a, fd, ps, F.imp fun vs H Q E ⟨ds, S, F, ads, Qd, Xd, hl, sm, rs, hc, kv, kx⟩ => ⟨ds, S, F, ads, Qd, Xd, hl, sm, rs, q _ _ _ _ hc, kv, kx⟩, r⟩
def CallOk (Z : Cy) (f : Str) (n : Nat) (C : Ct) : Prop := ∃ k, FnAt Z.prog Z.w ⟨Z.K, Z.T⟩ Z.mg Z.base k f n C ∧ Room k Z.A
def wCall (C : Ct) (a : WL) : WE := fun env S Q X => a env S (fun ds S1 => C ds S1 Q X) X
def DE.call (f : Str) (C : Ct) (a : DA) : DE where
  mt c e := match e with
    | .Call (.Name y _) (e :: es) [] _ => y == f && glB c f && !(f == ("__debug__" : Str)) && a.mt c (e :: es)
    | _ => false
  wp := wCall C a.wp
  rq Z := CallOk Z f a.n C ∧ a.rq Z
  ok X W T e h g q := by
    split at h
    · simp only [Bool.and_eq_true, beq_iff_eq, Bool.not_eq_true'] at h
      obtain ⟨⟨⟨rfl, h1⟩, h2⟩, h3⟩ := h
      obtain ⟨⟨k, ⟨ad, fd, ps, F, hm, hk, hb⟩, hr⟩, q2⟩ := q
      obtain ⟨pa, hs⟩ := a.ok X W T _ h3 g q2
      simp only [List.all_cons, Bool.and_eq_true] at hs
      refine PE.imp (pe_callS (E := L2.WE W) F hr (gl_of h1) hm hk hb (fun σ => passAt g.tk σ) pa h2 (starEach_cons hs.1) (star_any hs.2)) fun σ H Q ⟨env, S, F, ads, Qd, Xd, er, sm, hw, kv, kx⟩ => ?_
      refine ⟨env, S, F, ads, _, Xd, er, sm, hw, fun F1 ads1 S1 H1 ds vs x1 s1 r1 l1 h1 => ?_, kx⟩
      exact ⟨ds, S1, F1, ads1, Qd, Xd, l1, s1, r1, h1, kv.ext x1, fun F2 ads2 S2 H2 x x2 s2 h2 => kx _ _ _ _ _ (x1.trans x2) s2 h2⟩
    · cases h
theorem pe_callS0 {X : Cx} {CX : CXT} {k : Nat} {f : Addr} {fd : FuncData} {ps : List Str} {sp : Sp} {E : L2.St → XK} {x : Str} {p pos : Pos} (F : FnOk X.prog X.w X.K X.mg X.base CX k f fd ps sp) (hr : Room k X.A) (hg : Gl X x) (hm : X.mg x = some (.ref f)) (hk : PySem.W.keepIn X.K (.ref f) = true) (hb : L2.Binds X.K fd ps []) (hx : ∀ σ, PassesAt CX X σ (E σ))
    (hdb : (x == ("__debug__" : Str)) = false) : PE X (.Call (.Name x p) [] [] pos) (tCallS sp E tNil) := by
  refine ⟨fun pins s σ H Q I h => ?_⟩
  refine wpAny_Call_Name_kw (ld_glob I hg hm ?_ hdb)
  exact PySem.W.callWith_K0 I.kIn hk (run_fnS (us := []) F hr hb (hx σ) I .nil h)
def wCall0 (C : Ct) : WE := fun env S Q X => C [] S Q X
def DE.call0 (f : Str) (C : Ct) : DE where
  mt c e := match e with
    | .Call (.Name y _) [] [] _ => y == f && glB c f && !(f == ("__debug__" : Str))
    | _ => false
  wp := wCall0 C
  rq Z := CallOk Z f 0 C
  ok X W T e h g q := by
    split at h
    · simp only [Bool.and_eq_true, beq_iff_eq, Bool.not_eq_true'] at h
      obtain ⟨⟨rfl, h1⟩, h2⟩ := h
      obtain ⟨k, ⟨ad, fd, ps, F, hm, hk, hb⟩, hr⟩ := q
      refine PE.imp (pe_callS0 (E := L2.WE W) F hr (gl_of h1) hm hk hb (fun σ => passAt g.tk σ) h2) fun σ H Q ⟨env, S, F, ads, Qd, Xd, er, sm, hw, kv, kx⟩ => ?_
      exact ⟨[], S, F, ads, Qd, Xd, rfl, sm, .nil, hw, kv, kx⟩
    · cases h
/-! ### a def -/
def startD (n : Nat) (ds : List D) : Env := ds.map some ++ List.replicate (n - ds.length) none
theorem start_r {K : Fg} {F : Hp} {ads : List Addr} {N : List Str} {ds : List D} {vs : List V} (r : Rps K F ads ds vs) : EnvR K F ads (startD N.length ds) (L2.start N vs) := by
  unfold startD L2.start
  refine ⟨by simp [r.length], fun i d h => ?_⟩
  by_cases hi : i < ds.length
  · rw [List.getElem?_append_left (by simpa using hi), List.getElem?_map] at h
    cases e : ds[i]? with
    | none => rw [e] at h; cases h
    | some d' =>
      rw [e] at h
      have : d' = d := by simpa using h
      subst this
      obtain ⟨v, hv, rv⟩ := r.get e
      refine ⟨v, ?_, rv⟩
      rw [List.getElem?_append_left (by simp; rw [← r.length]; exact hi), List.getElem?_map, hv]
      rfl
  · rw [List.getElem?_append_right (by simpa using hi)] at h
    exfalso
    rw [List.getElem?_replicate] at h
    split at h <;> cases h
/-- what a body means as a promise -/
def ctOf (n : Nat) (b : DB) : Ct := fun ds S Q X => b.wp { nx := fun _ S' => Q .non S', rt := Q, xq := fun x _ S' => X x S' } (startD n ds) S
theorem fn_at {P : Program} {w : World} {K : Fg} {mg : Str → Option Value} {base : Heap} {x : Str} {st : Stmt} {f : Addr} {fd : FuncData} {N ps : List Str} {k n : Nat} {b : DB} (F : Fun K.K x x st f fd) (S : FnScope N ps (defScope st)) (hg : mg x = some (.ref f)) (hb : L2.Binds K.K fd ps []) (hn : ps.length = n)
    (hm : b.mt ⟨N, defScope st, fun _ => true⟩ (defBody st) = true) (hq : ∀ A cd, Room k A → b.rq ⟨P, w, K.K, mg, base, A, cd, x ++ ".<locals>.", K.T⟩) : FnAt P w K mg base (k + 1) x n (ctOf N.length b) := by
  refine ⟨f, fd, ps, F.okX S (fun vs H Q E ⟨ds, S, F, ads, Qd, Xd, hl, sm, rs, _⟩ => by rw [← rs.length, hl, hn]) (fun cdv A outer s H vs Q E hr hsp => ?_), hg, F.kp, hb⟩
  obtain ⟨ds, S0, F0, ads, Qd, Xd, hl, sm, rs, hc, kv, kx⟩ := hsp
  have gd : Good (cxOf (L2.CX P w) P w K.K mg base N x (defScope st) f cdv A outer s H E) (fun cls d _ H => E cls d H) :=
    ⟨rfl, S.nd, takes_of rfl rfl rfl rfl, passes_of rfl, by have := hr.un; show (A.deeper _).units + 200 < cLine; omega, by have := hr.dp; show (A.deeper _).depth + 5 < recursionLimit; omega⟩
  refine ⟨_, b.ok _ _ K.T _ hm gd ⟨S.kind, rfl, rfl, rfl⟩ (hq _ _ hr), ?_⟩
  refine ⟨startD N.length ds, S0, F0, ads, _, start_r rs, sm, hc, fun F1 ads1 S1 H1 env1 σ1 x1 s1 _ h1 => kv _ _ _ _ _ _ x1 s1 .non h1, kv, fun _ _ _ _ _ _ _ _ _ h => h.elim, fun _ _ _ _ _ _ _ _ _ h => h.elim, fun F1 ads1 S1 H1 env1 σ1 x x1 s1 _ h1 => kx _ _ _ _ _ x1 s1 h1⟩
/-- the law's own promise -/
def cLaw : Ct := fun ds S Q _ => ∃ ns : List Int, ds = [.scr (ns.map .int)] ∧ ns.length ≤ 63 ∧ S = [] ∧ ∀ S', Q (.bl true) S'
def scrF (H : Hp) (a : Addr) : Hp := fun b => if b = a then (match H a with | some (.lst xs) => some (.lst xs) | some (.frz o u) => some (.frz o u) | _ => none) else none
theorem scrF_some {H : Hp} {a b : Addr} {o : HO} (h : scrF H a b = some o) : b = a ∧ H b = some o ∧ isTb o = false := by
  unfold scrF at h
  split at h
  · rename_i e
    subst e
    split at h
    · rename_i q; cases h; exact ⟨rfl, q, rfl⟩
    · rename_i q; cases h; exact ⟨rfl, q, rfl⟩
    · cases h
  · cases h
theorem scrF_sq {K : PySem.W.Frag} {H : Hp} {a : Addr} {xs : List V} (h : SqL K H a xs) : SqL K (scrF H a) a xs := by
  rcases h with (h | ⟨o, h⟩) | h
  · refine .inl (.inl ?_)
    unfold scrF
    rw [if_pos rfl, h]
  · refine .inl (.inr ⟨o, ?_⟩)
    unfold scrF
    rw [if_pos rfl, h]
  · exact .inr h
theorem law_fin {K : Fg} {mg : Str → Option Value} {H F : Hp} {a : Addr} {ns : List Int} (hl : ns.length ≤ 63) (sF : Sub F H) (t1 : ∀ p ∈ K.T, F p.1 = some (.tbl #[.str p.2 0])) (t2 : ∀ b m, F b = some (.tbl m) → ∃ q, (b, q) ∈ K.T ∧ m = #[.str q 0]) (hF : SqL K.K F a (ns.map V.int)) :
    spOf K mg 1 cLaw [.ref a] H (fun v _ => v = .bl true) fun _ _ _ => False := by
  refine ⟨[.scr (ns.map .int)], [], F, [], fun d _ => d = .bl true, fun _ _ => False, rfl, ⟨sF, t1, t2, rfl, .nil, fun _ _ _ h => by simp at h⟩, .cons (.scr hF (Rps.ofInts ns)) .nil, ⟨ns, rfl, hl, rfl, fun _ => rfl⟩, fun F' ads' S' H' d v _ _ r h => ?_, fun _ _ _ _ _ _ _ h => h⟩
  subst h
  cases r
  rfl
theorem scrF_sub {H : Hp} {a : Addr} : Sub (scrF H a) H := fun b o h => by
  obtain ⟨rfl, e, t⟩ := scrF_some h
  cases o with
  | tbl m => cases t
  | _ => exact e
/-- .. where nothing is tracked but the script -/
theorem law_sp {K : PySem.W.Frag} {mg : Str → Option Value} {H : Hp} {a : Addr} {ns : List Int} (hl : ns.length ≤ 63) (hS : SqL K H a (ns.map V.int)) : spOf ⟨K, []⟩ mg 1 cLaw [.ref a] H (fun v _ => v = .bl true) fun _ _ _ => False :=
  law_fin (K := ⟨K, []⟩) hl scrF_sub (fun _ h => by cases h) (fun b m h => by obtain ⟨_, _, t⟩ := scrF_some h; cases t) (scrF_sq hS)
/-- .. with one table of code objects -/
theorem law_spT {K : PySem.W.Frag} {mg : Str → Option Value} {H : Hp} {a P : Addr} {q : Str} {ns : List Int} (hl : ns.length ≤ 63) (hS : SqL K H a (ns.map V.int)) (hP : H P = some (.tbl #[])) (hK : K.lookup P = none) : spOf ⟨K, [(P, q)]⟩ mg 1 cLaw [.ref a] H (fun v _ => v = .bl true) fun _ _ _ => False := by
  have ne : P ≠ a := fun e => by
    subst e
    rcases hS with (h | ⟨o, h⟩) | ⟨o, _, _, h, _⟩
    · rw [hP] at h; cases h
    · rw [hP] at h; cases h
    · rw [hK] at h; cases h
  refine law_fin (K := ⟨K, [(P, q)]⟩) (F := upd (scrF H a) P (.tbl #[.str q 0])) hl (fun b o h => ?_) (fun p hp => ?_) (fun b m h => ?_) ?_
  · by_cases e : b = P
    · subst e
      rw [upd_same] at h
      cases h
      exact ⟨q, 0, rfl, LamX.TabS.nil hP⟩
    · rw [upd_ne e] at h
      exact scrF_sub b o h
  · have e : p = (P, q) := by simpa using hp
    subst e
    exact upd_same
  · by_cases e : b = P
    · subst e
      rw [upd_same] at h
      cases h
      exact ⟨q, by simp, rfl⟩
    · rw [upd_ne e] at h
      obtain ⟨_, _, t⟩ := scrF_some h; cases t
  · rcases scrF_sq hS with (h | ⟨o, h⟩) | h
    · exact .inl (.inl (by rw [upd_ne (fun e => ne e.symm)]; exact h))
    · exact .inl (.inr ⟨o, by rw [upd_ne (fun e => ne e.symm)]; exact h⟩)
    · exact .inr h
/-! #### DL9 -/
/-! The D layer, part 9: enumerate of a tuple or a list. -/
open AutoSeq1 (wpAny_loadPart')
theorem meets_enumerate_newT (l : Addr) (items : Array Value) (n : Nat) (dct : Option Addr) (sl : Array (Option Value)) :
    Meets (Builtin.«enumerate.__new__» ⟨[.type "enumerate", .ref l], []⟩) (fun _ R s => s.heap.get? l = some { cls := .type "tuple", dict := dct, data := .seq items n, slots := sl } ∧
      R (.ok (.ret (.ref (s.heap.push { cls := .type "tuple_iterator", data := .fields #[.ref l, .int 0 0] }).objs.size)))
        { s with heap := (s.heap.push { cls := .type "tuple_iterator", data := .fields #[.ref l, .int 0 0] }).push { cls := .type "enumerate", data := .fields #[.none, .bool false, .ref s.heap.objs.size, rawInt 0, .none, .none] } }) :=
  .of_wp fun prog w A R s h => by
    obtain ⟨hp, g, d, tk, os⟩ := s; obtain ⟨hl, h⟩ := h
    have hsub := sub_enumerate
    have hL : Heap.IsTuple (Shared.heap ⟨hp, g, d, tk, os⟩) l items := ⟨_, hl, rfl, n, rfl⟩
    wp_walk using wpAny_loadPart' hl
    refine wpAny_stack_any fun st => wpAny_pure ?_
    split
    · rename_i c _ _ _ _ _
      cases (c == Value.type "enumerate")
      · wp_walk using wpAny_loadPart' hl, wpAny_pyIter_tuple hL
        exact ⟨_, rfl, h⟩
      · wp_walk using wpAny_loadPart' hl, wpAny_pyIter_tuple hL
        exact ⟨_, rfl, h⟩
    · wp_walk using wpAny_loadPart' hl, wpAny_pyIter_tuple hL
      exact ⟨_, rfl, h⟩
theorem call_enumerate_tuple {prog : Program} {w : World} {A : Around} {E : Value → Shared → Prop} {s : Shared} {l : Addr} {items : Array Value} {Q : Value → Shared → Prop} (hL : s.heap.IsTuple l items)
    (h : ∀ h', IsEnum h' (s.heap.objs.size + 1) s.heap.objs.size 0 .none → h'.IsTupleIter s.heap.objs.size l 0 → h'.objs.size = s.heap.objs.size + 2 →
      (∀ b o, s.heap.get? b = some o → h'.get? b = some o) → Q (.ref (s.heap.objs.size + 1)) { s with heap := h' }) :
    wpAny (model prog w) A (call (.type "enumerate") [.ref l]) Q E s := by
  obtain ⟨⟨c, dct, dt, sl⟩, hl, hc, n, hd⟩ := hL
  replace hc : c = .type "tuple" := hc
  replace hd : dt = .seq items n := hd
  subst hc hd
  refine callType_new F.called_enumerate (by decide) (F.typeCall_enumerate_1 _) (F.newCall_enumerate_1 _) (fun obj => F.args_object_init_2 obj _) F.entry_enumerate_new
    (meets_enumerate_newT l items n dct sl) ⟨hl, ?_⟩
  have hz : (s.heap.push { cls := .type "tuple_iterator", data := .fields #[.ref l, .int 0 0] }).objs.size = s.heap.objs.size + 1 := Heap.size_push ..
  show _ ∧ _
  rw [hz]
  have he : IsEnum ((s.heap.push { cls := .type "tuple_iterator", data := .fields #[.ref l, .int 0 0] }).push
      { cls := .type "enumerate", data := .fields #[.none, .bool false, .ref s.heap.objs.size, rawInt 0, .none, .none] }) (s.heap.objs.size + 1) s.heap.objs.size 0 .none := by
    have := Heap.get?_push_size (s.heap.push { cls := .type "tuple_iterator", data := .fields #[.ref l, .int 0 0] })
      (o := { cls := .type "enumerate", data := .fields #[.none, .bool false, .ref s.heap.objs.size, rawInt 0, .none, .none] }) rfl
    rw [hz] at this; exact this
  refine ⟨⟨_, he, rfl⟩, h _ he ⟨_, Heap.get?_push_of_some _ (Heap.get?_push_size _ rfl), rfl, rfl⟩ (by rw [Heap.size_push, hz]) fun b o x => Heap.get?_push_of_some _ (Heap.get?_push_of_some _ x)⟩
theorem pyNext_enumT_end {prog : Program} {w : World} {A : Around} {E : Value → Shared → Prop} {s : Shared} {e it l : Addr} {i : Nat} {items : Array Value} {old : Value} {Q : Option Value → Shared → Prop} (hh : A.handled = none)
    (he : IsEnum s.heap e it i old) (hit : s.heap.IsTupleIter it l i) (hl : s.heap.IsTuple l items) (hx : items[i]? = none)
    (hQ : ∀ h', Heap.ExtBut it s.heap h' → Q none { s with heap := h' }) : wpAny (model prog w) A (pyNext (.ref e)) Q E s := by
  have hT : s.TypeIs (.ref e) "enumerate" := ⟨_, he, rfl⟩
  unfold pyNext
  refine wpAny_bind (wpAny_attempt (wpAny_callSpecial?_slot (name := Str.ofString "__next__") hT F.slot_enumerate_next
    (wpAny_call_entry F.slot_enumerate_next hT F.entry_enumerate_next ?_ (F.args_enumerate_next_1 _))))
  show wpAny _ _ (field (.ref e) 2 >>= _) _ _ _
  refine wpAny_bind (wpAny_field he rfl (x := .ref it) rfl ?_)
  refine wpAny_bind (wpAny_nextOf_tuple_end hh hit hl hx fun h' x he' hx' => ?_)
  obtain ⟨o, ho, hc⟩ := hx'
  refine wpAny_bind (wpAny_isInstance (T := "StopIteration") (b := true) ⟨o, ho, hc⟩ isSubtype_stop ?_)
  exact wpAny_pure (hQ _ he')
/-- the tuple at a, the items in new pairs with their places -/
def IteT (K : PySem.W.Frag) (a : Addr) : It :=
  ⟨fun i H => ∃ (xs : List V) (x : V), SqT K H a xs ∧ xs[i]? = some x, fun i H v H' => ∃ T x, v = .ref T ∧ H T = none ∧ H' = upd H T (.tup [.int (i : Nat), x]) ∧ ∀ xs, SqT K H a xs → xs[i]? = some x, fun i H => ∃ xs, SqT K H a xs ∧ xs.length ≤ i⟩
theorem turn_enumT {P : Program} {w : World} {K : PySem.W.Frag} {elts : List Expr} {kk : Nat} {tpos : Pos} (a e it : Addr) (hei : e ≠ it) (hia : it ≠ a) (hea : e ≠ a) :
    Turn P w K (.Tuple elts kk tpos) (IteT K a) [e, it] e (fun i h => (∃ old, IsEnum h e it ((i : Nat) : Int) old) ∧ h.IsTupleIter it a i ∧ e ≠ it) where
  mem := by simp
  obj := fun i h st b hb => by
    obtain ⟨⟨old, he⟩, ⟨o, ho, hc, hd⟩, _⟩ := st
    have e' : b = e ∨ b = it := by simpa using hb
    rcases e' with z | z
    · rw [z]; exact ⟨_, he, fun v q => nomatch q⟩
    · rw [z]; exact ⟨o, ho, fun v q => by rw [hd] at q; cases q⟩
  keep := fun i h h' st k => let ⟨⟨old, he⟩, hi, hne⟩ := st; ⟨⟨old, k e (by simp) _ he⟩, hi.at fun o q => k it (by simp) o q, hne⟩
  item := by
    intro X hP hw hK hc i pins s σ H E I hf st hg
    subst hP hw hK
    obtain ⟨⟨old, he⟩, hit, hne⟩ := st
    obtain ⟨xs, x, hq, hx⟩ := hg
    obtain ⟨its, rv, p, hz⟩ := I.tuple hq
    obtain ⟨u, hu, ru⟩ := rv.get hx
    have hel : e < s.heap.objs.size := Heap.lt_size he
    have hil : it < s.heap.objs.size := by obtain ⟨_, q, _⟩ := hit; exact Heap.lt_size q
    have DD := Draws.tuple (prog := X.prog) (w := X.w) (A := X.A.in1) (I.ok.hd hc) it a (fun q => hia q.symm) its.toArray
    have hli : i < its.toArray.size := by
      have := (List.getElem?_eq_some_iff.mp hu).1
      simpa using this
    refine wpAny_pyNext_enum_itemC DD he ⟨hit, p⟩ hli hei (by simp [hei, hea]) fun y h' tk hPy ho hit' hT hsz hk => ?_
    have ey : y = u := by
      have : its.toArray[i]? = some u := by simpa using hu
      rw [this] at hPy
      exact (Option.some.inj hPy).symm
    subst ey
    refine ⟨_, rfl, wpAny_letOwnedTupleGo_enum (s := { s with heap := h', toks := tk + 1 }) ho fun h'' he' sb => ?_⟩
    have hT2 : h''.get? s.heap.objs.size = some { cls := .type "tuple", data := .seq #[.int i tk, y] } := (sb.2 _ (Nat.ne_of_gt hel)).trans hT
    have new : ObjOk X.prog X.w (upd H s.heap.objs.size (.tup [.int (i : Nat), x])) h'' s.heap.objs.size (.tup [.int (i : Nat), x]) :=
      ⟨by show 2 ≤ sizeLine; decide, [.int i tk, y], .cons ⟨_, rfl⟩ (.cons ru .nil), ⟨_, hT2, rfl, _, rfl⟩⟩
    have I1 : Inv X pins σ (upd H s.heap.objs.size (.tup [.int (i : Nat), x])) { s with heap := h'', toks := tk + 1 } :=
      I.turnedNew (ch := [e, it]) (fun b ob hb q => (sb.2 b (fun z => hb (by simp [z]))).trans (hk b ob (fun z => hb (by simp [z])) (fun z => hb (by simp [z])) q)) hf (Nat.le_refl _) new
    refine ⟨.ref s.heap.objs.size, _, I1, rfl, ⟨_, x, rfl, I.hok.fresh (Nat.le_refl _), rfl, fun ys hy => by rw [I.tuple_inj hy hq]; exact hx⟩, ⟨⟨y, ?_⟩, hit'.1.at fun o q => (sb.2 it (Ne.symm hne)).trans q, hne⟩, fun b hb => ?_⟩
    · have e1 : ((i + 1 : Nat) : Int) = (i : Int) + 1 := by omega
      rw [e1]; exact he'
    · have hb' : b < s.heap.objs.size := by
        have e' : b = e ∨ b = it := by simpa using hb
        rcases e' with z | z
        · rw [z]; exact hel
        · rw [z]; exact hil
      rw [upd_ne (Nat.ne_of_lt hb')]
      exact (hf b hb).1
  done := by
    intro X hP hw hK hc i pins s σ H E I hf st hg
    subst hP hw hK
    obtain ⟨⟨old, he⟩, hit, hne⟩ := st
    obtain ⟨xs, hq, hx⟩ := hg
    obtain ⟨its, rv, p, hz⟩ := I.tuple hq
    obtain ⟨f0, f1, f2, f3, f4, f5⟩ := hf it (by simp)
    have hl := rv.length
    exact pyNext_enumT_end (I.ok.hd hc) he hit p (by simp; omega) fun h' eb => ⟨rfl, I.turned (t' := s.toks) (fun b o hb q => eb b o hb q) f0 f1 f3 f4 f5⟩
  self := fun A i s Q E st h => let ⟨⟨_, he⟩, _⟩ := st; wpAny_pyIter_enum he h
def iEnumA (K : PySem.W.Frag) (ta : TA) : TI := fun σ H R => ta σ H fun vs H1 => ∃ a xs, vs = [.ref a] ∧ ((SqL K H1 a xs ∧ R (Ite K a) H1) ∨ (SqT K H1 a xs ∧ R (IteT K a) H1))
theorem pi_enumA {X : Cx} {e : Expr} {ta : TA} {p pos tpos : Pos} {elts : List Expr} {kk : Nat} (hg : Gl X "enumerate") (hm : X.mg "enumerate" = none) (ha : PA X [e] ta) (hs : starEach [e] X.env = [(false, eval e X.env)]) :
    PI X (.Tuple elts kk tpos) (.Call (.Name "enumerate" p) [e] [] pos) (iEnumA X.K ta) := by
  refine ⟨fun pins s σ H R I h => ?_⟩
  refine Call_ (ld_blt I hg hm boot_enumerate (PyProof.Rows.callWith_type1 (thn (ha.run pos pins s σ H _ I h) fun us s1 ⟨vs, H1, I1, r1, q1⟩ => ?_) hs rfl))
  obtain ⟨a, xs, ex, q⟩ := q1
  subst ex
  cases r1 with
  | cons r rr =>
    cases rr
    cases r
    have fp : ∀ b, b ∈ [s1.heap.objs.size + 1, s1.heap.objs.size] → FpOk X pins H1 b := fun b hb => by
      have e' : b = s1.heap.objs.size + 1 ∨ b = s1.heap.objs.size := by simpa using hb
      have hle : s1.heap.objs.size ≤ b := by
        rcases e' with z | z
        · rw [z]; exact Nat.le_add_right _ _
        · rw [z]; exact Nat.le_refl _
      exact I1.fpOk hle (I1.hok.fresh hle)
    rcases q with ⟨hq, q⟩ | ⟨hq, q⟩
    · obtain ⟨its, rv, p', hz⟩ := I1.list hq
      refine call_enumerate_list p'.isList fun h' he hit hsz hk => wpAny_pyIter_enum he ?_
      have I2 : Inv X pins σ H1 { s1 with heap := h' } := I1.kept (t' := s1.toks) hk
      exact ⟨s1.heap.objs.size + 1, [s1.heap.objs.size + 1, s1.heap.objs.size], _, _, H1, rfl, I2, turn_enum a (s1.heap.objs.size + 1) s1.heap.objs.size, ⟨⟨.none, he⟩, hit, Nat.succ_ne_self _⟩, fp, q⟩
    · obtain ⟨its, rv, p', hz⟩ := I1.tuple hq
      have hal : a < s1.heap.objs.size := by obtain ⟨o, ho, _⟩ := p'; exact Heap.lt_size ho
      refine call_enumerate_tuple p' fun h' he hit hsz hk => wpAny_pyIter_enum he ?_
      have I2 : Inv X pins σ H1 { s1 with heap := h' } := I1.kept (t' := s1.toks) hk
      exact ⟨s1.heap.objs.size + 1, [s1.heap.objs.size + 1, s1.heap.objs.size], _, _, H1, rfl, I2, turn_enumT a (s1.heap.objs.size + 1) s1.heap.objs.size (Nat.succ_ne_self _) (Nat.ne_of_gt hal) (Nat.ne_of_gt (Nat.lt_succ_of_lt hal)), ⟨⟨.none, he⟩, hit, Nat.succ_ne_self _⟩, fp, q⟩
def enumD (xs : List D) : List D := xs.zipIdx.map fun p => .tup [.int (p.2 : Nat), p.1]
theorem enum_get {xs : List D} {i : Nat} {d : D} (h : (enumD xs)[i]? = some d) : ∃ x, xs[i]? = some x ∧ d = .tup [.int (i : Nat), x] := by
  unfold enumD at h
  rw [List.getElem?_map, List.getElem?_zipIdx] at h
  cases e : xs[i]? with
  | none => rw [e] at h; cases h
  | some x =>
    rw [e] at h
    refine ⟨x, rfl, ?_⟩
    have := (Option.some.inj h).symm
    simpa using this
theorem enum_len {xs : List D} : (enumD xs).length = xs.length := by unfold enumD; simp
def wEnum (a : WE) : WI := fun env S Q X => a env S (fun d S1 => ∃ xs, seqOf S1 d = some xs ∧ Q (enumD xs) (srcOf d xs) S1) X
def DI.enum (a : DE) : DI where
  mt c tg e := isTup tg && match e with
    | .Call (.Name x _) [y] [] _ => x == "enumerate" && glB c "enumerate" && noStar y && a.mt c y
    | _ => false
  wp := wEnum a.wp
  rq Z := Z.mg "enumerate" = none ∧ a.rq Z
  ok X W T tg e h g q := by
    simp only [Bool.and_eq_true] at h
    obtain ⟨ht, h⟩ := h
    cases tg with
    | Tuple elts kk tpos =>
      split at h
      · simp only [Bool.and_eq_true, beq_iff_eq] at h
        obtain ⟨⟨⟨rfl, h1⟩, h2⟩, h3⟩ := h
        refine PI.imp (pi_enumA (gl_of h1) q.1 (pa_cons (a.ok X W T _ h3 g q.2) pa_nil (starEach_cons h2)) (starEach_cons h2)) fun σ H R ⟨env, S, F, ads, Qd, Xd, er, sm, hw, kv, kx⟩ => ?_
        refine ⟨env, S, F, ads, _, Xd, er, sm, hw, fun F1 ads1 S1 H1 d v x1 s1 r1 h1 => ?_, kx⟩
        obtain ⟨xs, hs, hq⟩ := h1
        unfold seqOf at hs
        split at hs
        · rename_i ht
          cases hs
          rw [tupOf_eq ht] at r1 hq
          cases r1 with
          | tup f1 g1 =>
            refine ⟨_, _, rfl, .inr ⟨Sub.tup s1.sub f1, kv _ _ _ _ _ _ _ x1 s1 ?_ hq⟩⟩
            intro F3 ads3 S3 H3 f3 p3 s3 so
            have q1 := Sub.tup s3.sub (Same.tup f3 f1)
            have g1 := g1.mono f3 p3
            refine ⟨fun i d hd => ?_, fun i hi => ⟨_, q1, by rw [← g1.length, ← enum_len (xs := xs)]; exact hi⟩⟩
            obtain ⟨x, ex, rfl⟩ := enum_get hd
            obtain ⟨u, hu, ru⟩ := g1.get ex
            refine ⟨⟨_, u, q1, hu⟩, fun z H4 hy => ?_⟩
            obtain ⟨T, u', rfl, hT, rfl, k1⟩ := hy
            have := k1 _ q1; rw [hu] at this; cases this
            exact new_pair s3 hT (.int _) ru
        · obtain ⟨a1, rfl, l1⟩ := lst_later r1 hs
          obtain ⟨us, hu, gu⟩ := l1 _ _ _ _ (Same.refl _) (fun _ _ h => h) s1 (src_now hs)
          refine ⟨a1, us, rfl, .inl ⟨hu, kv _ _ _ _ _ _ _ x1 s1 ?_ hq⟩⟩
          intro F3 ads3 S3 H3 f3 p3 s3 so
          obtain ⟨us, q1, g1⟩ := l1 _ _ _ _ f3 p3 s3 so
          refine ⟨fun i d hd => ?_, fun i hi => ⟨_, q1, by rw [← g1.length, ← enum_len (xs := xs)]; exact hi⟩⟩
          obtain ⟨x, ex, rfl⟩ := enum_get hd
          obtain ⟨u, hu, ru⟩ := g1.get ex
          refine ⟨⟨_, u, q1, hu⟩, fun z H4 hy => ?_⟩
          obtain ⟨T, u', rfl, hT, rfl, k1⟩ := hy
          have := k1 _ q1; rw [hu] at this; cases this
          exact new_pair s3 hT (.int _) ru
      · cases h
    | _ => cases ht
/-! #### DL10 -/
/-! The D layer, part 10: sorted(rows, key=lambda row: abs(row[place])). -/
def isLamParams : Arguments → Bool
  | ⟨[], [⟨x, none, _⟩], none, [], [], none, []⟩ => x == "row"
  | _ => false
def isLamBody : Expr → Bool
  | .Call (.Name f _) [.Subscript (.Name x _) (.Name y _) _] [] _ => f == "abs" && x == "row" && y == "place"
  | _ => false
def isLamScope (sc : Scope) : Bool := decide (sc.kind = .function) && !sc.isCoroutine && !sc.isGenerator && (sc.names.all fun y => !decide (y.2 = .cell)) &&
  decide (sc.names.lookup ("row" : Str) = some .local) && decide (sc.names.lookup ("place" : Str) = some .free) && decide (sc.names.lookup ("abs" : Str) = some .globalImplicit) && (sc.names.all fun y => !decide (y.2 = .free) || decide (y.1 = ("place" : Str)))
theorem clo_at {cells : List (Str × Addr)} {names : List (Str × NameKind)} {x : Str} {c : Addr} (h : names.lookup x = some .free) (hc : cells.lookup x = some c) : (cloFrom cells names []).lookup x = some c := by
  obtain ⟨c', e⟩ := mem_lookup (cloFrom_has (cells := cells) (acc := []) (PySem.mem_of_lookup h))
  rcases cloFrom_mem (PySem.mem_of_lookup e) with hm | ⟨_, h2⟩
  · cases hm
  · rw [e, h2, hc]; rfl
/-- the lambda's own run -/
theorem lam_run {prog : Program} {w : World} {A : Around} {s : Shared} {mg mb : Str → Option Value} {q : Str} {params : Arguments} {body : Expr} {scope : Scope} {cells : List (Str × Addr)} {pm ctv : Value} {f c' cp t : Addr} {its : Array Value} {pl key : Int} {tp tk : Tok} {j : Nat}
    (hp : isLamParams params = true) (hb : isLamBody body = true) (hs : isLamScope scope = true) (hf : s.heap.get? f = some (PySem.W.kla_obj "<lambda>" q params body scope (cloFrom cells scope.names []) pm c' ctv)) (hcd : s.heap.CodeRec (.ref c') q) (hroom : A.depth < recursionLimit)
    (hg : s.heap.Ns mainGlobals mg) (hgm : mg "abs" = none) (hbn : s.heap.Ns builtinsNs mb) (hbm : mb "abs" = some (.builtin "abs")) (hlim : s.heap.NoLimit)
    (hcp : cells.lookup ("place" : Str) = some cp) (hcell : s.heap.IsCell cp (some (.int pl tp))) (ht : IsTup s.heap t its) (hj : seqIndex? pl its.size = some j) (h1 : -(2 ^ 63) ≤ pl) (h2 : pl < 2 ^ 63) (hx : its[j]? = some (.int key tk)) :
    wpAny (model prog w) A (call (.ref f) [.ref t]) (PySem.W.KeyPure (.int (key.natAbs : Int)) s) (fun _ _ => False) s := by
  unfold isLamScope at hs
  simp only [Bool.and_eq_true, Bool.not_eq_true', decide_eq_true_eq, List.all_eq_true, decide_eq_false_iff_not] at hs
  obtain ⟨⟨⟨⟨⟨⟨⟨k1, k2⟩, k3⟩, k4⟩, k5⟩, k6⟩, k7⟩, _⟩ := hs
  unfold isLamBody at hb
  split at hb
  rotate_left
  · cases hb
  rename_i fn p1 x p2 y p3 p4 p5
  simp only [Bool.and_eq_true, beq_iff_eq] at hb
  obtain ⟨⟨rfl, rfl⟩, rfl⟩ := hb
  unfold isLamParams at hp
  split at hp
  rotate_left
  · cases hp
  rename_i xn pp
  simp only [beq_iff_eq] at hp
  subst hp
  refine wpAny_call (PySem.W.kla_callFunE hroom hf rfl k2 k3 rfl hcd ?_)
  have hbind : bindArgs (PySem.W.kla_fn "<lambda>" q ⟨[], [⟨"row", none, pp⟩], none, [], [], none, []⟩ (.Call (.Name "abs" p1) [.Subscript (.Name "row" p2) (.Name "place" p3) p4] [] p5) scope (cloFrom cells scope.names []) pm (.ref c') ctv) ⟨[Value.ref t], []⟩ = pure [(("row" : Str), Value.ref t)] := rfl
  show wpAny _ _ (bindArgs _ ⟨[Value.ref t], []⟩) _ _ _
  rw [hbind]
  refine wpAny_pure (wpAny_newFunctionEnv (fun x hx => k4 x hx) (fun x hx => by simp at hx; subst hx; exact k5) (fun h₁ hns hsb => ⟨hlim.fresh _ hsb, ?_⟩) k1)
  have kp : ∀ b o, s.heap.get? b = some o → h₁.get? b = some o := fun b o e => hsb.extBut b o (Nat.ne_of_lt (Heap.lt_size e)) (Heap.get?_push_of_some _ e)
  generalize henv : newEnv scope s.heap.objs.size mainGlobals (cloFrom cells scope.names []) (q ++ ".<locals>.") (some f) (.ref c') none builtinsNs = env
  have es : env.scope = scope := by rw [← henv]; rfl
  have eg : env.globals = mainGlobals := by rw [← henv]; rfl
  have eb : env.builtins = builtinsNs := by rw [← henv]; rfl
  have ec : env.cells = cloFrom cells scope.names [] := by rw [← henv]; rfl
  have el : env.locals = s.heap.objs.size := by rw [← henv]; rfl
  have ek : env.scope.kind = .function := by rw [es]; exact k1
  refine PySem.W.kla_codeExpr ?_
  refine wpAny_mono (Q := fun v s' => PySem.W.KeyPure (.int (key.natAbs : Int)) s v s') (E := fun _ _ => False) ?_ (fun v s' hk => hk) fun _ _ z => z.elim
  have r1 : env.kindOf "row" = some .local := by unfold Env.kindOf; rw [es]; exact k5
  have r2 : env.kindOf "place" = some .free := by unfold Env.kindOf; rw [es]; exact k6
  have r3 : env.kindOf "abs" = some .globalImplicit := by unfold Env.kindOf; rw [es]; exact k7
  refine wpAny_Call_Name_kw (Calls.Name_function_global ek r3 (Calls.loadGlobal_builtin (by rw [eg]; exact hg.keeps kp) hgm (by rw [eb]; exact hbn.keeps kp) hbm ?_) (by decide))
  refine PyProof.Rows.callWith_builtin1 ?_ rfl rfl
  refine Calls.spliced_cons (Subscript_ (wpAny_Name (wpAny_loadName_local ek r1 (by rw [el]; exact hns) (v := .ref t) (by simp) ?_) (by decide)))
  refine wpAny_Name (wpAny_loadName_free ek r2 (by rw [ec]; exact clo_at k6 hcp) (hcell.keeps kp) ?_ (by decide)) (by decide)
  have ht' : IsTup h₁ t its := by
    obtain ⟨o, ho, hc, n, hd⟩ := ht
    exact ⟨o, kp _ _ ho, hc, n, hd⟩
  refine subscriptTail_builtinR (x := .int key tk) ht'.typeIs slot_tuple_getitem.lookup (getItem_tuple (j := j) ht' h1 h2 hj hx ⟨rfl, ?_⟩) (by with_unfolding_all rfl)
  refine Calls.spliced_nil ?_
  refine call_abs_int fun u tk' => ⟨h₁, _, rfl, kp, ?_⟩
  have e : (if key < 0 then -key else key) = ((key.natAbs : Nat) : Int) := by split <;> omega
  rw [e]
  exact .int _ _
def keyD (pl : Int) : D → Int
  | .tup row => match atI row pl with
    | some (.int k) => (k.natAbs : Int)
    | _ => 0
  | _ => 0
/-- the rows by the size of one entry, equal ones as they stood -/
def sortD (pl : Int) (ds : List D) : List D := ds.mergeSort fun x y => decide (keyD pl x ≤ keyD pl y)
def wSrt (i : Nat) (a : WE) : WL := fun env S Q X => a env S (fun d S1 => ∃ ds pl, lstOf S1 d = some ds ∧ env[i]? = some (some (.int pl)) ∧ (∀ e ∈ ds, ∃ row k, e = .tup row ∧ atI row pl = some (.int k)) ∧ Q (sortD pl ds) S1) X
def srtB (i : Nat) (a : DE) (c : Sc) : Expr → Bool
  | .Call (.Name f _) [x] [⟨some k, .Lambda ps b sc _, _⟩] _ => f == "sorted" && glB c "sorted" && noStar x && a.mt c x && k == "key" && isLamParams ps && isLamBody b && isLamScope sc && c.N[i]? == some ("place" : Str) && (c.sc.names.lookup ("place" : Str) == some .cell)
  | _ => false
theorem each_of {K : Fg} {F : Hp} {ads : List Addr} : ∀ {ds : List D} {vs : List V} {us : List Value}, Rps K F ads ds vs → Vals vs us → PySem.W.EachIs (fun u (p : D × V) => RelV p.2 u ∧ Rp K F ads p.1 p.2) us (ds.zip vs)
  | _, _, _, .nil, .nil => .nil
  | _, _, _, .cons r t, .cons q u => .cons ⟨q, r⟩ (each_of t u)
theorem of_each {K : Fg} {F : Hp} {ads : List Addr} : ∀ {us : List Value} {bs : List (D × V)}, PySem.W.EachIs (fun u (p : D × V) => RelV p.2 u ∧ Rp K F ads p.1 p.2) us bs → Vals (bs.map (·.2)) us ∧ Rps K F ads (bs.map (·.1)) (bs.map (·.2))
  | _, _, .nil => ⟨.nil, .nil⟩
  | _, _, .cons h t => ⟨.cons h.1 (of_each t).1, .cons h.2 (of_each t).2⟩
def DL.srt (i : Nat) (a : DE) : DL where
  mt c e := srtB i a c e
  wp := wSrt i a.wp
  rq Z := Z.mg "sorted" = none ∧ Z.mg "abs" = none ∧ (∃ c P, Z.code = .ref c ∧ LamX.TabB Z.base Z.mg c P ∧ Z.T = [(P, Z.qual ++ "<lambda>")]) ∧ a.rq Z
  ok X W T e h g q := by
    unfold srtB at h
    split at h
    rotate_left
    · cases h
    rename_i f p1 x k ps b sc lp kp pos
    simp only [Bool.and_eq_true, beq_iff_eq] at h
    obtain ⟨⟨⟨⟨⟨⟨⟨⟨⟨rfl, h1⟩, h2⟩, h3⟩, rfl⟩, h4⟩, h5⟩, h6⟩, h7⟩, h8⟩ := h
    obtain ⟨q1, q2, ⟨cc, PP, qc, TB, qT⟩, q3⟩ := q
    have qT : T = [(PP, X.env.qual ++ "<lambda>")] := qT
    refine ⟨fun pins s σ H Q I h => ?_⟩
    obtain ⟨env, S, F, ads, Qd, Xd, er, sm, hw, kv, kx⟩ := h
    have pa : PA X [x] (tCons (tE (kt X T) X.mg W a.wp) tNil) := pa_cons (a.ok X W T x h3 g q3) pa_nil (starEach_cons h2)
    have hst : starEach [x] X.env = [(false, eval x X.env)] := starEach_cons h2
    refine wpAny_Call_Name_kw (ld_blt (u := .builtin "sorted") I (gl_of h1) q1 (by decide +kernel) ?_ (by decide) (by decide))
    refine PyProof.Rows.callWith_kw (thn (pa.run pos pins s σ H (fun vs H1 => ∃ F1 ads1 S1 d v, vs = [v] ∧ Ext F ads H F1 ads1 H1 ∧ Sim (kt X T) F1 ads1 S1 H1 ∧ Rp (kt X T) F1 ads1 d v ∧ ∃ ds pl, lstOf S1 d = some ds ∧ env[i]? = some (some (.int pl)) ∧ (∀ e ∈ ds, ∃ row k, e = .tup row ∧ atI row pl = some (.int k)) ∧ Qd (sortD pl ds) S1) I
      ⟨env, S, F, ads, _, Xd, er, sm, hw, fun F1 ads1 S1 H1 d v x1 s1 r1 h1 => ⟨F1, ads1, S1, d, v, rfl, x1, s1, r1, h1⟩, kx⟩) fun us s1 ⟨vs, H1, I1, r1, F1, ads1, S1, d, v, ev, x1, sm1, rd, ds, pl, hds, hpl, hall, hq⟩ => ?_) (by rw [hst]; rfl) (by rw [hst]; rfl) rfl rfl
    subst ev
    obtain ⟨u, rfl, ru⟩ : ∃ u, us = [u] ∧ RelV v u := vals1 r1
    obtain ⟨l, vs, rfl, hsq, rvs⟩ := lst_sq sm1 rd hds
    have ru : u = .ref l := ru
    subst ru
    have er1 := er.ext x1
    -- the place
    obtain ⟨vp, hvp, rp⟩ := er1.get i _ hpl
    cases rp
    have vis : Vis X.env.scope "place" := .inr (.inl (by simpa using h8))
    show wpAny _ _ (evalAll [(do let v ← eval (.Lambda ps b sc lp) X.env; standAt pos; pure v)]) _ _ s1
    have h6' := h6
    unfold isLamScope at h6'
    simp only [Bool.and_eq_true, Bool.or_eq_true, Bool.not_eq_true', decide_eq_true_eq, List.all_eq_true, decide_eq_false_iff_not] at h6'
    obtain ⟨⟨⟨⟨⟨⟨⟨j1, j2⟩, j3⟩, j4⟩, j5⟩, j6⟩, j7⟩, j8⟩ := h6'
    have tabs : LamX.Tabs T H1 := fun p hp => by
      obtain ⟨q', t', e1, e2⟩ := sm1.sub _ _ (sm1.tab p hp)
      have e1' : (#[Value.str p.2 0] : Array Value) = #[Value.str q' t'] := e1
      have : p.2 = q' := by
        have := congrArg (fun z : Array Value => z[0]?) e1'
        simpa using (by simpa using this : p.2 = q' ∧ _).1
      rw [this]; exact e2
    have hdef : defaultsOf ps X.env = ([], []) := by
      unfold isLamParams at h4
      split at h4
      · rfl
      · cases h4
    refine wpAny_evalAll_cons (wpAny_bind (LamX.lam_make2 (T := T) I1 TB qc (by rw [qT]; simp) (fun p hp e => by rw [qT] at hp; simp at hp; rw [hp]) tabs hdef (fun y hy e => ?_) fun f c' pm ctv H2 s2 I2 hE hT2 hf hfn hfr hc => wpAny_bind (wpAny_standAt (wpAny_pure (wpAny_evalAll_nil ?_)))))
    · rcases j8 y hy with z | z
      · exact absurd e z
      · rw [z]; exact I1.ok.has _ (.inl h8)
    show wpAny _ _ (call (.builtin "sorted") [.ref l] [(Str.ofString "key", .ref f)]) _ _ s2
    -- the state behind the making
    have keep : ∀ b o, H1 b = some o → isTb o = false → H2 b = some o := fun b o e t => hE b o e fun ps z => by rw [z] at t; cases t
    have sm2 : Sim (kt X T) F1 ads1 S1 H2 := by
      refine ⟨fun b o e => ?_, sm1.tab, sm1.tb2, sm1.len, sm1.nd, fun i a o ha ho => ?_⟩
      · have z := sm1.sub b o e
        cases o with
        | tbl m => obtain ⟨q', hm, rfl⟩ := sm1.tb2 b m e; exact ⟨q', 0, rfl, hT2 (b, q') hm⟩
        | _ => exact keep b _ z rfl
      · have z := sm1.ob i a o ha ho
        obtain ⟨u, hu⟩ := z.there
        refine z.keep (Same.refl _) (fun _ _ h => h) ?_ id
        rw [hu]
        refine keep a u hu ?_
        cases u with
        | tbl m => exact absurd hu (z.noCode.2 m)
        | _ => rfl
    have x2 : Ext F1 ads1 H1 F1 ads1 H2 := ⟨Same.refl _, fun _ _ h => h, fun _ h => .inl h, fun b o e _ t => keep b o e t, fun _ _ _ _ _ z => z⟩
    obtain ⟨l', vs', e', hsq2, rvs2⟩ := lst_sq sm2 rd hds
    cases e'
    obtain ⟨its, rv, pl2, hz⟩ := I2.list hsq2
    obtain ⟨m, hn, hloc⟩ := I2.loc
    obtain ⟨up, rup, lk⟩ := hloc i "place" _ h7 hvp vis
    obtain ⟨tp, rfl⟩ : ∃ t, up = Value.int pl t := rup
    obtain ⟨cp, hcp, hcell⟩ : ∃ c, X.env.cells.lookup ("place" : Str) = some c ∧ s2.heap.IsCell c (some (.int pl tp)) := by
      rcases lk with ⟨k', _⟩ | ⟨_, c, e1, e2⟩
      · have k' : X.env.scope.names.lookup ("place" : Str) = some .local := k'
        rw [show X.env.scope.names.lookup ("place" : Str) = some .cell by simpa using h8] at k'
        cases k'
      · exact ⟨c, e1, e2⟩
    have hcd : s2.heap.CodeRec (.ref c') (X.env.qual ++ "<lambda>") := by
      obtain ⟨⟨oc, ws, t, e1, e2, e3⟩, _⟩ := I2.hok c' _ hc
      exact ⟨c', oc, ws, t, rfl, e1, e2, e3⟩
    obtain ⟨mb, hb1, hb2⟩ := I2.mod.blt
    have each := each_of rvs2 rv
    have zl : (ds.zip vs').length = vs'.length := by rw [List.length_zip, rvs2.length, Nat.min_self]
    refine PySem.W.sorted_key_data (b := false) (fun p : D × V => .int (keyD pl p.1)) pl2.isList each (PySem.W.AllAlike.of fun _ _ => by simp [PySem.W.alike]) (.inr fun d hd => ?_) (by rw [zl]; exact hz) (fun p _ => ?_) (ksk_s1 _ _) (fun _ => ksk_l1 _ _) (fun _ => ksk_t1 _ _) (fun w p hp hm h tk kp => ?_) fun out c h' tk kp _ hD hlen eo => ?_
    · obtain ⟨p, _, rfl⟩ := List.mem_map.mp hd
      exact ⟨by simp, fun xs z => by cases z⟩
    · have := g.un
      simp only [PyData.depth]
      omega
    · -- the key of one row
      obtain ⟨hw1, hw2⟩ := hp
      obtain ⟨row, kk, e1, e2⟩ := hall p.1 (List.of_mem_zip hm).1
      rw [e1] at hw2
      cases hp2 : p.2 with
      | ref t =>
        rw [hp2] at hw1 hw2
        have hw1 : w = .ref t := hw1
        subst hw1
        cases hw2 with
        | tup ht rr =>
          obtain ⟨its2, rv2, pt, hz2⟩ := I2.tuple (Sub.tup sm2.sub ht)
          obtain ⟨z, hz3, rz⟩ := atI_rp rr e2
          cases rz
          obtain ⟨j, g1, g2, g3, g4, g5⟩ := atI_get hz3
          obtain ⟨wz, hwz, rwz⟩ := rv2.get g2
          obtain ⟨tk2, rfl⟩ : ∃ t, wz = Value.int kk t := rwz
          have l63 := line63
          have ek : keyD pl p.1 = (kk.natAbs : Int) := by rw [e1]; unfold keyD; simp only [e2]
          rw [ek]
          have hrm : (X.A.in1.in1).depth < recursionLimit := by have := g.dp; show X.A.depth < recursionLimit; omega
          exact lam_run (s := { s2 with heap := h, toks := tk }) (mg := X.mg) (mb := mb) h4 h5 h6 (kp _ _ hf) (by obtain ⟨a1, a2, a3, a4, b1, b2, b3, b4⟩ := hcd; exact ⟨a1, a2, a3, a4, b1, kp _ _ b2, b3, b4⟩) hrm
            ((I2.mod.glob.keeps I2.bk).keeps kp) q2 ((hb1.keeps I2.bk).keeps kp) ((hb2 _ (by decide)).trans (by decide +kernel)) (I2.nolimit.keeps kp) hcp (hcell.keeps kp) (by obtain ⟨o, o1, o2, n, o3⟩ := pt; exact ⟨o, kp _ _ o1, o2, n, o3⟩)
            (by rw [List.size_toArray, ← rv2.length]; exact g1) (by omega) (by omega) (by simpa using hwz)
      | _ => rw [hp2] at hw2; cases hw2
    · -- the new list
      rw [PySem.W.dataLe_int (β := D × V) (fun p => keyD pl p.1)] at eo
      obtain ⟨o1, o2⟩ := of_each eo
      have esrt : ((ds.zip vs').mergeSort fun a b => decide (keyD pl a.1 ≤ keyD pl b.1)).map (·.1) = sortD pl ds := by
        unfold sortD
        rw [List.map_mergeSort (s := fun x y => decide (keyD pl x ≤ keyD pl y)) (fun a _ b _ => rfl), List.map_fst_zip (by rw [rvs2.length]; exact Nat.le_refl _)]
      rw [esrt] at o2
      have nD : H2 (s2.heap.objs.size + 1) = none := I2.hok.fresh (Nat.le_succ _)
      refine ⟨.ref (s2.heap.objs.size + 1), _, I2.laid (t' := tk) (o := .lst _) (fun b u e => kp b u e) (Nat.le_succ _) ⟨?_, out, c, o1, hD⟩, rfl, kv _ _ _ _ _ _ _ (x1.trans x2) sm2 o2 nD hq⟩
      rw [o1.length, hlen, zl]; exact hz
/-! #### DL11 -/
/-! The D layer, part 11: what the words mean, for simp. -/
theorem z0 (i : Nat) : (DE.var i).wp = wVar i := rfl
theorem z1 (i : Nat) : (DE.frz i).wp = wFrz i := rfl
theorem z2 (d : D) : (DE.con d).wp = wC d := rfl
theorem z3 (x : Str) (i : Int) : (DE.glo x i).wp = wC (.int i) := rfl
theorem z4 : DA.nil.wp = wNil := rfl
theorem z5 (a : DE) (r : DA) : (DA.cons a r).wp = wCons a.wp r.wp := rfl
theorem z6 (o : Operator) (a b : DE) : (DE.op o a b).wp = w2 (opD o) a.wp b.wp := rfl
theorem z7 (a : DE) : (DE.neg a).wp = w1 oNeg a.wp := rfl
theorem z8 (o : CmpOp) (a b : DE) : (DE.cmp o a b).wp = w2 (cmD o) a.wp b.wp := rfl
theorem z9 (o : CmpOp) (a b : DE) : (DT.cmp o a b).wp = wB (w2 (cmD o) a.wp b.wp) := rfl
theorem z10 (o o' : CmpOp) (a b c : DE) : (DE.chn o o' a b c).wp = w3 (cmD o) (cmD o') a.wp b.wp c.wp := rfl
theorem z11 (o o' : CmpOp) (a b c : DE) : (DT.chn o o' a b c).wp = wB (w3 (cmD o) (cmD o') a.wp b.wp c.wp) := rfl
theorem z12 (a : DE) : (DT.val a).wp = wB a.wp := rfl
theorem z13 (a : DT) : (DT.not a).wp = wNotT a.wp := rfl
theorem z14 (o : BoolOp) (a : DT) : (DW.one o a).wp = a.wp := rfl
theorem z15 (o : BoolOp) (a : DT) : (DW.one o a).op = o := rfl
theorem z16 (a : DT) (r : DW) : (DW.cons a r).wp = boolW r.op a.wp r.wp := rfl
theorem z17 (a : DT) (r : DW) : (DW.cons a r).op = r.op := rfl
theorem z18 (r : DW) : (DT.bool r).wp = r.wp := rfl
theorem z19 (a : DE) : (DE.not a).wp = wNotV a.wp := rfl
theorem z20 (o : BoolOp) (a : DE) : (DV.one o a).wp = a.wp := rfl
theorem z21 (o : BoolOp) (a : DE) : (DV.one o a).op = o := rfl
theorem z22 (a : DE) (r : DV) : (DV.cons a r).wp = boolV r.op a.wp r.wp := rfl
theorem z23 (a : DE) (r : DV) : (DV.cons a r).op = r.op := rfl
theorem z24 (r : DV) : (DE.bool r).wp = r.wp := rfl
theorem z25 (t : DT) (a b : DE) : (DE.ite t a b).wp = wIte t.wp a.wp b.wp := rfl
theorem z26 (a b : DE) : (DE.ix a b).wp = w2 oIx a.wp b.wp := rfl
theorem z27 : DO.no.wp = wNo := rfl
theorem z28 (a : DE) : (DO.so a).wp = wSo a.wp := rfl
theorem z29 (a : DE) (lo hi : DO) : (DE.sl a lo hi).wp = wSl a.wp lo.wp hi.wp := rfl
theorem z30 (a : DA) : (DE.tup a).wp = wTup a.wp := rfl
theorem z31 (a : DA) : (DL.dis a).wp = a.wp := rfl
theorem z32 (l : DL) : (DE.lst l).wp = wLst l.wp := rfl
theorem z33 (l : DL) : (DE.thw l).wp = wThw l.wp := rfl
theorem z34 (a : DA) : (DE.len a).wp = wAp oLen a.wp := rfl
theorem z35 (a : DA) : (DE.abs a).wp = wAp oAbs a.wp := rfl
theorem z36 (a : DA) : (DE.sum a).wp = wAp oSum a.wp := rfl
theorem z37 (a : DA) : (DE.all a).wp = wAp oAll a.wp := rfl
theorem z38 (a : DA) : (DE.any a).wp = wAp oAny a.wp := rfl
theorem z39 (a : DA) : (DE.tuple a).wp = wAp oTuple a.wp := rfl
theorem z40 (a : DA) : (DE.int a).wp = wAp oInt a.wp := rfl
theorem z41 (a : DA) : (DE.str a).wp = wAp oStr a.wp := rfl
theorem z42 (a : DA) : (DL.lof a).wp = wLof a.wp := rfl
theorem z43 (a b : DE) : (DL.cat a b).wp = wCat a.wp b.wp := rfl
theorem z44 (a b : DE) : (DL.rep a b).wp = wRep a.wp b.wp := rfl
theorem z45 (a : DE) : (DE.isTuple a).wp = wIsi "tuple" a.wp := rfl
theorem z46 (a : DE) : (DE.isInt a).wp = wIsi "int" a.wp := rfl
theorem z47 (a : DE) : (DE.isBool a).wp = wIsi "bool" a.wp := rfl
theorem z48 (a : DE) : (DE.isStr a).wp = wIsi "str" a.wp := rfl
theorem z49 (o a : DE) : (DE.append o a).wp = wM1 "list" oAppend o.wp a.wp := rfl
theorem z50 (o : DE) : (DE.pop o).wp = wM0 "list" oPop o.wp := rfl
theorem z51 (o a : DE) : (DE.extend o a).wp = wM1 "list" oExtend o.wp a.wp := rfl
theorem z52 (a : DE) : (DI.seq a).wp = wIseq a.wp := rfl
theorem z53 (a : DE) : (DI.range1 a).wp = wR1 a.wp := rfl
theorem z54 (a b : DE) : (DI.range2 a b).wp = wR2 a.wp b.wp := rfl
theorem z55 (a : DE) : (DI.chr a).wp = wChr a.wp := rfl
theorem z56 (a b : DE) : (DI.zip a b).wp = wZip a.wp b.wp := rfl
theorem z57 (a : DE) : (DI.enum a).wp = wEnum a.wp := rfl
theorem z58 (i : Nat) : (DG.nm i).bd = (fun d env _ => some (env.set i (some d))) := rfl
theorem z59 (r : DGs) : (DG.tp r).bd = (fun d env S => match seqOf S d with | some ds => if ds.length = r.n then r.bd ds env else none | none => none) := rfl
theorem z60 : DGs.nil.n = 0 := rfl
theorem z61 (i : Nat) (r : DGs) : (DGs.cons i r).n = r.n + 1 := rfl
theorem z62 : DF.no.wp = wYes := rfl
theorem z63 (t : DT) : (DF.one t).wp = t.wp := rfl
theorem z64 (own : List (Str × Nat)) (g : DG) (i : DI) (t : DF) (e : DE) : (DL.comp own g i t e).wp = wComp (own.map (·.2)) g.bd i.wp t.wp e.wp := rfl
theorem z65 (i : Nat) (a : DE) : (DL.srt i a).wp = wSrt i a.wp := rfl
theorem z66 : DB.nil.wp = wSkip := rfl
theorem z67 (a : DS) (b : DB) : (DB.cons a b).wp = wSeq a.wp b.wp := rfl
theorem z68 (a : DE) : (DS.expr a).wp = wExpr a.wp := rfl
theorem z69 (a : DE) : (DS.ret a).wp = wRet a.wp := rfl
theorem z70 : DS.pass.wp = wSkip := rfl
theorem z71 : DS.cont.wp = wCont := rfl
theorem z72 (i : Nat) (a : DE) : (DS.set i a).wp = wSet i a.wp := rfl
theorem z73 (i : Nat) (own : List (Str × Nat)) (g : DG) (it : DI) (t : DF) (e : DE) : (DS.setC i own g it t e).wp = wSet i (wLst (wComp (own.map (·.2)) g.bd it.wp t.wp e.wp)) := rfl
theorem z74 (i : Nat) (own : List (Str × Nat)) (g : DG) (it : DI) (t : DF) (e : DE) : (DS.setCT i own g it t e).wp = wSet i (wThw (wComp (own.map (·.2)) g.bd it.wp t.wp e.wp)) := rfl
theorem z75 (t : DG) (a : DE) : (DS.asg t a).wp = wAsg t.bd a.wp := rfl
theorem z76 (i j : Nat) (a b : DE) : (DS.par i j a b).wp = wPar i j a.wp b.wp := rfl
theorem z77 (o b a : DE) : (DS.sub o b a).wp = wSub a.wp o.wp b.wp := rfl
theorem z78 (t : DT) (a b : DB) : (DS.iff t a b).wp = wIf t.wp a.wp b.wp := rfl
theorem z79 (t : DT) (b : DB) : (DS.while t b).wp = wWhile t.wp b.wp := rfl
theorem z80 (t : DG) (i : DI) (b : DB) : (DS.for t i b).wp = wFor t.bd i.wp b.wp := rfl
theorem z81 (x : Str) : (DS.raise x).wp = wRaise x := rfl
theorem z82 (f : Str) (C : Ct) (a : DA) : (DE.call f C a).wp = wCall C a.wp := rfl
theorem z83 (f : Str) (C : Ct) : (DE.call0 f C).wp = wCall0 C := rfl
theorem zg0 (env : Env) : DGs.nil.bd [] env = some env := rfl
theorem zg1 (i : Nat) (r : DGs) (d : D) (ds : List D) (env : Env) : (DGs.cons i r).bd (d :: ds) env = r.bd ds (env.set i (some d)) := rfl
theorem atI_0 {α : Type} (a : α) (l : List α) : atI (a :: l) 0 = some a := by simp [atI, ixN]
theorem atI_1 {α : Type} (a b : α) (l : List α) : atI (a :: b :: l) 1 = some b := by
  have : (1 : Int) < (l.length : Int) + 1 + 1 := by omega
  simp [atI, ixN, this]
theorem atI_2 {α : Type} (a b c : α) (l : List α) : atI (a :: b :: c :: l) 2 = some c := by
  have : (2 : Int) < (l.length : Int) + 1 + 1 + 1 := by omega
  simp [atI, ixN, this]
theorem ex_eq {α : Type} {a : α} {p : α → Prop} : (∃ x, some (some a) = some (some x) ∧ p x) ↔ p a := by simp
theorem seqOf_tup (S : Sto) (ds : List D) : seqOf S (.tup ds) = some ds := rfl
theorem seqOf_lst (S : Sto) (ds : List D) : seqOf S (.lst ds) = some ds := rfl
theorem seqOf_scr (S : Sto) (ds : List D) : seqOf S (.scr ds) = some ds := rfl
theorem lstOf_lst (S : Sto) (ds : List D) : lstOf S (.lst ds) = some ds := rfl
theorem lstOf_scr (S : Sto) (ds : List D) : lstOf S (.scr ds) = some ds := rfl
theorem lstX_lst (S : Sto) (ds : List D) : lstX S (.lst ds) = some ds := rfl
theorem tupOf_tup (ds : List D) : tupOf (.tup ds) = some ds := rfl
theorem srcOf_tup (ds es : List D) : srcOf (.tup ds) es = [] := rfl
theorem srcOf_lst (ds es : List D) : srcOf (.lst ds) es = [] := rfl
theorem srcOf_scr (ds es : List D) : srcOf (.scr ds) es = [] := rfl
theorem srcOf_han (i : Nat) (es : List D) : srcOf (.han i) es = [(i, es)] := rfl
theorem srcOk_nil (S : Sto) : srcOk [] S = True := rfl
theorem srcOk_cons (S : Sto) (h : Nat) (ds : List D) (r : Src) : srcOk ((h, ds) :: r) S = (S[h]? = some (.lst ds) ∧ srcOk r S) := rfl
theorem oAdd_ii (i j : Int) (S : Sto) (Q : QD) : oAdd (.int i) (.int j) S Q = Q (.int (i + j)) S := rfl
theorem oAdd_ss (i j : Str) (S : Sto) (Q : QD) : oAdd (.str i) (.str j) S Q = (i.length + j.length ≤ sizeLine ∧ Q (.str (i ++ j)) S) := rfl
theorem oAdd_tt (i j : List D) (S : Sto) (Q : QD) : oAdd (.tup i) (.tup j) S Q = (i.length + j.length ≤ sizeLine ∧ Q (.tup (i ++ j)) S) := rfl
theorem oAdd_ll (i j : List D) (S : Sto) (Q : QD) : oAdd (.lst i) (.lst j) S Q = (i.length + j.length ≤ sizeLine ∧ Q (.lst (i ++ j)) S) := by simp [oAdd, lstX]
theorem oSub_ii (i j : Int) (S : Sto) (Q : QD) : oSub (.int i) (.int j) S Q = Q (.int (i - j)) S := rfl
theorem oMul_ii (i j : Int) (S : Sto) (Q : QD) : oMul (.int i) (.int j) S Q = (IntMulOk i j ∧ Q (.int (i * j)) S) := rfl
theorem oMul_ti (a : List D) (k : Int) (S : Sto) (Q : QD) : oMul (.tup a) (.int k) S Q = (a ≠ [] ∧ -1000 ≤ k ∧ k ≤ 1000 ∧ a.length ≤ 1000 ∧ Q (.tup (List.replicate k.toNat a).flatten) S) := rfl
theorem oMul_si (a : Str) (k : Int) (S : Sto) (Q : QD) : oMul (.str a) (.int k) S Q = ((-1000 ≤ k ∧ k ≤ 1000 ∧ a.length ≤ 1000) ∧ Q (.str (repS a k)) S) := rfl
theorem oDiv_ii (i j : Int) (S : Sto) (Q : QD) : oDiv (.int i) (.int j) S Q = (IntDivOk j ∧ Q (.int (i.fdiv j)) S) := rfl
theorem oMod_ii (i j : Int) (S : Sto) (Q : QD) : oMod (.int i) (.int j) S Q = (j ≠ 0 ∧ Q (.int (i.fmod j)) S) := rfl
theorem oPow_ii (i j : Int) (S : Sto) (Q : QD) : oPow (.int i) (.int j) S Q = ((0 ≤ j ∧ j ≤ 1000000 ∧ i.natAbs < 2 ^ 64) ∧ Q (.int (i ^ j.toNat)) S) := rfl
theorem oNeg_i (i : Int) (S : Sto) (Q : QD) : oNeg (.int i) S Q = Q (.int (-i)) S := rfl
theorem oEq_ii (i j : Int) (S : Sto) (Q : QD) : oEq (.int i) (.int j) S Q = Q (.bl (decide (i = j))) S := rfl
theorem oNe_ii (i j : Int) (S : Sto) (Q : QD) : oNe (.int i) (.int j) S Q = Q (.bl (!decide (i = j))) S := rfl
theorem oEq_ss (i j : Str) (S : Sto) (Q : QD) : oEq (.str i) (.str j) S Q = Q (.bl (decide (i = j))) S := rfl
theorem oNe_ss (i j : Str) (S : Sto) (Q : QD) : oNe (.str i) (.str j) S Q = Q (.bl (!decide (i = j))) S := rfl
theorem oI_ii (f : Int → Int → Bool) (i j : Int) (S : Sto) (Q : QD) : oI f (.int i) (.int j) S Q = Q (.bl (f i j)) S := rfl
theorem oIs_n (x : D) (S : Sto) (Q : QD) : oIs x .non S Q = ∃ b, isNon x = some b ∧ Q (.bl b) S := by cases x <;> rfl
theorem oIsNot_n (x : D) (S : Sto) (Q : QD) : oIsNot x .non S Q = ∃ b, isNon x = some b ∧ Q (.bl (!b)) S := by cases x <;> rfl
theorem oIs_b (a b : Bool) (S : Sto) (Q : QD) : oIs (.bl a) (.bl b) S Q = Q (.bl (decide (a = b))) S := rfl
theorem oIsNot_b (a b : Bool) (S : Sto) (Q : QD) : oIsNot (.bl a) (.bl b) S Q = Q (.bl (!decide (a = b))) S := rfl
theorem isNon_n  : isNon .non = some true := rfl
theorem isNon_b (b : Bool) : isNon (.bl b) = some false := rfl
theorem isNon_i (i : Int) : isNon (.int i) = some false := rfl
theorem isNon_s (i : Str) : isNon (.str i) = some false := rfl
theorem isNon_t (i : List D) : isNon (.tup i) = some false := rfl
theorem isNon_l (i : List D) : isNon (.lst i) = some false := rfl
theorem isNon_h (i : Nat) : isNon (.han i) = some false := rfl
theorem oIx_t (ds : List D) (i : Int) (S : Sto) (Q : QD) : oIx (.tup ds) (.int i) S Q = ∃ d, atI ds i = some d ∧ Q d S := by simp [oIx, seqOf_tup]
theorem oIx_l (ds : List D) (i : Int) (S : Sto) (Q : QD) : oIx (.lst ds) (.int i) S Q = ∃ d, atI ds i = some d ∧ Q d S := by simp [oIx, seqOf_lst]
theorem oIx_s (ds : List D) (i : Int) (S : Sto) (Q : QD) : oIx (.scr ds) (.int i) S Q = ∃ d, atI ds i = some d ∧ Q d S := by simp [oIx, seqOf_scr]
theorem oLen_t (ds : List D) (S : Sto) (Q : QD) : oLen [.tup ds] S Q = Q (.int ds.length) S := by simp [oLen, seqOf_tup]
theorem oLen_l (ds : List D) (S : Sto) (Q : QD) : oLen [.lst ds] S Q = Q (.int ds.length) S := by simp [oLen, seqOf_lst]
theorem oLen_s (ds : List D) (S : Sto) (Q : QD) : oLen [.scr ds] S Q = Q (.int ds.length) S := by simp [oLen, seqOf_scr]
theorem oLen_str (z : Str) (S : Sto) (Q : QD) : oLen [.str z] S Q = (z.length ≤ sizeLine ∧ Q (.int z.length) S) := rfl
theorem oAbs_i (i : Int) (S : Sto) (Q : QD) : oAbs [.int i] S Q = Q (.int i.natAbs) S := rfl
theorem oTuple_l (ds : List D) (S : Sto) (Q : QD) : oTuple [.lst ds] S Q = Q (.tup ds) S := by simp [oTuple, seqOf_lst]
theorem oTuple_t (ds : List D) (S : Sto) (Q : QD) : oTuple [.tup ds] S Q = Q (.tup ds) S := by simp [oTuple, seqOf_tup]
theorem oSl_t (lo hi : Option Int) (ds : List D) (S : Sto) (Q : QD) : oSl lo hi (.tup ds) S Q = Q (.tup (cutD ds lo hi)) S := rfl
theorem oSl_l (lo hi : Option Int) (ds : List D) (S : Sto) (Q : QD) : oSl lo hi (.lst ds) S Q = Q (.lst (cutD ds lo hi)) S := by simp [oSl, lstOf_lst]
theorem oInt_i (i : Int) (S : Sto) (Q : QD) : oInt [.int i] S Q = Q (.int i) S := rfl
theorem oInt_b (b : Bool) (S : Sto) (Q : QD) : oInt [.bl b] S Q = Q (.int (if b then 1 else 0)) S := rfl
theorem compGo_nil (bd : D → Env → Sto → Option Env) (t : WT) (e : WE) (env : Env) (src : Src) (S : Sto) (acc : List D) (Q : QL) : compGo bd t e env src [] S acc Q = (srcOk src S ∧ Q acc S) := rfl
theorem compGo_cons (bd : D → Env → Sto → Option Env) (t : WT) (e : WE) (env : Env) (src : Src) (d : D) (ds : List D) (S : Sto) (acc : List D) (Q : QL) : compGo bd t e env src (d :: ds) S acc Q = (srcOk src S ∧ ∃ env', bd d env S = some env' ∧ t env' S (fun b S1 => if b = true then e env' S1 (fun x S2 => compGo bd t e env src ds S2 (acc ++ [x]) Q) noX else compGo bd t e env src ds S1 acc Q) noX) := rfl
theorem forGo_nil (bd : D → Env → Sto → Option Env) (b : WS) (E : DEnds) (src : Src) (env : Env) (S : Sto) : forGo bd b E src [] env S = (srcOk src S ∧ E.nx env S) := rfl
theorem forGo_cons (bd : D → Env → Sto → Option Env) (b : WS) (E : DEnds) (src : Src) (d : D) (ds : List D) (env : Env) (S : Sto) : forGo bd b E src (d :: ds) env S = (srcOk src S ∧ ∃ env', bd d env S = some env' ∧ b { E with nx := forGo bd b E src ds, ct := forGo bd b E src ds, bk := E.nx } env' S) := rfl
theorem wipeD_nil (env : Env) : wipeD env [] = env := rfl
theorem wipeD_cons (env : Env) (v : Nat) (vs : List Nat) : wipeD env (v :: vs) = (wipeD env vs).set v none := rfl
theorem range_3  : rangeD 0 (3 : Nat) = [.int 0, .int 1, .int 2] := rfl
theorem range_2  : rangeD 0 (2 : Nat) = [.int 0, .int 1] := rfl
theorem range_1  : rangeD 0 (1 : Nat) = [.int 0] := rfl
theorem enumD_nil  : enumD [] = [] := rfl
theorem enumD_1 (a : D) : enumD [a] = [.tup [.int 0, a]] := rfl
theorem enumD_2 (a b : D) : enumD [a, b] = [.tup [.int 0, a], .tup [.int 1, b]] := rfl
theorem enumD_3 (a b c : D) : enumD [a, b, c] = [.tup [.int 0, a], .tup [.int 1, b], .tup [.int 2, c]] := rfl
theorem zipD_nil  : zipD [] [] = [] := rfl
theorem zipD_cons (a b : D) (r s : List D) : zipD (a :: r) (b :: s) = .tup [a, b] :: zipD r s := rfl
theorem ex_and {α : Type} {a : Prop} {p : α → Prop} : (∃ x, a ∧ p x) ↔ a ∧ ∃ x, p x := exists_and_left
/-! #### DL12 -/
/-! The D layer, part 12: loops by invariants, whole numbers in rows. -/
theorem compGo_map {α : Type} {bd : D → Env → Sto → Option Env} {t : WT} {e : WE} {env : Env} {src : Src} {S : Sto} {Q : QL} (enc : α → D) (P : α → Bool) (g : α → D) (hs : srcOk src S) : ∀ (L : List α) (acc : List D),
    (∀ a ∈ L, ∃ env', bd (enc a) env S = some env' ∧ (∀ Qb : QB, Qb (P a) S → t env' S Qb noX) ∧ (P a = true → ∀ Qd : QD, Qd (g a) S → e env' S Qd noX)) →
    Q (acc ++ (L.filter P).map g) S → compGo bd t e env src (L.map enc) S acc Q
  | [], acc, _, hq => ⟨hs, by simpa using hq⟩
  | a :: L, acc, h, hq => by
    obtain ⟨env', hb, ht, he⟩ := h a List.mem_cons_self
    refine ⟨hs, env', hb, ht _ ?_⟩
    cases hp : P a with
    | false =>
      rw [if_neg (by simp)]
      refine compGo_map enc P g hs L acc (fun x hx => h x (List.mem_cons_of_mem _ hx)) ?_
      rw [List.filter_cons, hp] at hq
      simpa using hq
    | true =>
      rw [if_pos rfl]
      refine he hp _ ?_
      refine compGo_map enc P g hs L (acc ++ [g a]) (fun x hx => h x (List.mem_cons_of_mem _ hx)) ?_
      rw [List.filter_cons, hp] at hq
      simpa using hq
/-- .. no test -/
theorem compGo_all {α : Type} {bd : D → Env → Sto → Option Env} {e : WE} {env : Env} {src : Src} {S : Sto} {Q : QL} (enc : α → D) (g : α → D) (hs : srcOk src S) (L : List α)
    (h : ∀ a ∈ L, ∃ env', bd (enc a) env S = some env' ∧ (∀ Qd : QD, Qd (g a) S → e env' S Qd noX))
    (hq : Q (L.map g) S) : compGo bd (fun _ S Q _ => Q true S) e env src (L.map enc) S [] Q :=
  compGo_map enc (fun _ => true) g hs L [] (fun a ha => let ⟨env', hb, he⟩ := h a ha; ⟨env', hb, fun _ q => q, fun _ => he⟩) (by rw [List.filter_eq_self.mpr (fun _ _ => rfl)]; exact hq)
theorem compGo_all0 {α : Type} {bd : D → Env → Sto → Option Env} {e : WE} {env : Env} {S : Sto} {Q : QL} (enc : α → D) (g : α → D) (L : List α)
    (h : ∀ a ∈ L, ∃ env', bd (enc a) env S = some env' ∧ (∀ Qd : QD, Qd (g a) S → e env' S Qd noX))
    (hq : Q (L.map g) S) : compGo bd wYes e env [] (L.map enc) S [] Q := compGo_all (src := []) enc g True.intro L h hq
theorem compGo_map0 {α : Type} {bd : D → Env → Sto → Option Env} {t : WT} {e : WE} {env : Env} {S : Sto} {Q : QL} (enc : α → D) (P : α → Bool) (g : α → D) (L : List α)
    (h : ∀ a ∈ L, ∃ env', bd (enc a) env S = some env' ∧ (∀ Qb : QB, Qb (P a) S → t env' S Qb noX) ∧ (P a = true → ∀ Qd : QD, Qd (g a) S → e env' S Qd noX))
    (hq : Q ((L.filter P).map g) S) : compGo bd t e env [] (L.map enc) S [] Q := compGo_map (src := []) enc P g True.intro L [] h hq
theorem compGo_inv {bd : D → Env → Sto → Option Env} {t : WT} {e : WE} {env : Env} {src : Src} {Q : QL} (I : List D → List D → Sto → Prop)
    (h : ∀ d ds acc S, I (d :: ds) acc S → srcOk src S ∧ ∃ env', bd d env S = some env' ∧ ∀ (Qt Qf : D → Sto → Prop), (∀ x S2, I ds (acc ++ [x]) S2 → Qt x S2) → (∀ S2, I ds acc S2 → Qf .non S2) → t env' S (fun b S1 => if b = true then e env' S1 Qt noX else Qf .non S1) noX)
    (hq : ∀ acc S, I [] acc S → srcOk src S ∧ Q acc S) : ∀ (L : List D) (acc : List D) (S : Sto), I L acc S → compGo bd t e env src L S acc Q
  | [], acc, S, hi => hq acc S hi
  | d :: ds, acc, S, hi => by
    obtain ⟨hs, env', hb, ht⟩ := h d ds acc S hi
    exact ⟨hs, env', hb, ht (fun x S2 => compGo bd t e env src ds S2 (acc ++ [x]) Q) (fun _ S2 => compGo bd t e env src ds S2 acc Q) (fun x S2 hx => compGo_inv I h hq ds _ S2 hx) (fun S2 hx => compGo_inv I h hq ds _ S2 hx)⟩
theorem forGo_inv {bd : D → Env → Sto → Option Env} {b : WS} {E : DEnds} {src : Src} (I : List D → Env → Sto → Prop)
    (h : ∀ d ds env S, I (d :: ds) env S → srcOk src S ∧ ∃ env', bd d env S = some env' ∧ ∀ nx : Env → Sto → Prop, (∀ env S, I ds env S → nx env S) → b { E with nx := nx, ct := nx, bk := E.nx } env' S)
    (hq : ∀ env S, I [] env S → srcOk src S ∧ E.nx env S) : ∀ (L : List D) (env : Env) (S : Sto), I L env S → forGo bd b E src L env S
  | [], env, S, hi => hq env S hi
  | d :: ds, env, S, hi => by
    obtain ⟨hs, env', hb, ht⟩ := h d ds env S hi
    exact ⟨hs, env', hb, ht _ fun env S hx => forGo_inv I h hq ds env S hx⟩
theorem while_inv {t : WT} {b : WS} {E : DEnds} (I : Nat → Env → Sto → Prop)
    (h : ∀ m env S, I m env S → ∀ nx : Env → Sto → Prop, (∀ m', m' < m → ∀ env S, I m' env S → nx env S) → t env S (fun k S1 => if k = true then b { E with nx := nx, ct := nx, bk := E.nx } env S1 else E.nx env S1) (fun x S1 => E.xq x env S1)) {m : Nat} {env : Env} {S : Sto} (hi : I m env S) : wWhile t b E env S := by
  refine ⟨m + 1, ?_⟩
  have key : ∀ n m env S, m < n → I m env S → whileGo t b E n env S := by
    intro n
    induction n with
    | zero => intro m _ _ h0; omega
    | succ n ih =>
      intro m env S hm hi
      exact h m env S hi _ fun m' hm' env S hi' => ih m' env S (by omega) hi'
  exact key _ m env S (by omega) hi
/-! ### rows of whole numbers -/
def VE (v : List Int) : D := .tup (v.map .int)
theorem VE_eq (v : List Int) : VE v = .tup (v.map .int) := rfl
theorem bd2 (i j : Nat) (a b : D) (env : Env) (S : Sto) : (DG.tp (DGs.cons i (DGs.cons j DGs.nil))).bd (.tup [a, b]) env S = some ((env.set i (some a)).set j (some b)) := rfl
theorem bd1 (i : Nat) (a : D) (env : Env) (S : Sto) : (DG.nm i).bd a env S = some (env.set i (some a)) := rfl
theorem bd3 (i j k : Nat) (a b c : D) (env : Env) (S : Sto) : (DG.tp (DGs.cons i (DGs.cons j (DGs.cons k DGs.nil)))).bd (.tup [a, b, c]) env S = some (((env.set i (some a)).set j (some b)).set k (some c)) := rfl
theorem bd3l (i j k : Nat) (a b c : D) (env : Env) (S : Sto) : (DG.tp (DGs.cons i (DGs.cons j (DGs.cons k DGs.nil)))).bd (.lst [a, b, c]) env S = some (((env.set i (some a)).set j (some b)).set k (some c)) := rfl
theorem atI_nat {α : Type} (l : List α) (i : Nat) : atI l (i : Int) = l[i]? := by
  unfold atI ixN
  rw [if_pos (by omega)]
  by_cases h : (i : Int) < l.length
  · rw [if_pos h]; simp
  · rw [if_neg h, List.getElem?_eq_none (by omega)]; rfl
theorem atI_some {α : Type} {l : List α} {i : Nat} (h : i < l.length) : atI l (i : Int) = some l[i] := by rw [atI_nat, List.getElem?_eq_getElem h]
theorem atI_map {α β : Type} (f : α → β) (l : List α) (i : Int) : atI (l.map f) i = (atI l i).map f := by
  unfold atI
  rw [List.length_map]
  cases ixN l.length i with
  | none => rfl
  | some j => simp
theorem zipD_map {α β : Type} (f : α → D) (g : β → D) : ∀ (u : List α) (v : List β), zipD (u.map f) (v.map g) = (u.zip v).map fun p => .tup [f p.1, g p.2]
  | [], _ => rfl
  | _ :: _, [] => rfl
  | a :: u, b :: v => by
    show D.tup [f a, g b] :: zipD (u.map f) (v.map g) = _
    rw [zipD_map f g u v]; rfl
theorem wZip_tt {a b : WE} {env : Env} {S : Sto} {Q : QI} {X : XD} {xs ys : List D} (h : Q (zipD xs ys) [] S) (ha : ∀ Qd : QD, Qd (.tup xs) S → a env S Qd X) (hb : ∀ Qd : QD, Qd (.tup ys) S → b env S Qd X) : wZip a b env S Q X :=
  ha _ (hb _ ⟨xs, ys, .inl ⟨rfl, rfl⟩, h⟩)
def zipP (d d2 : D) (S : Sto) (Q : QI) : Prop := ∃ xs ys, ((tupOf d = some xs ∧ tupOf d2 = some ys) ∨ (lstOf S d = some xs ∧ lstOf S d2 = some ys)) ∧ Q (zipD xs ys) (srcOf d xs ++ srcOf d2 ys) S
theorem wZip_eq (a b : WE) (env : Env) (S : Sto) (Q : QI) (X : XD) : wZip a b env S Q X = a env S (fun d S1 => b env S1 (fun d2 S2 => zipP d d2 S2 Q) X) X := rfl
theorem zip_tt (xs ys : List D) (S : Sto) (Q : QI) : zipP (.tup xs) (.tup ys) S Q = Q (zipD xs ys) [] S := by
  apply propext
  constructor
  · rintro ⟨a, b, (⟨ha, hb⟩ | ⟨ha, hb⟩), h⟩
    · cases ha; cases hb; exact h
    · cases ha
  · exact fun h => ⟨xs, ys, .inl ⟨rfl, rfl⟩, h⟩
theorem zip_ll (xs ys : List D) (S : Sto) (Q : QI) : zipP (.lst xs) (.lst ys) S Q = Q (zipD xs ys) [] S := by
  apply propext
  constructor
  · rintro ⟨a, b, (⟨ha, hb⟩ | ⟨ha, hb⟩), h⟩
    · cases ha
    · cases ha; cases hb; exact h
  · exact fun h => ⟨xs, ys, .inr ⟨rfl, rfl⟩, h⟩
theorem ty_n (S : Sto) : tyD S .non = some "NoneType" := rfl
theorem ty_b (S : Sto) (b : Bool) : tyD S (.bl b) = some "bool" := rfl
theorem ty_i (S : Sto) (b : Int) : tyD S (.int b) = some "int" := rfl
theorem ty_s (S : Sto) (b : Str) : tyD S (.str b) = some "str" := rfl
theorem ty_t (S : Sto) (b : List D) : tyD S (.tup b) = some "tuple" := rfl
theorem ty_l (S : Sto) (b : List D) : tyD S (.lst b) = some "list" := rfl
theorem ty_f (S : Sto) (b : _) : tyD S (.flt b) = some "float" := rfl
theorem kit_ii : kitB "int" "int" = some true := rfl
theorem kit_ib : kitB "int" "bool" = some false := rfl
theorem kit_bb : kitB "bool" "bool" = some true := rfl
theorem kit_bi : kitB "bool" "int" = some true := rfl
theorem kit_it : kitB "int" "tuple" = some false := rfl
theorem kit_tt : kitB "tuple" "tuple" = some true := rfl
theorem kit_ti : kitB "tuple" "int" = some false := rfl
theorem kit_tb : kitB "tuple" "bool" = some false := rfl
theorem kit_lt : kitB "list" "tuple" = some false := rfl
theorem kit_li : kitB "list" "int" = some false := rfl
theorem kit_st : kitB "str" "tuple" = some false := rfl
theorem kit_si : kitB "str" "int" = some false := rfl
theorem kit_ss : kitB "str" "str" = some true := rfl
theorem kit_nt : kitB "NoneType" "tuple" = some false := rfl
theorem kit_ni : kitB "NoneType" "int" = some false := rfl
theorem kit_fi : kitB "float" "int" = some false := rfl
theorem kit_ft : kitB "float" "tuple" = some false := rfl
theorem kit_is : kitB "int" "str" = some false := rfl
theorem kit_ns : kitB "NoneType" "str" = some false := rfl
theorem kit_bt : kitB "bool" "tuple" = some false := rfl
theorem oLen_V (v : List Int) (S : Sto) (Q : QD) : oLen [VE v] S Q = Q (.int v.length) S := by rw [VE_eq, oLen_t, List.length_map]
theorem oSum_l (ns : List Int) (S : Sto) (Q : QD) (h : Q (.int ns.sum) S) : oSum [.lst (ns.map .int)] S Q := ⟨ns, rfl, h⟩
theorem oAll_l (bs : List Bool) (S : Sto) (Q : QD) (h : Q (.bl (bs.all id)) S) : oAll [.lst (bs.map .bl)] S Q := ⟨bs, rfl, h⟩
theorem oAny_l (bs : List Bool) (S : Sto) (Q : QD) (h : Q (.bl (bs.any id)) S) : oAny [.lst (bs.map .bl)] S Q := ⟨bs, rfl, h⟩
/-! ### what is compared -/
structure Enc (α : Type) [DecidableEq α] where
  e : α → D
  p : α → PyData
  n : Nat
  hp : ∀ a, pyD (e a) = some (p a)
  lay : ∀ a, (p a).canLay0 = true
  dp : ∀ a, (p a).depth ≤ n
  eq : ∀ a b, PyData.eqv (p a) (p b) = decide (a = b)
theorem Enc.hps {α : Type} [DecidableEq α] (E : Enc α) : ∀ l : List α, pyDs (l.map E.e) = some (l.map E.p)
  | [] => rfl
  | a :: l => by
    show (match pyD (E.e a), pyDs (l.map E.e) with | some p, some ps => some (p :: ps) | _, _ => none) = _
    rw [E.hp, E.hps l]; rfl
theorem Enc.lays {α : Type} [DecidableEq α] (E : Enc α) : ∀ l : List α, PyData.canLayAll0 (l.map E.p) = true
  | [] => rfl
  | a :: l => by
    show (PyData.canLay0 (E.p a) && PyData.canLayAll0 (l.map E.p)) = true
    rw [E.lay, E.lays l]; rfl
theorem Enc.dps {α : Type} [DecidableEq α] (E : Enc α) : ∀ l : List α, PyData.depthAll (l.map E.p) ≤ E.n
  | [] => Nat.zero_le _
  | a :: l => by
    show max (PyData.depth (E.p a)) (PyData.depthAll (l.map E.p)) ≤ _
    have := E.dp a; have := E.dps l; omega
theorem Enc.eqs {α : Type} [DecidableEq α] (E : Enc α) : ∀ l m : List α, PyData.eqvAll (l.map E.p) (m.map E.p) = decide (l = m)
  | [], [] => by simp [PyData.eqvAll]
  | [], b :: m => by simp [PyData.eqvAll]
  | a :: l, [] => by simp [PyData.eqvAll]
  | a :: l, b :: m => by
    have := E.eqs l m
    simp only [List.map_cons, PyData.eqvAll, E.eq, this, List.cons.injEq, Bool.decide_and]
def eI : Enc Int := ⟨.int, .int, 0, fun _ => rfl, fun _ => rfl, fun _ => Nat.le_refl _, fun a b => by simp [PyData.eqv]; rfl⟩
def eT {α : Type} [DecidableEq α] (E : Enc α) : Enc (List α) := ⟨fun l => .tup (l.map E.e), fun l => .tuple (l.map E.p), E.n + 1, fun l => by simp [pyD, E.hps], fun l => by simpa [PyData.canLay0] using E.lays l, fun l => by have := E.dps l; simp only [PyData.depth]; omega, fun a b => by simp only [PyData.eqv, E.eqs]⟩
def eL {α : Type} [DecidableEq α] (E : Enc α) : Enc (List α) := ⟨fun l => .lst (l.map E.e), fun l => .list (l.map E.p), E.n + 1, fun l => by simp [pyD, E.hps], fun l => by simpa [PyData.canLay0] using E.lays l, fun l => by have := E.dps l; simp only [PyData.depth]; omega, fun a b => by simp only [PyData.eqv, E.eqs]⟩
theorem oEq_T {α : Type} [DecidableEq α] (E : Enc α) (hn : E.n ≤ 60) (a b : List α) (S : Sto) (Q : QD) (h : Q (.bl (decide (a = b))) S) : oEq (.tup (a.map E.e)) (.tup (b.map E.e)) S Q := by
  refine ⟨(eT E).p a, (eT E).p b, (eT E).hp a, (eT E).hp b, ?_, ?_, ?_⟩
  · unfold SeqAt.shaped; rw [(eT E).lay]; have := (eT E).dp a; have e : (eT E).n = E.n + 1 := rfl; simp; omega
  · unfold SeqAt.shaped; rw [(eT E).lay]; have := (eT E).dp b; have e : (eT E).n = E.n + 1 := rfl; simp; omega
  · rw [(eT E).eq]; exact h
theorem oNe_T {α : Type} [DecidableEq α] (E : Enc α) (hn : E.n ≤ 60) (a b : List α) (S : Sto) (Q : QD) (h : Q (.bl (!decide (a = b))) S) : oNe (.tup (a.map E.e)) (.tup (b.map E.e)) S Q := by
  refine ⟨(eT E).p a, (eT E).p b, (eT E).hp a, (eT E).hp b, ?_, ?_, ?_⟩
  · unfold SeqAt.shaped; rw [(eT E).lay]; have := (eT E).dp a; have e : (eT E).n = E.n + 1 := rfl; simp; omega
  · unfold SeqAt.shaped; rw [(eT E).lay]; have := (eT E).dp b; have e : (eT E).n = E.n + 1 := rfl; simp; omega
  · rw [(eT E).eq]; exact h
theorem oEq_L {α : Type} [DecidableEq α] (E : Enc α) (hn : E.n ≤ 60) (a b : List α) (S : Sto) (Q : QD) (h : Q (.bl (decide (a = b))) S) : oEq (.lst (a.map E.e)) (.lst (b.map E.e)) S Q := by
  refine ⟨(eL E).p a, (eL E).p b, (eL E).hp a, (eL E).hp b, ?_, ?_, ?_⟩
  · unfold SeqAt.shaped; rw [(eL E).lay]; have := (eL E).dp a; have e : (eL E).n = E.n + 1 := rfl; simp; omega
  · unfold SeqAt.shaped; rw [(eL E).lay]; have := (eL E).dp b; have e : (eL E).n = E.n + 1 := rfl; simp; omega
  · rw [(eL E).eq]; exact h
theorem oNe_L {α : Type} [DecidableEq α] (E : Enc α) (hn : E.n ≤ 60) (a b : List α) (S : Sto) (Q : QD) (h : Q (.bl (!decide (a = b))) S) : oNe (.lst (a.map E.e)) (.lst (b.map E.e)) S Q := by
  refine ⟨(eL E).p a, (eL E).p b, (eL E).hp a, (eL E).hp b, ?_, ?_, ?_⟩
  · unfold SeqAt.shaped; rw [(eL E).lay]; have := (eL E).dp a; have e : (eL E).n = E.n + 1 := rfl; simp; omega
  · unfold SeqAt.shaped; rw [(eL E).lay]; have := (eL E).dp b; have e : (eL E).n = E.n + 1 := rfl; simp; omega
  · rw [(eL E).eq]; exact h
def eV : Enc (List Int) := eT eI
theorem eV_e : eV.e = VE := rfl
theorem oEq_V (a b : List Int) (S : Sto) (Q : QD) (h : Q (.bl (decide (a = b))) S) : oEq (VE a) (VE b) S Q := oEq_T eI (by decide) a b S Q h
theorem oNe_V (a b : List Int) (S : Sto) (Q : QD) (h : Q (.bl (!decide (a = b))) S) : oNe (VE a) (VE b) S Q := oNe_T eI (by decide) a b S Q h
theorem oEq_M (a b : List (List Int)) (S : Sto) (Q : QD) (h : Q (.bl (decide (a = b))) S) : oEq (.tup (a.map VE)) (.tup (b.map VE)) S Q := oEq_T eV (by decide) a b S Q h
theorem oNe_M (a b : List (List Int)) (S : Sto) (Q : QD) (h : Q (.bl (!decide (a = b))) S) : oNe (.tup (a.map VE)) (.tup (b.map VE)) S Q := oNe_T eV (by decide) a b S Q h
theorem oEq_Ml (a b : List (List Int)) (S : Sto) (Q : QD) (h : Q (.bl (decide (a = b))) S) : oEq (.lst (a.map VE)) (.lst (b.map VE)) S Q := oEq_L eV (by decide) a b S Q h
theorem oNe_Ml (a b : List (List Int)) (S : Sto) (Q : QD) (h : Q (.bl (!decide (a = b))) S) : oNe (.lst (a.map VE)) (.lst (b.map VE)) S Q := oNe_L eV (by decide) a b S Q h
/-! ### sizes -/
def Sm (k : Nat) (a : Int) : Prop := a.natAbs < 2 ^ k
theorem Sm.mono {j k : Nat} {a : Int} (h : Sm j a) (hk : j ≤ k) : Sm k a := Nat.lt_of_lt_of_le h (Nat.pow_le_pow_right (by omega) hk)
theorem Sm.mul {j k : Nat} {a b : Int} (h : Sm j a) (g : Sm k b) : Sm (j + k) (a * b) := by
  unfold Sm at *
  rw [Int.natAbs_mul, Nat.pow_add]
  exact Nat.mul_lt_mul'' h g
theorem Sm.add {j k : Nat} {a b : Int} (h : Sm j a) (g : Sm k b) : Sm (max j k + 1) (a + b) := by
  have h1 := h.mono (Nat.le_max_left j k)
  have h2 := g.mono (Nat.le_max_right j k)
  unfold Sm at *
  rw [Nat.pow_succ]
  omega
theorem Sm.neg {j : Nat} {a : Int} (h : Sm j a) : Sm j (-a) := by unfold Sm at *; rw [Int.natAbs_neg]; exact h
theorem Sm.sub {j k : Nat} {a b : Int} (h : Sm j a) (g : Sm k b) : Sm (max j k + 1) (a - b) := by
  rw [Int.sub_eq_add_neg]; exact h.add g.neg
theorem Sm.ok {j k : Nat} {a b : Int} (h : Sm j a) (g : Sm k b) (hk : j + k ≤ 999990) : IntMulOk a b :=
  (wide_mul (h.mono (Nat.le_succ j)) (g.mono (Nat.le_succ k)) (by omega) (by omega) (by omega)).ok
theorem Sm.div {j : Nat} {a : Int} (h : Sm j a) (h0 : a ≠ 0) (hj : j ≤ 8990) : IntDivOk a := by
  refine ⟨h0, ?_⟩
  have : a.natAbs.log2 < 9000 := (Nat.log2_lt (by omega)).mpr (Nat.lt_of_lt_of_le h (Nat.pow_le_pow_right (by omega) (by omega)))
  exact this
theorem Sm.of {a : Int} {B : Nat} (k : Nat) (h : a.natAbs ≤ B) (hk : B < 2 ^ k) : Sm k a := Nat.lt_of_le_of_lt h hk
theorem szLe {n : Nat} (h : n ≤ 16777216) : n ≤ sizeLine := by rw [sizeLine_eq]; omega
theorem cut_to {xs : List D} (k : Nat) : cutD xs none (some (k : Int)) = xs.take k := by
  unfold cutD
  rw [HT.sIx_nat, HT.sIx_none]
  simp only [List.drop_zero, Nat.sub_zero]
  rw [List.take_eq_take_iff]; omega
theorem cut_from {xs : List D} (k : Nat) : cutD xs (some (k : Int)) none = xs.drop k := by
  unfold cutD
  rw [HT.sIx_nat, HT.sIx_none]
  by_cases h : k ≤ xs.length
  · rw [Nat.min_eq_left h, List.take_of_length_le]; simp
  · rw [Nat.min_eq_right (by omega), List.drop_eq_nil_of_le (by omega), List.drop_eq_nil_of_le (by omega)]; simp
theorem cut_t0 (xs : List D) : cutD xs none (some 0) = [] := cut_to (xs := xs) 0
theorem cut_t1 (xs : List D) : cutD xs none (some 1) = xs.take 1 := cut_to 1
theorem cut_t2 (xs : List D) : cutD xs none (some 2) = xs.take 2 := cut_to 2
theorem cut_f1 (xs : List D) : cutD xs (some 1) none = xs.drop 1 := cut_from 1
theorem cut_f2 (xs : List D) : cutD xs (some 2) none = xs.drop 2 := cut_from 2
theorem cut_f3 (xs : List D) : cutD xs (some 3) none = xs.drop 3 := cut_from 3
theorem m2_0 : Int.fmod 0 2 = 0 := rfl
theorem m2_1 : Int.fmod 1 2 = 1 := rfl
theorem m2_2 : Int.fmod 2 2 = 0 := rfl
theorem two62 : (-2 ^ 62 : Int) ≤ 3 := by decide
theorem sm_lit (a : Int) (h : a.natAbs < 64) : Sm 6 a := h
theorem oEq_bb (a b : Bool) (S : Sto) (Q : QD) (h : Q (.bl (decide (a = b))) S) : oEq (.bl a) (.bl b) S Q :=
  ⟨.bool a, .bool b, rfl, rfl, rfl, rfl, by rw [show PyData.eqv (.bool a) (.bool b) = decide (a = b) by cases a <;> cases b <;> rfl]; exact h⟩
theorem oNe_bb (a b : Bool) (S : Sto) (Q : QD) (h : Q (.bl (!decide (a = b))) S) : oNe (.bl a) (.bl b) S Q :=
  ⟨.bool a, .bool b, rfl, rfl, rfl, rfl, by rw [show PyData.eqv (.bool a) (.bool b) = decide (a = b) by cases a <;> cases b <;> rfl]; exact h⟩
/-! #### DL13 -/
/-! The D layer, part 13: what the words ask; defs with a known code object. -/
theorem q0 (i : Nat) (Z : Cy) : (DE.var i).rq Z = (True) := rfl
theorem q1 (i : Nat) (Z : Cy) : (DE.frz i).rq Z = (True) := rfl
theorem q2 (d : D) (Z : Cy) : (DE.con d).rq Z = (True) := rfl
theorem q3 (x : Str) (i : Int) (Z : Cy) : (DE.glo x i).rq Z = (∃ t, Z.mg x = some (.int i t)) := rfl
theorem q4  (Z : Cy) : DA.nil.rq Z = (True) := rfl
theorem q5 (a : DE) (r : DA) (Z : Cy) : (DA.cons a r).rq Z = (a.rq Z ∧ r.rq Z) := rfl
theorem q6 (o : Operator) (a b : DE) (Z : Cy) : (DE.op o a b).rq Z = (a.rq Z ∧ b.rq Z) := rfl
theorem q7 (a : DE) (Z : Cy) : (DE.neg a).rq Z = (a.rq Z) := rfl
theorem q8 (o : CmpOp) (a b : DE) (Z : Cy) : (DE.cmp o a b).rq Z = (a.rq Z ∧ b.rq Z) := rfl
theorem q9 (o : CmpOp) (a b : DE) (Z : Cy) : (DT.cmp o a b).rq Z = (a.rq Z ∧ b.rq Z) := rfl
theorem q10 (o o' : CmpOp) (a b c : DE) (Z : Cy) : (DE.chn o o' a b c).rq Z = (a.rq Z ∧ b.rq Z ∧ c.rq Z) := rfl
theorem q11 (o o' : CmpOp) (a b c : DE) (Z : Cy) : (DT.chn o o' a b c).rq Z = (a.rq Z ∧ b.rq Z ∧ c.rq Z) := rfl
theorem q12 (a : DE) (Z : Cy) : (DT.val a).rq Z = (a.rq Z) := rfl
theorem q13 (a : DT) (Z : Cy) : (DT.not a).rq Z = (a.rq Z) := rfl
theorem q14 (o : BoolOp) (a : DT) (Z : Cy) : (DW.one o a).rq Z = (a.rq Z) := rfl
theorem q15 (a : DT) (r : DW) (Z : Cy) : (DW.cons a r).rq Z = (a.rq Z ∧ r.rq Z) := rfl
theorem q16 (r : DW) (Z : Cy) : (DT.bool r).rq Z = (r.rq Z) := rfl
theorem q17 (a : DE) (Z : Cy) : (DE.not a).rq Z = (a.rq Z) := rfl
theorem q18 (o : BoolOp) (a : DE) (Z : Cy) : (DV.one o a).rq Z = (a.rq Z) := rfl
theorem q19 (a : DE) (r : DV) (Z : Cy) : (DV.cons a r).rq Z = (a.rq Z ∧ r.rq Z) := rfl
theorem q20 (r : DV) (Z : Cy) : (DE.bool r).rq Z = (r.rq Z) := rfl
theorem q21 (t : DT) (a b : DE) (Z : Cy) : (DE.ite t a b).rq Z = (t.rq Z ∧ a.rq Z ∧ b.rq Z) := rfl
theorem q22 (a b : DE) (Z : Cy) : (DE.ix a b).rq Z = (a.rq Z ∧ b.rq Z) := rfl
theorem q23  (Z : Cy) : DO.no.rq Z = (True) := rfl
theorem q24 (a : DE) (Z : Cy) : (DO.so a).rq Z = (a.rq Z) := rfl
theorem q25 (a : DE) (lo hi : DO) (Z : Cy) : (DE.sl a lo hi).rq Z = (a.rq Z ∧ lo.rq Z ∧ hi.rq Z) := rfl
theorem q26 (a : DA) (Z : Cy) : (DE.tup a).rq Z = (a.rq Z) := rfl
theorem q27 (a : DA) (Z : Cy) : (DL.dis a).rq Z = (a.rq Z) := rfl
theorem q28 (l : DL) (Z : Cy) : (DE.lst l).rq Z = (l.rq Z) := rfl
theorem q29 (l : DL) (Z : Cy) : (DE.thw l).rq Z = (l.rq Z) := rfl
theorem q30 (a : DA) (Z : Cy) : (DL.lof a).rq Z = (Z.mg "list" = none ∧ a.rq Z) := rfl
theorem q31 (a b : DE) (Z : Cy) : (DL.cat a b).rq Z = (a.rq Z ∧ b.rq Z) := rfl
theorem q32 (a b : DE) (Z : Cy) : (DL.rep a b).rq Z = (a.rq Z ∧ b.rq Z) := rfl
theorem q33 (a : DE) (Z : Cy) : (DI.seq a).rq Z = (a.rq Z) := rfl
theorem q34 (a : DE) (Z : Cy) : (DI.range1 a).rq Z = (Z.mg "range" = none ∧ a.rq Z) := rfl
theorem q35 (a b : DE) (Z : Cy) : (DI.range2 a b).rq Z = (Z.mg "range" = none ∧ a.rq Z ∧ b.rq Z) := rfl
theorem q36 (a : DE) (Z : Cy) : (DI.chr a).rq Z = (a.rq Z) := rfl
theorem q37 (a b : DE) (Z : Cy) : (DI.zip a b).rq Z = (Z.mg "zip" = none ∧ a.rq Z ∧ b.rq Z) := rfl
theorem q38  (Z : Cy) : DF.no.rq Z = (True) := rfl
theorem q39 (t : DT) (Z : Cy) : (DF.one t).rq Z = (t.rq Z) := rfl
theorem q40 (own : List (Str × Nat)) (g : DG) (i : DI) (t : DF) (e : DE) (Z : Cy) : (DL.comp own g i t e).rq Z = (i.rq Z ∧ t.rq Z ∧ e.rq Z) := rfl
theorem q41  (Z : Cy) : DB.nil.rq Z = (True) := rfl
theorem q42 (a : DS) (b : DB) (Z : Cy) : (DB.cons a b).rq Z = (a.rq Z ∧ b.rq Z) := rfl
theorem q43 (a : DE) (Z : Cy) : (DS.expr a).rq Z = (a.rq Z) := rfl
theorem q44 (a : DE) (Z : Cy) : (DS.ret a).rq Z = (a.rq Z) := rfl
theorem q45  (Z : Cy) : DS.pass.rq Z = (True) := rfl
theorem q46  (Z : Cy) : DS.cont.rq Z = (True) := rfl
theorem q47 (i : Nat) (a : DE) (Z : Cy) : (DS.set i a).rq Z = (a.rq Z) := rfl
theorem q48 (i : Nat) (own : List (Str × Nat)) (g : DG) (it : DI) (t : DF) (e : DE) (Z : Cy) : (DS.setC i own g it t e).rq Z = (it.rq Z ∧ t.rq Z ∧ e.rq Z) := rfl
theorem q49 (i : Nat) (own : List (Str × Nat)) (g : DG) (it : DI) (t : DF) (e : DE) (Z : Cy) : (DS.setCT i own g it t e).rq Z = (it.rq Z ∧ t.rq Z ∧ e.rq Z) := rfl
theorem q50 (t : DG) (a : DE) (Z : Cy) : (DS.asg t a).rq Z = (a.rq Z) := rfl
theorem q51 (i j : Nat) (a b : DE) (Z : Cy) : (DS.par i j a b).rq Z = (a.rq Z ∧ b.rq Z) := rfl
theorem q52 (o b a : DE) (Z : Cy) : (DS.sub o b a).rq Z = (a.rq Z ∧ o.rq Z ∧ b.rq Z) := rfl
theorem q53 (t : DT) (a b : DB) (Z : Cy) : (DS.iff t a b).rq Z = (t.rq Z ∧ a.rq Z ∧ b.rq Z) := rfl
theorem q54 (t : DT) (b : DB) (Z : Cy) : (DS.while t b).rq Z = (t.rq Z ∧ b.rq Z) := rfl
theorem q55 (t : DG) (i : DI) (b : DB) (Z : Cy) : (DS.for t i b).rq Z = (i.rq Z ∧ b.rq Z) := rfl
theorem q56 (x : Str) (Z : Cy) : (DS.raise x).rq Z = (ExcOk Z x) := rfl
theorem q57 (f : Str) (C : Ct) (a : DA) (Z : Cy) : (DE.call f C a).rq Z = (CallOk Z f a.n C ∧ a.rq Z) := rfl
theorem q58 (f : Str) (C : Ct) (Z : Cy) : (DE.call0 f C).rq Z = (CallOk Z f 0 C) := rfl
theorem q59 (a : DE) (Z : Cy) : (DI.enum a).rq Z = (Z.mg "enumerate" = none ∧ a.rq Z) := rfl
theorem q60 (i : Nat) (a : DE) (Z : Cy) : (DL.srt i a).rq Z = (Z.mg "sorted" = none ∧ Z.mg "abs" = none ∧ (∃ c P, Z.code = .ref c ∧ LamX.TabB Z.base Z.mg c P ∧ Z.T = [(P, Z.qual ++ "<lambda>")]) ∧ a.rq Z) := rfl
theorem q61 (a : DA) (Z : Cy) : (DE.len a).rq Z = (Z.mg "len" = none ∧ a.rq Z) := rfl
theorem q62 (a : DA) (Z : Cy) : (DE.abs a).rq Z = (Z.mg "abs" = none ∧ a.rq Z) := rfl
theorem q63 (a : DA) (Z : Cy) : (DE.sum a).rq Z = (Z.mg "sum" = none ∧ a.rq Z) := rfl
theorem q64 (a : DA) (Z : Cy) : (DE.all a).rq Z = (Z.mg "all" = none ∧ a.rq Z) := rfl
theorem q65 (a : DA) (Z : Cy) : (DE.any a).rq Z = (Z.mg "any" = none ∧ a.rq Z) := rfl
theorem q66 (a : DA) (Z : Cy) : (DE.tuple a).rq Z = (Z.mg "tuple" = none ∧ a.rq Z) := rfl
theorem q67 (a : DA) (Z : Cy) : (DE.int a).rq Z = (Z.mg "int" = none ∧ a.rq Z) := rfl
theorem q68 (a : DA) (Z : Cy) : (DE.str a).rq Z = (Z.mg "str" = none ∧ a.rq Z) := rfl
theorem q69 (a : DE) (Z : Cy) : (DE.isTuple a).rq Z = (Z.mg "isinstance" = none ∧ Z.mg "tuple" = none ∧ a.rq Z) := rfl
theorem q70 (a : DE) (Z : Cy) : (DE.isInt a).rq Z = (Z.mg "isinstance" = none ∧ Z.mg "int" = none ∧ a.rq Z) := rfl
theorem q71 (a : DE) (Z : Cy) : (DE.isBool a).rq Z = (Z.mg "isinstance" = none ∧ Z.mg "bool" = none ∧ a.rq Z) := rfl
theorem q72 (a : DE) (Z : Cy) : (DE.isStr a).rq Z = (Z.mg "isinstance" = none ∧ Z.mg "str" = none ∧ a.rq Z) := rfl
theorem q73 (o a : DE) (Z : Cy) : (DE.append o a).rq Z = (o.rq Z ∧ a.rq Z) := rfl
theorem q74 (o a : DE) (Z : Cy) : (DE.extend o a).rq Z = (o.rq Z ∧ a.rq Z) := rfl
theorem q75 (o : DE) (Z : Cy) : (DE.pop o).rq Z = (o.rq Z) := rfl
theorem qn0 : DA.nil.n = 0 := rfl
theorem qn1 (a : DE) (r : DA) : (DA.cons a r).n = r.n + 1 := rfl
/-- a def's promise, as the library says it -/
theorem fn_ok {P : Program} {w : World} {K : Fg} {mg : Str → Option Value} {base : Heap} {x : Str} {st : Stmt} {f : Addr} {oc : Value} {od an : Option Addr} {osl : Array (Option Value)} {kV doc pm cdv ct : Value} {N ps : List Str} {k n : Nat} {b : DB}
    (l : K.K.lookup f = some ⟨oc, od, .func (PySem.W.fnOf x x (defArgs st) (defBody st) (defScope st) .none kV doc pm an cdv ct), osl⟩) (hcd : PySem.W.codeIn K.K cdv x = true) (S : FnScope N ps (defScope st)) (hn : ps.length = n)
    (hm : b.mt ⟨N, defScope st, fun _ => true⟩ (defBody st) = true) (hq : ∀ A, Room k A → b.rq ⟨P, w, K.K, mg, base, A, cdv, x ++ ".<locals>.", K.T⟩) :
    FnOk P w K.K mg base (L2.CX P w) (k + 1) f (PySem.W.fnOf x x (defArgs st) (defBody st) (defScope st) .none kV doc pm an cdv ct) ps (spOf K mg n (ctOf N.length b)) := by
  refine fn_of l hcd S (fun vs H Q E ⟨ds, S, F, ads, Qd, Xd, hl, sm, rs, _⟩ => by rw [← rs.length, hl, hn]) fun A outer s H vs Q E hr hsp => ?_
  obtain ⟨ds, S0, F0, ads, Qd, Xd, hl, sm, rs, hc, kv, kx⟩ := hsp
  have gd : Good (cxOf (L2.CX P w) P w K.K mg base N x (defScope st) f cdv A outer s H E) (fun cls d _ H => E cls d H) :=
    ⟨rfl, S.nd, takes_of rfl rfl rfl rfl, passes_of rfl, by have := hr.un; show (A.deeper _).units + 200 < cLine; omega, by have := hr.dp; show (A.deeper _).depth + 5 < recursionLimit; omega⟩
  refine ⟨_, b.ok _ _ K.T _ hm gd ⟨S.kind, rfl, rfl, rfl⟩ (hq _ hr), ?_⟩
  refine ⟨startD N.length ds, S0, F0, ads, _, start_r rs, sm, hc, fun F1 ads1 S1 H1 env1 σ1 x1 s1 _ h1 => kv _ _ _ _ _ _ x1 s1 .non h1, kv, fun _ _ _ _ _ _ _ _ _ h => h.elim, fun _ _ _ _ _ _ _ _ _ h => h.elim, fun F1 ads1 S1 H1 env1 σ1 x x1 s1 _ h1 => kx _ _ _ _ _ x1 s1 h1⟩
theorem sp_imp {P : Program} {w : World} {K : Fg} {mg : Str → Option Value} {base : Heap} {k n : Nat} {f : Addr} {fd : FuncData} {ps : List Str} {C C' : Ct} (h : FnOk P w K.K mg base (L2.CX P w) k f fd ps (spOf K mg n C)) (q : ∀ ds S Q X, C' ds S Q X → C ds S Q X) : FnOk P w K.K mg base (L2.CX P w) k f fd ps (spOf K mg n C') :=
  h.imp fun vs H Q E ⟨ds, S, F, ads, Qd, Xd, hl, sm, rs, hc, kv, kx⟩ => ⟨ds, S, F, ads, Qd, Xd, hl, sm, rs, q _ _ _ _ hc, kv, kx⟩
/-- .. and by its name -/
theorem fn_atK {P : Program} {w : World} {K : Fg} {mg : Str → Option Value} {base h : Heap} {x : Str} {st : Stmt} {f : Addr} {oc : Value} {od an : Option Addr} {osl : Array (Option Value)} {kV doc pm cdv ct : Value} {N ps : List Str} {k n : Nat} {b : DB} {C : Ct}
    (X : K.K.In h) (G : h.Ns mainGlobals mg) (a : PySem.W.nsIn K.K mainGlobals x = some (some (.ref f)))
    (l : K.K.lookup f = some ⟨oc, od, .func (PySem.W.fnOf x x (defArgs st) (defBody st) (defScope st) .none kV doc pm an cdv ct), osl⟩) (hcd : PySem.W.codeIn K.K cdv x = true) (kp : PySem.W.keepIn K.K (.ref f) = true) (S : FnScope N ps (defScope st)) (hn : ps.length = n)
    (hb : ∀ (kV doc pm : Value) (an : Option Addr) (cdv ct : Value) (us : List Value), us.length = ps.length → bindArgs (PySem.W.fnOf x x (defArgs st) (defBody st) (defScope st) .none kV doc pm an cdv ct) ⟨us, []⟩ = pure (ps.zip us))
    (hm : b.mt ⟨N, defScope st, fun _ => true⟩ (defBody st) = true) (hw : ∀ {ds S Q X}, C ds S Q X → ctOf N.length b ds S Q X) (hq : ∀ A, Room k A → b.rq ⟨P, w, K.K, mg, base, A, cdv, x ++ ".<locals>.", K.T⟩) : FnAt P w K mg base (k + 1) x n C :=
  ⟨f, _, ps, sp_imp (fn_ok l hcd S hn hm hq) fun _ _ _ _ => hw, PySem.W.mg_of X G a, kp, (fun_mk l hcd kp).binds hb⟩
/-- a promise that nobody asks for -/
theorem fn_none {P : Program} {w : World} {K : Fg} {mg : Str → Option Value} {base h : Heap} {x : Str} {st : Stmt} {f : Addr} {oc : Value} {od an : Option Addr} {osl : Array (Option Value)} {kV doc pm cdv ct : Value} {N ps : List Str} {k n : Nat}
    (X : K.K.In h) (G : h.Ns mainGlobals mg) (a : PySem.W.nsIn K.K mainGlobals x = some (some (.ref f)))
    (l : K.K.lookup f = some ⟨oc, od, .func (PySem.W.fnOf x x (defArgs st) (defBody st) (defScope st) .none kV doc pm an cdv ct), osl⟩) (hcd : PySem.W.codeIn K.K cdv x = true) (kp : PySem.W.keepIn K.K (.ref f) = true) (S : FnScope N ps (defScope st)) (hn : ps.length = n)
    (hb : ∀ (kV doc pm : Value) (an : Option Addr) (cdv ct : Value) (us : List Value), us.length = ps.length → bindArgs (PySem.W.fnOf x x (defArgs st) (defBody st) (defScope st) .none kV doc pm an cdv ct) ⟨us, []⟩ = pure (ps.zip us)) : FnAt P w K mg base k x n (fun _ _ _ _ => False) :=
  ⟨f, _, ps, ⟨fun vs H Q E ⟨_, _, _, _, _, _, _, _, _, h, _⟩ => h.elim, fun A outer s H args us vs Q E hr e0 hb r ⟨_, _, _, _, _, _, _, _, _, h, _⟩ => h.elim⟩, PySem.W.mg_of X G a, kp, (fun_mk l hcd kp).binds hb⟩
theorem cx_never {P : Program} {w : World} {H : Hp} {s : Shared} {e : Value} {s' : Shared} (h : L2.CX P w [] H s (fun _ _ _ => False) e s') : False := by
  obtain ⟨_, _, _, _, _, _, _, _, _, _, _, _, h⟩ := h
  exact h
/-! #### DL14 -/
/-! The D layer, part 14: more words. -/
def oMin : List D → Sto → QD → Prop
  | [.int i, .int j], S, Q => Q (.int (if j < i then j else i)) S
  | [x], S, Q => ∃ ns : List Int, lstOf S x = some (ns.map .int) ∧ 0 < ns.length ∧ ∀ m, m ∈ ns → (∀ y, y ∈ ns → m ≤ y) → Q (.int m) S
  | _, _, _ => False
theorem ok_min {K : Fg} : OkA K oMin (fun xs H Q => (∃ i j, xs = [.int i, .int j] ∧ Q (.int (if j < i then j else i)) H) ∨ rMin K.K xs H Q) := by
  intro F ads S H xs vs Qd Q sm rx h kv
  unfold oMin at h
  split at h
  · cases rx with
    | cons r t =>
      cases t with
      | cons r2 t2 =>
        cases t2; cases r; cases r2
        exact .inl ⟨_, _, rfl, kv _ _ _ _ _ _ Ext.refl sm (.int _) h⟩
  · cases rx with
    | cons r t =>
      cases t
      obtain ⟨ns, hs, hn, hq⟩ := h
      obtain ⟨a, ys, e, hy, rs⟩ := lst_sq sm r hs
      subst e
      have := rs.ints
      subst this
      exact .inr ⟨a, ns, rfl, hy, hn, fun m h1 h2 => kv _ _ _ _ _ _ Ext.refl sm (.int _) (hq m h1 h2)⟩
  · exact h.elim
def DE.min : DA → DE := mkB "min" "min" (by decide +kernel) (by decide) (by decide) oMin fun X W T g => ⟨_, (call_min2 g.calm).or (cr_min g.calm), ok_min⟩
theorem y0 (a : DA) : (DE.min a).wp = wAp oMin a.wp := rfl
theorem oMin_ii (i j : Int) (S : Sto) (Q : QD) : oMin [.int i, .int j] S Q = Q (.int (if j < i then j else i)) S := rfl
theorem r0 (a : DA) (Z : Cy) : (DE.min a).rq Z = (Z.mg "min" = none ∧ a.rq Z) := rfl
/-! #### DL15 -/
/-! The D layer, part 15: try .. except X as e: c = e, the exception kept; isinstance of it. -/
/-- a thing that stands in the heap is tracked from now on -/
theorem inv_track {X : Cx} {pins : List (Addr × Obj)} {σ : L2.St} {H : Hp} {s : Shared} {a : Addr} {o : HO} (I : Inv X pins σ H s) (n0 : X.s_0.heap.get? a = none) (nH : H a = none) (nL : a ≠ X.env.locals) (nC : ∀ x c, X.env.cells.lookup x = some c → c ≠ a)
    (nP : ∀ p ∈ X.pn ++ pins, p.1 ≠ a) (hT : ∀ xs, o ≠ .tup xs) (new : ObjOk X.prog X.w (upd H a o) s.heap a o) : Inv X pins σ (upd H a o) s := by
  have sm : ∀ b u, H b = some u → upd H a o b = some u := fun b u e => by rw [upd_ne (ne_of_none e nH)]; exact e
  have un : Un X.fs X.ex X.H_0 (upd H a o) X.s_0.heap s.heap := by
    refine ⟨I.base.keep, I.base.slot, fun b ob e n hx => ?_, I.base.there, fun b xs e => sm _ _ (I.base.tups b xs e), fun b ob u e => sm _ _ (I.base.frzs b ob u e), fun b ps e => ?_⟩
    · have ne : b ≠ a := fun z => by rw [z, n0] at e; cases e
      rw [upd_ne ne]; exact I.base.free b ob e n hx
    · obtain ⟨more, q⟩ := I.base.tbls b ps e
      exact ⟨more, sm _ _ q⟩
  refine ⟨I.ok, I.os, I.bare, un, I.loc, I.cell, by rw [upd_ne (Ne.symm nL)]; exact I.free, fun x c e => by rw [upd_ne (nC x c e)]; exact I.freeC x c e, fun p hp => ?_, fun b u e => ?_, I.len⟩
  · obtain ⟨h1, h2, h3⟩ := I.pin p hp
    exact ⟨h1, by rw [upd_ne (nP p hp)]; exact h2, h3⟩
  · by_cases hb : b = a
    · subst hb
      rw [upd_same] at e
      cases e
      exact new
    · rw [upd_ne hb] at e
      exact (I.hok b u e).stay (fun _ _ _ q => q) (fun c q => sm _ _ q) (fun c xs q => sm _ _ q)
/-- what 'except x as n: (one statement)' wishes, the exception kept behind it -/
def wKept (K : PySem.W.Frag) (c : Value) (i : Nat) (ts : Addr → TS) (D : Ends) : WX := fun cls d σ H =>
  ∃ C, cls = .ref C ∧ d = none ∧ PySem.W.exmOne K cls c = some true ∧ ∀ a, H a = none →
    ts a { nx := fun σ' H' => H' a = none ∧ D.nx (σ'.set i none) (upd H' a (ExcO a C)), rt := fun _ _ => False, bk := fun _ _ => False, ct := fun _ _ => False } (σ.set i (some (.ref a))) H
section
variable {X : Cx} {x n : Str} {c : Value} {i : Nat} {body : List Stmt} {b0 : Stmt} {np p1 p2 : Pos} {tb : WX → TS} {ts : Addr → TS}
theorem excO_ok {P : Program} {w : World} {H : Hp} {h : Heap} {a C : Addr} {oe : Obj} (e : h.get? a = some oe) (z : Zc (.ref C) none oe) (f : ∃ vs, oe.data = .fields vs) : ObjOk P w H h a (ExcO a C) := by
  obtain ⟨vs, hv⟩ := f
  refine ⟨⟨oe, vs, e, z, hv⟩, ⟨oe, e⟩, fun h1 h2 ⟨oe', vs', e', z', v'⟩ k => ⟨oe', vs', k _ e', z', v'⟩⟩
theorem ps_try_kept (fk : FnK X) (hN : X.N.Nodup) (hi : X.N[i]? = some n) (hln : X.env.kindOf n = some .local) (hc : Names X x c)
    (hb : ∀ (W : WX) (pn : List (Addr × Obj)) (xe : Value → Shared → Prop), Takes (X.tr pn xe) W → PassesOwn (model X.prog X.w) X.A X.env xe → PSs (X.tr pn xe) body (tb W))
    (hsu : ∀ (a : Addr) (oe : Obj) (pn : List (Addr × Obj)), PSs (X.suite a ((a, oe) :: pn)) [b0] (ts a)) :
    PS X (.Try body [.ExceptHandler (some (.Name x np)) (some n) [b0] p1] [] [] p2) (fun D σ H => tb (wKept X.K c i ts D) D σ H) := by
  refine ⟨fun pins s σ H D I h => ?_⟩
  have ok := I.ok
  have hfr : X.A.frames = some (X.env :: X.outer) := by rw [ok.frames, fk.stk]
  have run := (hb (wKept X.K c i ts D) (X.pn ++ pins) (fun e s1 => wpAny (model X.prog X.w) X.A (noteFrame e X.env) (fun _ s2 => wpAny (model X.prog X.w) X.A (setFlight e none)
    (fun _ s3 => wpAny (model X.prog X.w) X.A (handleBy e X.env [.ExceptHandler (some (.Name x np)) (some n) [b0] p1]) (SP X pins D) X.xe s3) X.xe s2) X.xe s1) (fun u s' air => ?_) PassesOwn.looking).run [] s σ H D (I.toTry _) h
  · refine wpAny_Try_except (wpAny_mono run (fun f s1 q => ?_) (fun _ _ q => q))
    cases f with
    | next => obtain ⟨σ1, H1, J1, q1⟩ := q; exact wpAny_execs_nil ⟨σ1, H1, J1.ofTry ok, q1⟩
    | brk => obtain ⟨σ1, H1, J1, q1⟩ := q; exact ⟨σ1, H1, J1.ofTry ok, q1⟩
    | cont => obtain ⟨σ1, H1, J1, q1⟩ := q; exact ⟨σ1, H1, J1.ofTry ok, q1⟩
    | ret u => obtain ⟨v1, σ1, H1, J1, r1, q1⟩ := q; exact ⟨v1, σ1, H1, J1.ofTry ok, r1, q1⟩
  obtain ⟨a, B, sI, ps, σ', H', cls, d, rfl, J0, nb, up, sky, na, os, ag, C, rfl, rfl, hb1, hyes⟩ := air
  have J : Inv X pins σ' H' sI := J0.ofTry ok
  have sk : Sky B (X.env :: X.outer) a (Zc (.ref C) none) X.env.locals s'.heap := by rw [← fk.stk]; exact sky
  show wpAny (model X.prog X.w) X.A (noteFrame (.ref a) X.env) _ _ _
  have bN : B.get? a = none := by
    rcases sk with q | q | q
    · exact q.2.1
    · exact q.2.1
    · exact q.2.1
  refine Sky.land Zc.steady hfr fk.frm sk fun h3 f3 up3 => ?_
  have L3 : Inv X pins σ' H' { s' with heap := h3 } := J.landed nb f3.1 (up.trans up3) os ag
  obtain ⟨o3, v3, g3, z3, d3⟩ := f3.there
  have out : a ∉ frs (X.env :: X.outer) := fun hm => by
    obtain ⟨_, o', e', no⟩ := f3.2.2.1.mem hm
    rw [g3] at e'; cases e'
    exact no _ d3
  have nL : a ≠ X.env.locals := fun z => out (List.mem_filterMap.mpr ⟨X.env, List.mem_cons_self, by rw [fk.frm, z]⟩)
  have nF : a ∉ X.fs := fun hm => by
    obtain ⟨e, he, q⟩ := List.mem_filterMap.mp hm
    exact out (List.mem_filterMap.mpr ⟨e, List.mem_cons_of_mem _ he, q⟩)
  have nI : sI.heap.get? a = none := by
    cases e : sI.heap.get? a with
    | none => rfl
    | some o =>
      have := nb a o e (by rw [fk.stk]; exact out)
      rw [bN] at this; cases this
  have n0 : X.s_0.heap.get? a = none := by
    cases e : X.s_0.heap.get? a with
    | none => rfl
    | some o =>
      obtain ⟨o', q⟩ := J.base.there a o e (by rw [fk.ex]; simp)
      rw [nI] at q; cases q
  have S3 := L3.suite g3 d3 na nL nF
  refine wpAny_handleBy_cons (codeAny_handlers_test ?_) (by intro q; cases q)
  have ty : PySem.W.Looks (model X.prog X.w) h3 (typeOf (.ref a)) (.ref C) := fun A Q E s k q => wpAny_typeOf_ref (k _ _ g3) (by rw [z3.1]; exact q)
  have mt := PySem.W.exm_one (M := model X.prog X.w) L3.kIn ty hb1
  have look : ∀ {Q : Value → Shared → Prop} {E : Value → Shared → Prop}, Q c { s' with heap := h3 } →
      wpAny (model X.prog X.w) (X.A.mark (some (.ref a))) (eval (.Name x np) X.env) Q E { s' with heap := h3 } := fun {Q E} q => by
    rcases hc with ⟨hg, hdbg, hm | ⟨hm, hv, hnn⟩⟩
    · exact ld_glob (X := X.suite a ((a, o3) :: (X.pn ++ pins))) S3 hg hm q hdbg
    · exact ld_blt (X := X.suite a ((a, o3) :: (X.pn ++ pins))) S3 hg hm hv q hnn hdbg
  refine look (mt.here (codeAny_handlers_suite_as (HandSPX.lands_againZ f3 fun h4 f4 up4 => ?_)))
  have L4 : Inv X pins σ' H' { s' with heap := h4 } := J.landed nb f4.1 ((up.trans up3).trans up4) os ag
  obtain ⟨o4, v4, g4, z4, d4⟩ := f4.there
  refine store_ok (X := X.suite a ((a, o4) :: (X.pn ++ pins))) (v := .ref a) (L4.suite g4 d4 na nL nF) hN hi (.inl hln) rfl (fun s5 S5 => ?_) (.inr hln)
  refine wpAny_mono ((hsu a o4 (X.pn ++ pins)).run [] s5 _ H' _ S5 (hyes a na)) (fun f s6 q => ?_) (fun _ _ z => False.elim z)
  cases f with
  | next =>
    obtain ⟨σ6, H6, S6, n6, q6⟩ := q
    obtain ⟨g6, _⟩ := S6.pin (a, o4) (List.mem_append.mpr (.inl List.mem_cons_self))
    have K6 : Inv X pins σ6 H6 s6 := S6.unsuite ok
    have K7 : Inv X pins σ6 (upd H6 a (ExcO a C)) s6 := inv_track K6 n0 n6 nL (fun y cc e z => by
      obtain ⟨v, hcell⟩ := K6.cell y cc e
      obtain ⟨oc, ec, dc⟩ := hcell
      rw [z, g6] at ec; cases ec
      rw [d4] at dc; cases dc) (fun p hp z => by
        obtain ⟨q1, q2, q3⟩ := I.pin p hp
        obtain ⟨r1, _⟩ := J.pin p hp
        rw [z, nI] at r1; cases r1) (fun xs z => by cases z) (excO_ok g6 z4 ⟨_, d4⟩)
    exact gone_ok K7 hN hi hln fun s7 J7 => ⟨_, _, J7, q6⟩
  | brk => obtain ⟨_, _, _, z⟩ := q; exact z.elim
  | cont => obtain ⟨_, _, _, z⟩ := q; exact z.elim
  | ret u => obtain ⟨_, _, _, _, _, z⟩ := q; exact z.elim
end
/-! ### the program's exceptions -/
def exNs : List Str := ["InvalidBasis", "InvalidVector", "InvalidLength", "InvalidPoint", "InvalidDimension", "InvalidNumber", "InvalidText", "Unlike", "NotPart", "TooMany", "TooLarge", "NothingToUndo"]
structure ExcTab (K : PySem.W.Frag) (mg : Str → Option Value) : Prop where
  ns : ∀ x ∈ exNs, ∃ C, PySem.W.nsIn K mainGlobals x = some (some (.ref C)) ∧ mg x = some (.ref C) ∧ ExcC K C
  isa : ∀ x ∈ exNs, ∀ y ∈ exNs, ∀ C D, PySem.W.nsIn K mainGlobals x = some (some (.ref C)) → PySem.W.nsIn K mainGlobals y = some (some (.ref D)) → PySem.W.kitOne K (.ref C) (.ref D) = some (decide (x = y))
  ve : ∀ x ∈ exNs, ∀ C, PySem.W.nsIn K mainGlobals x = some (some (.ref C)) → PySem.W.kitOne K (.ref C) (.type "ValueError") = some true
  gr : ∃ G, mg "GridError" = some (.ref G) ∧ ∀ x ∈ exNs, ∀ C, PySem.W.nsIn K mainGlobals x = some (some (.ref C)) → PySem.W.exmOne K (.ref C) (.ref G) = some true
def excCB (K : PySem.W.Frag) (D : Addr) : Bool :=
  PySem.W.findIn K (.ref D) "__getattribute__" == some (some (.builtin "BaseException.__getattribute__")) && PySem.W.findIn K (.ref D) "__getattr__" == some none &&
  PySem.W.subIn K (.ref D) (.type "BaseException") == some true && PySem.W.hasDictIn K D && PySem.W.findIn K (.ref D) "__class__" == some (some (.builtin "object.__class__")) &&
  PySem.W.specialIn K (.builtin "object.__class__") "__get__" == some (some (.builtin "getset_descriptor.__get__")) && PySem.W.takesIn K (.builtin "object.__class__") == some true && PySem.W.mroIn K D (.type "object") == some true
def nsRef (K : PySem.W.Frag) (x : Str) : Option Addr := match PySem.W.nsIn K mainGlobals x with
  | some (some (.ref C)) => some C
  | _ => none
def excAllB (K : PySem.W.Frag) : Bool := match nsRef K "GridError" with
  | some G => exNs.all fun x => match nsRef K x with
    | some C => excCB K C && PySem.W.kitOne K (.ref C) (.type "ValueError") == some true && PySem.W.exmOne K (.ref C) (.ref G) == some true &&
      exNs.all fun y => match nsRef K y with
        | some D => PySem.W.kitOne K (.ref C) (.ref D) == some (x == y)
        | none => false
    | none => false
  | none => false
theorem nsRef_of {K : PySem.W.Frag} {x : Str} {C : Addr} (h : nsRef K x = some C) : PySem.W.nsIn K mainGlobals x = some (some (.ref C)) := by
  unfold nsRef at h
  split at h
  · rename_i e; cases h; exact e
  · cases h
theorem nsRef_to {K : PySem.W.Frag} {x : Str} {C : Addr} (h : PySem.W.nsIn K mainGlobals x = some (some (.ref C))) : nsRef K x = some C := by
  unfold nsRef; rw [h]
theorem exc_tab {K : PySem.W.Frag} {h : Heap} {mg : Str → Option Value} (X : K.In h) (G : h.Ns mainGlobals mg) (b : excAllB K = true) : ExcTab K mg := by
  unfold excAllB at b
  split at b
  rotate_left
  · cases b
  rename_i g hg
  have key : ∀ x ∈ exNs, ∃ C, nsRef K x = some C ∧ excCB K C = true ∧ PySem.W.kitOne K (.ref C) (.type "ValueError") = some true ∧ PySem.W.exmOne K (.ref C) (.ref g) = some true ∧ ∀ y ∈ exNs, ∃ D, nsRef K y = some D ∧ PySem.W.kitOne K (.ref C) (.ref D) = some (x == y) := by
    intro x hx
    have := List.all_eq_true.mp b x hx
    split at this
    · rename_i C e
      simp only [Bool.and_eq_true, beq_iff_eq] at this
      obtain ⟨⟨⟨h1, h2⟩, h3⟩, h4⟩ := this
      refine ⟨C, e, h1, h2, h3, fun y hy => ?_⟩
      have q := List.all_eq_true.mp h4 y hy
      split at q
      · rename_i D e2
        exact ⟨D, e2, by simpa using q⟩
      · cases q
    · cases this
  refine ⟨fun x hx => ?_, fun x hx y hy C D h1 h2 => ?_, fun x hx C h1 => ?_, g, PySem.W.mg_of X G (nsRef_of hg), fun x hx C h1 => ?_⟩
  · obtain ⟨C, e, c, _⟩ := key x hx
    unfold excCB at c
    simp only [Bool.and_eq_true, beq_iff_eq] at c
    obtain ⟨⟨⟨⟨⟨⟨⟨c1, c2⟩, c3⟩, c4⟩, c5⟩, c6⟩, c7⟩, c8⟩ := c
    exact ⟨C, nsRef_of e, PySem.W.mg_of X G (nsRef_of e), c1, c2, c3, c4, c5, c6, c7, c8⟩
  · obtain ⟨C', e, _, _, _, k⟩ := key x hx
    rw [nsRef_to h1] at e; cases e
    obtain ⟨D', e2, q⟩ := k y hy
    rw [nsRef_to h2] at e2; cases e2
    rw [q]
    by_cases z : x = y
    · subst z; simp
    · simp [z]
  · obtain ⟨C', e, _, q, _⟩ := key x hx
    rw [nsRef_to h1] at e; cases e
    exact q
  · obtain ⟨C', e, _, _, q, _⟩ := key x hx
    rw [nsRef_to h1] at e; cases e
    exact q
/-! ### try -/
def wTry (i j : Nat) (b : WS) : WS := fun E env S => b { E with xq := fun x env' S' => x ∈ exNs ∧ i < env'.length ∧ E.nx ((env'.set j (some (.exc x))).set i none) S' } env S
def tryB (i j : Nat) (b : DB) (c : Sc) : Stmt → Bool
  | .Try body [.ExceptHandler (some (.Name x _)) (some n) [.Assign [.Name y _] (.Name z pz) _] _] [] [] _ =>
    x == "GridError" && glB c x && (c.N[i]? == some n) && (c.sc.names.lookup n == some .local) && locB c j y && nameB c i (.Name z pz) && b.mt c body
  | _ => false
def DS.tryK (i j : Nat) (b : DB) : DS where
  mt c s := tryB i j b c s
  wp := wTry i j b.wp
  rq Z := b.rq Z ∧ ExcTab Z.K Z.mg
  ok X W T s h g f q := by
    unfold tryB at h
    split at h
    rotate_left
    · cases h
    simp only [Bool.and_eq_true, beq_iff_eq] at h
    obtain ⟨⟨⟨⟨⟨⟨rfl, h1⟩, h2⟩, h3⟩, h4⟩, h5⟩, h6⟩ := h
    obtain ⟨G, hG, hgr⟩ := q.2.gr
    obtain ⟨k1, k2, k3⟩ := loc_of h4
    refine PS.imp (ps_try_kept (c := .ref G) (tb := fun W' => tS (kt X T) X.mg W' b.wp) (ts := fun _ => tAsg (tVar i) (gName j)) f g.nd h2 h3 ⟨gl_of h1, by decide, .inl hG⟩ (fun W' pn xe tk ow => ?_) (fun a oe pn => ?_)) fun D σ H ⟨env, S, F, ads, E, er, sm, hw, k⟩ => ?_
    · exact b.ok (X.tr pn xe) W' T _ h6 ⟨g.calm, g.nd, tk, ow, g.un, g.dp⟩ ⟨f.kind, f.stk, f.frm, f.ex⟩ q.1
    · refine pss_cons (u := tNext) (ps_set (X := X.suite a ((a, oe) :: pn)) g.nd k1 k2 (pe_slot (X := X.suite a ((a, oe) :: pn)) h5) (noComp_sw rfl) k3) pss_nil
    · refine ⟨env, S, F, ads, _, er, sm, hw, k.nx, k.rt, k.bk, k.ct, fun F1 ads1 S1 H1 env1 σ1 x x1 s1 r1 hx => ?_⟩
      obtain ⟨hin, hlen, hnx⟩ := hx
      obtain ⟨C, e1, e2, _⟩ := q.2.ns x hin
      have e2 : X.mg x = some (.ref C) := e2
      refine ⟨C, by rw [e2]; rfl, rfl, by rw [e2]; exact hgr x hin C e1, fun a ha => ?_⟩
      have hi : i < σ1.length := by rw [← r1.len]; exact hlen
      refine ⟨.ref a, by rw [List.getElem?_set_self hi], ha, ?_⟩
      obtain ⟨s2, x2⟩ := s1.frz ha (ExcO a C)
      refine k.nx _ _ _ _ _ _ (x1.trans x2) s2 ?_ hnx
      have r2 := r1.ext x2
      have rx : Rp (kt X T) (upd F1 a (ExcO a C)) ads1 (.exc x) (.ref a) := .exc upd_same e1
      have r3 : EnvR (kt X T) (upd F1 a (ExcO a C)) ads1 (env1.set i none) (σ1.set i (some (.ref a))) := by
        refine ⟨by simp [r2.len], fun m c hm => ?_⟩
        by_cases e : m = i
        · subst e
          by_cases hl : m < env1.length
          · rw [List.getElem?_set_self hl] at hm; cases hm
          · rw [List.getElem?_eq_none (by simpa using hl)] at hm; cases hm
        · rw [List.getElem?_set_ne (fun z => e z.symm)] at hm
          obtain ⟨v, h1, h2⟩ := r2.get m c hm
          exact ⟨v, by rw [List.getElem?_set_ne (fun z => e z.symm)]; exact h1, h2⟩
      have r4 := (r3.set (i := j) rx).setN (i := i)
      have ee : ((env1.set i none).set j (some (DLay.D.exc x))).set i none = (env1.set j (some (DLay.D.exc x))).set i none := by
        by_cases z : i = j
        · subst z; simp
        · rw [List.set_comm _ _ z, List.set_set]
      rw [ee] at r4
      exact r4
/-! ### isinstance of a kept exception -/
theorem exc_kit {X : Cx} {pins : List (Addr × Obj)} {σ : L2.St} {H : Hp} {s : Shared} {a C : Addr} (I : Inv X pins σ H s) (h : H a = some (ExcO a C)) (c : ExcC X.K C) :
    ∃ P : Heap → Prop, PySem.W.KitX X.K (.ref a) (.ref C) P ∧ P s.heap := by
  obtain ⟨⟨oe, vs, e, z, d⟩, _⟩ := (show ObjOk X.prog X.w H s.heap a (ExcO a C) from I.hok a _ h)
  have J : PySem.W.InstAt s.heap a oe C none := by
    obtain ⟨oc, od, oda, osl⟩ := oe
    obtain ⟨h1, h2⟩ := z
    dsimp only at h1 h2 d
    subst h1 h2 d
    exact ⟨e, rfl, rfl, trivial⟩
  exact ⟨_, PySem.W.handS_kitx_exc c.hg c.hk c.hs c.hd c.ha c.hn c.ht c.hm, J⟩
def rIsK (K : PySem.W.Frag) : List V → Hp → VK → Prop := fun xs H Q => ∃ (a C : Addr) (c : V) (cv : Value) (b : Bool), xs = [.ref a, c] ∧ H a = some (ExcO a C) ∧ ExcC K C ∧ ClsV c cv ∧ PySem.W.kitOne K (.ref C) cv = some b ∧ Q (.bl b) H
theorem call_isK {X : Cx} : CallR X (.builtin "isinstance") (rIsK X.K) := by
  intro pins s σ H xs us Q I r h
  obtain ⟨a, C, c, cv, b, rfl, ha, hc, hv, e, q⟩ := h
  obtain ⟨u1, u2, rfl, r1, r2⟩ := vals2 r
  have e2 := hv.eq r2
  subst e2
  cases (show u1 = Value.ref a from r1)
  obtain ⟨P, Z, p⟩ := exc_kit I ha hc
  exact PySem.W.kia_one Z I.kIn p e (fun z => nomatch z) fun tk => ⟨.bl b, H, I.tok tk, rfl, q⟩
def wIsX (C : Str) (a : WE) : WE := fun env S Q X => a env S (fun d S1 => ∃ x, d = .exc x ∧ x ∈ exNs ∧ Q (.bl (decide (x = C))) S1) X
def wIsVE (a : WE) : WE := fun env S Q X => a env S (fun d S1 => ∃ x, d = .exc x ∧ x ∈ exNs ∧ Q (.bl true) S1) X
theorem exc_at {K : Fg} {F : Hp} {ads : List Addr} {S : Sto} {H : Hp} {x : Str} {v : V} {mg : Str → Option Value} (t : ExcTab K.K mg) (hx : x ∈ exNs) (sm : Sim K F ads S H) (r : Rp K F ads (.exc x) v) : ∃ a C, v = .ref a ∧ H a = some (ExcO a C) ∧ ExcC K.K C ∧ PySem.W.nsIn K.K mainGlobals x = some (some (.ref C)) := by
  cases r with
  | exc h n =>
    rename_i a C
    obtain ⟨C', e1, _, c⟩ := t.ns x hx
    rw [n] at e1; cases e1
    exact ⟨a, C, rfl, sm.sub a _ h, c, n⟩
def DE.isX (C : Str) (a : DE) : DE where
  mt c e := match e with
    | .Call (.Name f _) [y, .Name z _] [] _ => f == "isinstance" && glB c "isinstance" && noStar y && a.mt c y && z == C && glB c C && exNs.contains C && !(C == ("__debug__" : Str))
    | _ => false
  wp := wIsX C a.wp
  rq Z := Z.mg "isinstance" = none ∧ ExcTab Z.K Z.mg ∧ a.rq Z
  ok X W T e h g q := by
    split at h
    · simp only [Bool.and_eq_true, beq_iff_eq, Bool.not_eq_true'] at h
      obtain ⟨⟨⟨⟨⟨⟨⟨rfl, h1⟩, h2⟩, h3⟩, rfl⟩, h5⟩, h6⟩, h7⟩ := h
      rename_i z _ _
      have hz : z ∈ exNs := by simpa using h6
      obtain ⟨Cz, n1, n2, _⟩ := q.2.1.ns z hz
      refine PE.imp (pe_callB call_isK (gl_of h1) q.1 (by decide +kernel) (pa_cons (a.ok X W T _ h3 g q.2.2) (pa_cons (pe_glob (v := .ref Cz) (gl_of h5) n2 rfl h7) pa_nil) (starEach_cons h2)) (by decide) (by decide) (starEach_cons h2) rfl) fun σ H Q ⟨env, S, F, ads, Qd, Xd, er, sm, hw, kv, kx⟩ => ?_
      refine ⟨env, S, F, ads, _, Xd, er, sm, hw, fun F1 ads1 S1 H1 d v x1 s1 r1 hh => ?_, kx⟩
      obtain ⟨x, rfl, hx, hq⟩ := hh
      obtain ⟨a', C, rfl, hH, hc, hn⟩ := exc_at q.2.1 hx s1 r1
      exact ⟨a', C, .ref Cz, .ref Cz, _, rfl, hH, hc, .own Cz, q.2.1.isa x hx z hz C Cz hn n1, kv _ _ _ _ _ _ x1 s1 (.bl _) hq⟩
    · cases h
def DE.isVE (a : DE) : DE where
  mt c e := match e with
    | .Call (.Name f _) [y, .Name z _] [] _ => f == "isinstance" && glB c "isinstance" && noStar y && a.mt c y && z == "ValueError" && glB c "ValueError"
    | _ => false
  wp := wIsVE a.wp
  rq Z := Z.mg "isinstance" = none ∧ Z.mg "ValueError" = none ∧ ExcTab Z.K Z.mg ∧ a.rq Z
  ok X W T e h g q := by
    split at h
    · simp only [Bool.and_eq_true, beq_iff_eq] at h
      obtain ⟨⟨⟨⟨⟨rfl, h1⟩, h2⟩, h3⟩, rfl⟩, h5⟩ := h
      refine PE.imp (pe_callB call_isK (gl_of h1) q.1 (by decide +kernel) (pa_cons (a.ok X W T _ h3 g q.2.2.2) (pa_cons (pe_bltn (v := .ty "ValueError") (gl_of h5) q.2.1 (by decide +kernel) rfl (by decide) (by decide)) pa_nil) (starEach_cons h2)) (by decide) (by decide) (starEach_cons h2) rfl) fun σ H Q ⟨env, S, F, ads, Qd, Xd, er, sm, hw, kv, kx⟩ => ?_
      refine ⟨env, S, F, ads, _, Xd, er, sm, hw, fun F1 ads1 S1 H1 d v x1 s1 r1 hh => ?_, kx⟩
      obtain ⟨x, rfl, hx, hq⟩ := hh
      obtain ⟨a', C, rfl, hH, hc, hn⟩ := exc_at q.2.2.1 hx s1 r1
      exact ⟨a', C, .ty "ValueError", .type "ValueError", _, rfl, hH, hc, .ty _, q.2.2.1.ve x hx C hn, kv _ _ _ _ _ _ x1 s1 (.bl _) hq⟩
    · cases h
/-! ### list.index, list.count -/
def oIndex : D → List D → Sto → QD → Prop
  | x, [.bl b], S, Q => ∃ (bs : List Bool) (j : Nat), lstOf S x = some (bs.map .bl) ∧ bs[j]? = some b ∧ (∀ m, m < j → bs[m]? ≠ some b) ∧ Q (.int (j : Nat)) S
  | x, [.str b], S, Q => ∃ (bs : List Str) (j : Nat), lstOf S x = some (bs.map .str) ∧ bs[j]? = some b ∧ (∀ m, m < j → bs[m]? ≠ some b) ∧ Q (.int (j : Nat)) S
  | _, _, _, _ => False
theorem ok_index {K : Fg} : OkM K oIndex (rIndex K.K) := by
  intro F ads S H x xs v vs Qd Q sm rx rxs h kv
  unfold oIndex at h
  split at h
  · obtain ⟨bs, j, hs, hj, hno, hq⟩ := h
    cases rxs with
    | cons r t =>
      cases t; cases r
      obtain ⟨a, ys, rfl, hy, rs⟩ := lst_sq sm rx hs
      have := rs.bls
      subst this
      refine ⟨a, _, _, j, _, rfl, rfl, hy, rfl, by simp [List.all_map, flatV], by rw [List.getElem?_map, hj]; rfl, by simp [eqV], fun m z' hm hz => ?_, kv _ _ _ _ _ _ Ext.refl sm (.int _) hq⟩
      rw [List.getElem?_map] at hz
      cases e : bs[m]? with
      | none => rw [e] at hz; cases hz
      | some b' =>
        rw [e] at hz; cases hz
        have := hno m hm
        rw [e] at this
        simp only [eqV, beq_eq_false_iff_ne]
        exact fun z => this (by rw [z])
  · obtain ⟨bs, j, hs, hj, hno, hq⟩ := h
    cases rxs with
    | cons r t =>
      cases t; cases r
      obtain ⟨a, ys, rfl, hy, rs⟩ := lst_sq sm rx hs
      have := rs.strs
      subst this
      refine ⟨a, _, _, j, _, rfl, rfl, hy, rfl, by simp [List.all_map, flatV], by rw [List.getElem?_map, hj]; rfl, by simp [eqV], fun m z' hm hz => ?_, kv _ _ _ _ _ _ Ext.refl sm (.int _) hq⟩
      rw [List.getElem?_map] at hz
      cases e : bs[m]? with
      | none => rw [e] at hz; cases hz
      | some b' =>
        rw [e] at hz; cases hz
        have := hno m hm
        rw [e] at this
        simp only [eqV, beq_eq_false_iff_ne]
        exact fun z => this (by rw [z])
  · exact h.elim
def DE.index : DE → DE → DE := mkM1 "list" "index" "list.index" PySem.F.plainAttrs_list PySem.F.slot_list_index PySem.F.type_list_index oIndex fun X W T g => ⟨_, mt_index, ok_index⟩
def rCntB (K : PySem.W.Frag) : V → List V → Hp → VK → Prop := fun x xs H Q => ∃ (p : Addr) (bs : List Bool) (b : Bool), x = .ref p ∧ xs = [.bl b] ∧ SqL K H p (bs.map V.bl) ∧ Q (.int (bs.count b : Nat)) H
theorem count_bl {b : Bool} : ∀ {bs : List Bool} {us : List Value}, Vals (bs.map V.bl) us → us.countP (eqU (.bl b)) = bs.count b
  | [], _, .nil => rfl
  | c :: bs, _, .cons r t => by
    cases r
    rw [List.countP_cons, count_bl t, List.count_cons]
    rfl
theorem mt_countB {X : Cx} : MtR X "list.count" (rCntB X.K) := by
  intro pins s σ H x xs v us Q I rx rxs h
  obtain ⟨p, bs, b, rfl, rfl, hs, q⟩ := h
  cases rx
  obtain ⟨u, rfl, ru⟩ := rxs.one
  obtain ⟨its, rv, ⟨⟨cls, dd, data, sl⟩, n, ho, hc, hdn, hd⟩, hlen⟩ := I.list hs
  simp only at hc hd
  subst hc hd
  have fl : (bs.map V.bl).all flatV = true := by simp [List.all_map, flatV]
  refine call_meets PySem.F.slot_list_count ⟨_, ho, rfl⟩ PySem.F.entry_list_count (PySem.F.args_list_count_2 (.ref p) u) (SeqAt.list_countAt p its.toArray n dd sl u (eqU (.bl b))) ⟨ho, fun y hy => mem_eqAt ru rfl rv fl y (by simpa using hy), .int (bs.count b : Nat), H, I.tok _, ⟨s.toks, ?_⟩, q⟩
  have e : its.toArray.toList.countP (eqU (.bl b)) = bs.count b := count_bl rv
  rw [e]
def oCount : D → List D → Sto → QD → Prop
  | x, [.bl b], S, Q => ∃ (bs : List Bool), lstOf S x = some (bs.map .bl) ∧ Q (.int (bs.count b : Nat)) S
  | _, _, _, _ => False
theorem ok_count {K : Fg} : OkM K oCount (rCntB K.K) := by
  intro F ads S H x xs v vs Qd Q sm rx rxs h kv
  unfold oCount at h
  split at h
  · obtain ⟨bs, hs, hq⟩ := h
    cases rxs with
    | cons r t =>
      cases t; cases r
      obtain ⟨a, ys, rfl, hy, rs⟩ := lst_sq sm rx hs
      have := rs.bls
      subst this
      exact ⟨a, _, _, rfl, rfl, hy, kv _ _ _ _ _ _ Ext.refl sm (.int _) hq⟩
  · exact h.elim
def DE.count : DE → DE → DE := mkM1 "list" "count" "list.count" PySem.F.plainAttrs_list PySem.F.slot_list_count PySem.F.type_list_count oCount fun X W T g => ⟨_, mt_countB, ok_count⟩
theorem y1 (i j : Nat) (b : DB) : (DS.tryK i j b).wp = wTry i j b.wp := rfl
theorem y2 (C : Str) (a : DE) : (DE.isX C a).wp = wIsX C a.wp := rfl
theorem y3 (a : DE) : (DE.isVE a).wp = wIsVE a.wp := rfl
theorem y4 (o a : DE) : (DE.index o a).wp = wM1 "list" oIndex o.wp a.wp := rfl
theorem y5 (o a : DE) : (DE.count o a).wp = wM1 "list" oCount o.wp a.wp := rfl
theorem r1 (i j : Nat) (b : DB) (Z : Cy) : (DS.tryK i j b).rq Z = (b.rq Z ∧ ExcTab Z.K Z.mg) := rfl
theorem r2 (C : Str) (a : DE) (Z : Cy) : (DE.isX C a).rq Z = (Z.mg "isinstance" = none ∧ ExcTab Z.K Z.mg ∧ a.rq Z) := rfl
theorem r3 (a : DE) (Z : Cy) : (DE.isVE a).rq Z = (Z.mg "isinstance" = none ∧ Z.mg "ValueError" = none ∧ ExcTab Z.K Z.mg ∧ a.rq Z) := rfl
theorem r4 (o a : DE) (Z : Cy) : (DE.index o a).rq Z = (o.rq Z ∧ a.rq Z) := rfl
theorem r5 (o a : DE) (Z : Cy) : (DE.count o a).rq Z = (o.rq Z ∧ a.rq Z) := rfl
/-! #### DL16 -/
/-! The D layer, part 16: texts. -/
theorem Rps.ofStrs' {K : Fg} {F : Hp} {ads : List Addr} (ys : List Str) : Rps K F ads (ys.map D.str) (ys.map V.str) := Rps.ofStrs ys
def oJoin : D → List D → Sto → QD → Prop
  | .str a, [x], S, Q => ∃ ys : List Str, seqOf S x = some (ys.map .str) ∧ (ys.map (·.length)).sum + ys.length * a.length ≤ 16777216 ∧ Q (.str (Txt.join a ys)) S
  | _, _, _, _ => False
theorem ok_join {K : Fg} : OkM K oJoin (fun x xs H Q => ∃ a p, ∃ ys : List Str, x = .str a ∧ xs = [.ref p] ∧ (SqL K.K H p (ys.map V.str) ∨ SqT K.K H p (ys.map V.str)) ∧ (ys.map (·.length)).sum + ys.length * a.length ≤ 16777216 ∧ Q (.str (Txt.join a ys)) H) := by
  intro F ads S H x xs v vs Qd Q sm rx rxs h kv
  unfold oJoin at h
  split at h
  · obtain ⟨ys, hs, hz, hq⟩ := h
    cases rxs with
    | cons r t =>
      cases t; cases rx
      obtain ⟨p, us, rfl, hy, rs⟩ := seq_sq sm r hs
      have := rs.strs
      subst this
      exact ⟨_, p, ys, rfl, rfl, hy, hz, kv _ _ _ _ _ _ Ext.refl sm (.str _) hq⟩
  · exact h.elim
def DE.join : DE → DE → DE := mkM1 "str" "join" "str.join" PySem.F.plainAttrs_str PySem.F.slot_str_join PySem.F.type_str_join oJoin fun X W T g => ⟨_, mt_join, ok_join⟩
def oSplit : D → List D → Sto → QD → Prop
  | .str a, [.str b], S, Q => (b.length == 0) = false ∧ a.length + 2 ≤ sizeLine ∧ Q (.lst ((Txt.split a b).map .str)) S
  | _, _, _, _ => False
theorem ok_split {K : Fg} : OkM K oSplit (fun x xs H Q => ∃ a b, x = .str a ∧ xs = [.str b] ∧ (b.length == 0) = false ∧ a.length + 2 ≤ sizeLine ∧ rNewStrs (Txt.split a b) H Q) := by
  intro F ads S H x xs v vs Qd Q sm rx rxs h kv
  unfold oSplit at h
  split at h
  · obtain ⟨h1, h2, hq⟩ := h
    cases rxs with
    | cons r t =>
      cases t; cases rx; cases r
      refine ⟨_, _, rfl, rfl, h1, h2, fun p hp => ?_⟩
      obtain ⟨s2, x2⟩ := sm.frz hp (.lst ((Txt.split _ _).map V.str))
      exact kv _ _ _ _ _ _ x2 s2 (.lst upd_same (Rps.ofStrs _)) hq
  · exact h.elim
def DE.split : DE → DE → DE := mkM1 "str" "split" "str.split" PySem.F.plainAttrs_str PySem.F.slot_str_split PySem.F.type_str_split oSplit fun X W T g => ⟨_, mt_split, ok_split⟩
/-- list(text) -/
def chrs (z : Str) : List Str := z.cps.toList.map fun c => ⟨#[c]⟩
theorem call_listS {X : Cx} (hc : X.calm = true) : CallR X (.type "list") (fun xs H Q => ∃ z : Str, xs = [.str z] ∧ z.cps.size ≤ sizeLine ∧ ∀ l, H l = none → Q (.ref l) (upd H l (.lst ((chrs z).map V.str)))) := by
  intro pins s σ H xs us Q I r h
  obtain ⟨z, rfl, hz, q⟩ := h
  obtain ⟨u, rfl, t, rfl⟩ := vals1 r
  refine call_list_str (I.ok.hd hc) z t (fun h' tk acc c' kp e it => ?_) hz
  have hl : acc.toList.length = ((chrs z).map V.str).length := by
    have := it.1
    simp [chrs]
    omega
  have hv : Vals ((chrs z).map V.str) acc.toList := vals_of_idx _ _ hl fun j u hu => by
    obtain ⟨hj, eu⟩ := List.getElem?_eq_some_iff.mp hu
    have hj' : j < acc.size := by simpa using hj
    obtain ⟨c, tk', hc', hv'⟩ := it.2 j u (by simpa using hu)
    refine ⟨.str ⟨#[c]⟩, ?_, tk', hv'⟩
    simp only [chrs, List.map_map, List.getElem?_map]
    have : z.cps.toList[j]? = some c := by simpa using hc'
    rw [this]; rfl
  refine ⟨.ref s.heap.objs.size, _, I.laid (t' := tk) kp (Nat.le_refl _) (show ObjOk X.prog X.w _ h' _ (.lst ((chrs z).map V.str)) from ⟨by simp [chrs]; exact hz, acc.toList, c', hv, by simpa using e⟩), rfl, q _ (I.hok.fresh (Nat.le_refl _))⟩
def wLofS (a : WL) : WL := fun env S Q X => a env S (fun xs S1 => ∃ z, xs = [.str z] ∧ z.cps.size ≤ sizeLine ∧ Q ((chrs z).map .str) S1) X
def DL.lofS (a : DA) : DL where
  mt c e := bltB "list" a c e
  wp := wLofS a.wp
  rq Z := Z.mg "list" = none ∧ a.rq Z
  ok X W T e h g q := by
    unfold bltB at h
    split at h
    · simp only [Bool.and_eq_true, beq_iff_eq] at h
      obtain ⟨⟨rfl, h1⟩, h2⟩ := h
      obtain ⟨pa, ps⟩ := a.ok X W T _ h2 g q.2
      simp only [List.all_cons, Bool.and_eq_true] at ps
      refine PE.imp (pe_callTy (call_listS g.calm) (gl_of h1) q.1 (by decide +kernel) pa (by decide) (by decide) (starEach_cons ps.1) (star_any ps.2)) fun σ H Q ⟨env, S, F, ads, Qd, Xd, er, sm, hw, kv, kx⟩ => ?_
      refine ⟨env, S, F, ads, _, Xd, er, sm, hw, fun F1 ads1 S1 H1 ds vs x1 s1 r1 _ hh => ?_, kx⟩
      obtain ⟨z, rfl, hz, hq⟩ := hh
      cases r1 with
      | cons r t =>
        cases t; cases r
        exact ⟨z, rfl, hz, fun l hl => kv _ _ _ _ _ _ l x1 s1 (Rps.ofStrs _) hl hq⟩
    · cases h
theorem y6 (o a : DE) : (DE.join o a).wp = wM1 "str" oJoin o.wp a.wp := rfl
theorem y7 (o a : DE) : (DE.split o a).wp = wM1 "str" oSplit o.wp a.wp := rfl
theorem y8 (a : DA) : (DL.lofS a).wp = wLofS a.wp := rfl
theorem r6 (o a : DE) (Z : Cy) : (DE.join o a).rq Z = (o.rq Z ∧ a.rq Z) := rfl
theorem r7 (o a : DE) (Z : Cy) : (DE.split o a).rq Z = (o.rq Z ∧ a.rq Z) := rfl
theorem r8 (a : DA) (Z : Cy) : (DL.lofS a).rq Z = (Z.mg "list" = none ∧ a.rq Z) := rfl
/-! #### DL17 -/
/-! The D layer, part 17: instances of own classes: fields, methods, construction. -/
/-! ### fields -/
def putD (f : Str) (v : D) : List (Str × D) → List (Str × D)
  | [] => [(f, v)]
  | (g, x) :: r => if g = f then (g, v) :: r else (g, x) :: putD f v r
def getD' (f : Str) : List (Str × D) → Option D
  | [] => none
  | (g, x) :: r => if f = g then some x else getD' f r
section
variable {K : Fg} {F : Hp} {ads : List Addr}
theorem fs_get {f : Str} {d : D} : ∀ {fs : List (Str × D)} {gs : List (Str × V)}, gs.map (·.1) = fs.map (·.1) → Rps K F ads (fs.map (·.2)) (gs.map (·.2)) → getD' f fs = some d → ∃ v, gs.lookup f = some v ∧ Rp K F ads d v
  | [], _, _, _, h => by cases h
  | (g, x) :: r, [], e, _, _ => by cases e
  | (g, x) :: r, (g', y) :: r', e, q, h => by
    have e1 : g' = g := by have := congrArg List.head? e; simpa using this
    have e2 : r'.map (·.1) = r.map (·.1) := by have := congrArg List.tail e; simpa using this
    subst e1
    cases q with
    | cons qa qb =>
      unfold getD' at h
      by_cases k : f = g'
      · rw [if_pos k] at h
        cases h
        have hb : (f == g') = true := beq_iff_eq.mpr k
        exact ⟨y, by simp only [List.lookup, hb], qa⟩
      · rw [if_neg k] at h
        have hb : (f == g') = false := beq_eq_false_iff_ne.mpr k
        obtain ⟨v, h1, h2⟩ := fs_get e2 qb h
        exact ⟨v, by simp only [List.lookup, hb]; exact h1, h2⟩
theorem fs_none {f : Str} : ∀ {fs : List (Str × D)} {gs : List (Str × V)}, gs.map (·.1) = fs.map (·.1) → getD' f fs = none → gs.lookup f = none
  | [], [], _, _ => rfl
  | [], _ :: _, e, _ => by cases e
  | (g, x) :: r, [], e, _ => by cases e
  | (g, x) :: r, (g', y) :: r', e, h => by
    have e1 : g' = g := by have := congrArg List.head? e; simpa using this
    have e2 : r'.map (·.1) = r.map (·.1) := by have := congrArg List.tail e; simpa using this
    subst e1
    unfold getD' at h
    by_cases k : f = g'
    · rw [if_pos k] at h; cases h
    · rw [if_neg k] at h
      have hb : (f == g') = false := beq_eq_false_iff_ne.mpr k
      simp only [List.lookup, hb]
      exact fs_none e2 h
theorem fs_put {f : Str} {d : D} {v : V} (rd : Rp K F ads d v) : ∀ {fs : List (Str × D)} {gs : List (Str × V)}, gs.map (·.1) = fs.map (·.1) → Rps K F ads (fs.map (·.2)) (gs.map (·.2)) →
    (putF f v gs).map (·.1) = (putD f d fs).map (·.1) ∧ Rps K F ads ((putD f d fs).map (·.2)) ((putF f v gs).map (·.2))
  | [], [], _, _ => ⟨rfl, .cons rd .nil⟩
  | [], _ :: _, e, _ => by cases e
  | (g, x) :: r, [], e, _ => by cases e
  | (g, x) :: r, (g', y) :: r', e, q => by
    have e1 : g' = g := by have := congrArg List.head? e; simpa using this
    have e2 : r'.map (·.1) = r.map (·.1) := by have := congrArg List.tail e; simpa using this
    subst e1
    cases q with
    | cons qa qb =>
      unfold putD putF
      by_cases k : g' = f
      · rw [if_pos k, if_pos k]
        exact ⟨by rw [List.map_cons, List.map_cons, e2], .cons rd qb⟩
      · rw [if_neg k, if_neg k]
        obtain ⟨h1, h2⟩ := fs_put rd e2 qb
        exact ⟨by rw [List.map_cons, List.map_cons, h1], .cons qa h2⟩
end
/-- the class c of the text, its instances' fields plain -/
def ClsOk (Z : Cy) (c : Str) : Prop := ∃ C, PySem.W.nsIn Z.K mainGlobals c = some (some (.ref C)) ∧ Cls Z.K C
/-- .. and no class has the name f -/
def FldOk (Z : Cy) (c f : Str) : Prop := ∃ C, PySem.W.nsIn Z.K mainGlobals c = some (some (.ref C)) ∧ Cls Z.K C ∧ NoAttr Z.K C f
def wFld (c f : Str) (a : WE) : WE := fun env S Q X => a env S (fun d S1 => ∃ i fs v, d = .han i ∧ S1[i]? = some (.ins c fs) ∧ getD' f fs = some v ∧ Q v S1) X
def DE.fld (c : Str) (a : DE) (f : Str) : DE where
  mt s e := match e with
    | .Attribute x g _ => g == f && noCall x && a.mt s x
    | _ => false
  wp := wFld c f a.wp
  rq Z := FldOk Z c f ∧ a.rq Z
  ok X W T e h g q := by
    split at h
    · simp only [Bool.and_eq_true, beq_iff_eq] at h
      obtain ⟨⟨rfl, h1⟩, h2⟩ := h
      obtain ⟨⟨C, hC, hc, hn⟩, q2⟩ := q
      refine PE.imp (pe_fld (a.ok X W T _ h2 g q2) (noCall_base h1)) fun σ H Q ⟨env, S, F, ads, Qd, Xd, er, sm, hw, kv, kx⟩ => ?_
      refine ⟨env, S, F, ads, _, Xd, er, sm, hw, fun F1 ads1 S1 H1 d v x1 s1 r1 hh => ?_, kx⟩
      obtain ⟨i, fs, u, rfl, hS, hg, hq⟩ := hh
      cases r1 with
      | han ha =>
        obtain ⟨a', ha', nF, C', dx, gs, hH, hn', ek, rs⟩ := s1.at hS
        rw [ha] at ha'; cases ha'
        have : C' = C := by
          have := hn'.symm.trans hC
          simpa using this
        subst this
        obtain ⟨w, hw, rw'⟩ := fs_get ek rs hg
        exact ⟨_, _, dx, gs, w, rfl, hH, hc, hn, hw, kv _ _ _ _ _ _ x1 s1 rw' hq⟩
    · cases h
def wSetF (c f : Str) (o a : WE) : WS := fun E env S => a env S (fun y S1 => o env S1 (fun d S2 => ∃ i fs, d = .han i ∧ S2[i]? = some (.ins c fs) ∧ fs.length < 1000 ∧ E.nx env (S2.set i (.ins c (putD f y fs)))) (fun x S2 => E.xq x env S2)) (fun x S1 => E.xq x env S1)
def DS.fld (c : Str) (o : DE) (f : Str) (a : DE) : DS where
  mt s st := match st with
    | .Assign [.Attribute x g _] e _ => g == f && o.mt s x && a.mt s e && noComp e
    | _ => false
  wp := wSetF c f o.wp a.wp
  rq Z := FldOk Z c f ∧ o.rq Z ∧ a.rq Z
  ok X W T st h g fk q := by
    split at h
    · simp only [Bool.and_eq_true, beq_iff_eq] at h
      obtain ⟨⟨⟨rfl, h1⟩, h2⟩, h3⟩ := h
      obtain ⟨⟨C, hC, hc, hn⟩, q2, q3⟩ := q
      refine PS.imp (ps_fld (o.ok X W T _ h1 g q2) (a.ok X W T _ h2 g q3) (noComp_sw h3)) fun D σ H ⟨env, S, F, ads, E, er, sm, hw, k⟩ => ?_
      refine ⟨env, S, F, ads, _, _, er, sm, hw, fun F1 ads1 S1 H1 y u x1 s1 r1 hh1 => ?_, k.xq.kx er⟩
      refine ⟨env, S1, F1, ads1, _, _, er.ext x1, s1, hh1, fun F2 ads2 S2 H2 d v x2 s2 r2 hh2 => ?_, (k.xq.kx er).ext x1⟩
      obtain ⟨i, fs, rfl, hS, hl, hq⟩ := hh2
      cases r2 with
      | han ha =>
        obtain ⟨a', ha', nF, C', dx, gs, hH, hn', ek, rs⟩ := s2.at hS
        rw [ha] at ha'; cases ha'
        have : C' = C := by
          have := hn'.symm.trans hC
          simpa using this
        subst this
        have hlen : gs.length = fs.length := by have := congrArg List.length ek; simpa using this
        obtain ⟨p1, p2⟩ := fs_put (f := _) (r1.ext x2) ek rs
        refine ⟨_, _, dx, gs, rfl, hH, hc, hn, by omega, ?_⟩
        obtain ⟨s3, x3⟩ := s2.put ha nF (.ins C' dx (putF _ u gs)) (o := .ins c (putD _ y fs)) ⟨nF, C', dx, _, upd_same, hn', p1, p2⟩
        have xx := (x1.trans x2).trans x3
        exact k.nx _ _ _ _ _ _ xx s3 (er.ext xx) hq
    · cases h
/-! ### methods -/
/-- a method of the text's class c keeps a promise -/
def MethAt (P : Program) (w : World) (K : Fg) (mg : Str → Option Value) (base : Heap) (k : Nat) (c m : Str) (n : Nat) (Ct0 : Ct) : Prop :=
  ∃ C a fd ps, PySem.W.nsIn K.K mainGlobals c = some (some (.ref C)) ∧ Cls K.K C ∧ Meth K.K C m a ∧ FnOk P w K.K mg base (L2.CX P w) k a fd ps (spOf K mg n Ct0) ∧ L2.Binds K.K fd ps []
theorem MethAt.mono {P : Program} {w : World} {K : Fg} {mg : Str → Option Value} {base : Heap} {j k n : Nat} {c m : Str} {Ct0 : Ct} (h : MethAt P w K mg base j c m n Ct0) (hk : j ≤ k) : MethAt P w K mg base k c m n Ct0 :=
  let ⟨C, a, fd, ps, h1, h2, h3, F, r⟩ := h
  ⟨C, a, fd, ps, h1, h2, h3, F.mono hk, r⟩
def MetOk (Z : Cy) (c m : Str) (n : Nat) (Ct0 : Ct) : Prop := ∃ k, MethAt Z.prog Z.w ⟨Z.K, Z.T⟩ Z.mg Z.base k c m n Ct0 ∧ Room k Z.A
def tMethS' (C : Addr) (m : Str) (sp : Sp) (E : L2.St → XK) (ta : TE) (t : TA) : TE := fun σ H Q => ta σ H fun x H1 => ∃ a dx fs, x = .ref a ∧ H1 a = some (.ins C dx fs) ∧ fs.lookup m = none ∧
  t σ H1 fun vs H2 => sp (x :: vs) H2 Q (E σ)
/-- o.m(..): the method is looked up, then called -/
theorem call_own {prog : Program} {w : World} {B : Around} {E : Value → Shared → Prop} {s : Shared} {en : PySem.Env} {ob : Expr} {nm : Str} {ap cp : Pos} {as : List Expr} {Q : Value → Shared → Prop}
    (h1 : attributeBase ob nm en (eval ob en) = eval ob en) (h2 : methodCallForm (as.length + ([] : List Keyword).length) (backTo cp (starEach as en)) (backToKw cp (keywordEach [] en)) = true) (h3 : (ap.endLine == cp.line) = true)
    (h : wpAny (model prog w) B (eval ob en) (fun ov s1 => ∀ pl, wpAny (model prog w) B (getMethod ov nm pl) (fun fx s2 => wpAny (model prog w) B (callWith cp fx.1 fx.2 (backTo cp (starEach as en)) (backToKw cp (keywordEach [] en))) Q E s2) E s1) E s) :
    wpAny (model prog w) B (eval (.Call (.Attribute ob nm ap) as [] cp) en) Q E s := by
  rw [arm_eval_Call, h1]
  have h4 : methodCallPos true ob en ap cp = pure cp := by
    unfold methodCallPos
    simp [h3]
  refine wpAny_bind (wpAny_mono h (fun ov s1 k1 => wpAny_bind (wpAny_standAt ?_)) fun _ _ z => z)
  unfold methodCall
  rw [h2]
  exact wpAny_bind (wpAny_holding (wpAny_mono (k1 _) (fun fx s2 k2 => wpAny_bind (wpAny_of_eq h4 k2)) fun _ _ z => z))
theorem few_ok {es : List Expr} {en : PySem.Env} {cp : Pos} (h : es.all noStar = true) (hl : es.length < 30) : methodCallForm (es.length + ([] : List Keyword).length) (backTo cp (starEach es en)) (backToKw cp (keywordEach [] en)) = true := by
  have h1 : (backTo cp (starEach es en)).all (fun x => !x.1) = true := by
    have := star_any (env := en) (pos := cp) h
    rw [List.all_eq_not_any_not]
    simpa using this
  unfold methodCallForm
  simp only [h1, Bool.true_and]
  simp [keywordEach, backToKw]
  exact hl
section
variable {X : Cx} {CX : CXT} {k : Nat} {f C : Addr} {fd : FuncData} {ps : List Str} {sp : Sp} {E : L2.St → XK} {x m : Str} {p cp ap : Pos} {e ob : Expr} {es : List Expr} {ta : TE} {t : TA}
theorem pe_methT (he : PE X ob ta) (cl : Cls X.K C) (mt : Meth X.K C m f) (F : FnOk X.prog X.w X.K X.mg X.base CX k f fd ps sp) (hr : Room k X.A) (hb : L2.Binds X.K fd ps []) (hx : ∀ σ, PassesAt CX X σ (E σ)) (ha : PA X (e :: es) t)
    (hs : (e :: es).all noStar = true) (hl : (e :: es).length < 30) (h1 : attributeBase ob m X.env (eval ob X.env) = eval ob X.env) (h3 : (ap.endLine == cp.line) = true) :
    PE X (.Call (.Attribute ob m ap) (e :: es) [] cp) (tMethS' C m sp E ta t) := by
  refine ⟨fun pn s0 σ H Q I0 h => ?_⟩
  have hs' := hs
  simp only [List.all_cons, Bool.and_eq_true] at hs'
  refine call_own h1 (few_ok hs hl) h3 (thn (he.run pn s0 σ H _ I0 h) fun u s1 ⟨x, H1, J1, rx, a, dx, fs, ex, ea, l, q⟩ => fun pl => ?_)
  subst ex
  cases (show u = Value.ref a from rx)
  refine getmeth_ok J1 ea cl mt l (PySem.W.callWith_K (first := [.ref a]) (h₀ := X.base) I0.ok.mod.kin mt.kp (thn (ha.run cp pn s1 σ H1 _ J1 q) fun us s2 ⟨vs, H2, J2, r, q2⟩ => ⟨J2.kIn, ?_⟩) (starEach_cons hs'.1) (star_any hs'.2))
  exact run_fnS (us := .ref a :: us) (vs := V.ref a :: vs) F hr hb (hx σ) J2 (.cons rfl r) q2
theorem pe_methT0 (he : PE X ob ta) (cl : Cls X.K C) (mt : Meth X.K C m f) (F : FnOk X.prog X.w X.K X.mg X.base CX k f fd ps sp) (hr : Room k X.A) (hb : L2.Binds X.K fd ps []) (hx : ∀ σ, PassesAt CX X σ (E σ))
    (h1 : attributeBase ob m X.env (eval ob X.env) = eval ob X.env) (h3 : (ap.endLine == cp.line) = true) :
    PE X (.Call (.Attribute ob m ap) [] [] cp) (tMethS' C m sp E ta tNil) := by
  refine ⟨fun pn s0 σ H Q I0 h => ?_⟩
  refine call_own h1 (few_ok (es := []) rfl (by decide)) h3 (thn (he.run pn s0 σ H _ I0 h) fun u s1 ⟨x, H1, J1, rx, a, dx, fs, ex, ea, l, q⟩ => fun pl => ?_)
  subst ex
  cases (show u = Value.ref a from rx)
  exact getmeth_ok J1 ea cl mt l (PySem.W.callWith_K0 (first := [.ref a]) J1.kIn mt.kp (run_fnS (us := [.ref a]) (vs := [V.ref a]) F hr hb (hx σ) J1 (.cons rfl .nil) q))
end
/-- o.m(e, ..) of an instance of c -/
def wMet (c m : Str) (C : Ct) (o : WE) (a : WL) : WE := fun env S Q X => o env S (fun d S1 => ∃ i fs, d = .han i ∧ S1[i]? = some (.ins c fs) ∧ getD' m fs = none ∧ a env S1 (fun ds S2 => C (d :: ds) S2 Q X) X) X
def metB (m : Str) (o : DE) (a : DA) (c : Sc) : Expr → Bool
  | .Call (.Attribute x n ap) (e :: es) [] cp => n == m && noCall x && o.mt c x && (ap.endLine == cp.line) && a.mt c (e :: es) && decide ((e :: es).length < 30)
  | _ => false
def DE.met (c m : Str) (C : Ct) (o : DE) (a : DA) : DE where
  mt s e := metB m o a s e
  wp := wMet c m C o.wp a.wp
  rq Z := MetOk Z c m (a.n + 1) C ∧ o.rq Z ∧ a.rq Z
  ok X W T e h g q := by
    obtain ⟨⟨k, ⟨Ca, ad, fd, ps, hC, hc, hm, F, hb⟩, hr⟩, q2, q3⟩ := q
    unfold metB at h
    split at h
    · simp only [Bool.and_eq_true, beq_iff_eq, decide_eq_true_eq] at h
      obtain ⟨⟨⟨⟨⟨rfl, h1⟩, h2⟩, h3⟩, h4⟩, h5⟩ := h
      obtain ⟨pa, hs⟩ := a.ok X W T _ h4 g q3
      refine PE.imp (pe_methT (E := L2.WE W) (o.ok X W T _ h2 g q2) hc hm F hr hb (fun σ => passAt g.tk σ) pa hs h5 (noCall_base h1) (by simpa using h3)) fun σ H Q ⟨env, S, F, ads, Qd, Xd, er, sm, hw, kv, kx⟩ => ?_
      refine ⟨env, S, F, ads, _, Xd, er, sm, hw, fun F1 ads1 S1 H1 d v x1 s1 r1 hh => ?_, kx⟩
      obtain ⟨i, fs, rfl, hS, hg, hw1⟩ := hh
      have r1' := r1
      cases r1 with
      | han ha =>
        obtain ⟨a', ha', nF, C', dx, gs, hH, hn', ek, rs⟩ := s1.at hS
        rw [ha] at ha'; cases ha'
        have : C' = Ca := by
          have := hn'.symm.trans hC
          simpa using this
        subst this
        refine ⟨_, dx, gs, rfl, hH, fs_none ek hg, env, S1, F1, ads1, _, Xd, er.ext x1, s1, hw1, fun F2 ads2 S2 H2 ds vs x2 s2 r2 l2 h2 => ?_, kx.ext x1⟩
        exact ⟨_ :: ds, S2, F2, ads2, Qd, Xd, by rw [List.length_cons, l2], s2, .cons (r1'.ext x2) r2, h2, kv.ext (x1.trans x2), fun F3 ads3 S3 H3 x x3 s3 h3 => kx _ _ _ _ _ ((x1.trans x2).trans x3) s3 h3⟩
    · cases h
def wMet0 (c m : Str) (C : Ct) (o : WE) : WE := fun env S Q X => o env S (fun d S1 => ∃ i fs, d = .han i ∧ S1[i]? = some (.ins c fs) ∧ getD' m fs = none ∧ C [d] S1 Q X) X
def DE.met0 (c m : Str) (C : Ct) (o : DE) : DE where
  mt s e := match e with
    | .Call (.Attribute x n ap) [] [] cp => n == m && noCall x && o.mt s x && (ap.endLine == cp.line)
    | _ => false
  wp := wMet0 c m C o.wp
  rq Z := MetOk Z c m 1 C ∧ o.rq Z
  ok X W T e h g q := by
    obtain ⟨⟨k, ⟨Ca, ad, fd, ps, hC, hc, hm, F, hb⟩, hr⟩, q2⟩ := q
    split at h
    · simp only [Bool.and_eq_true, beq_iff_eq, decide_eq_true_eq] at h
      obtain ⟨⟨⟨rfl, h1⟩, h2⟩, h3⟩ := h
      refine PE.imp (pe_methT0 (E := L2.WE W) (o.ok X W T _ h2 g q2) hc hm F hr hb (fun σ => passAt g.tk σ) (noCall_base h1) (by simpa using h3)) fun σ H Q ⟨env, S, F, ads, Qd, Xd, er, sm, hw, kv, kx⟩ => ?_
      refine ⟨env, S, F, ads, _, Xd, er, sm, hw, fun F1 ads1 S1 H1 d v x1 s1 r1 hh => ?_, kx⟩
      obtain ⟨i, fs, rfl, hS, hg, hw1⟩ := hh
      have r1' := r1
      cases r1 with
      | han ha =>
        obtain ⟨a', ha', nF, C', dx, gs, hH, hn', ek, rs⟩ := s1.at hS
        rw [ha] at ha'; cases ha'
        have : C' = Ca := by
          have := hn'.symm.trans hC
          simpa using this
        subst this
        refine ⟨_, dx, gs, rfl, hH, fs_none ek hg, ?_⟩
        exact ⟨[_], S1, F1, ads1, Qd, Xd, rfl, s1, .cons r1' .nil, hw1, kv.ext x1, fun F3 ads3 S3 H3 x x3 s3 h3 => kx _ _ _ _ _ (x1.trans x3) s3 h3⟩
    · cases h
/-! ### construction -/
def MakeAt (P : Program) (w : World) (K : Fg) (mg : Str → Option Value) (base : Heap) (k : Nat) (c : Str) (n : Nat) (Ct0 : Ct) : Prop :=
  ∃ C a fd ps, PySem.W.nsIn K.K mainGlobals c = some (some (.ref C)) ∧ mg c = some (.ref C) ∧ Mk K.K C a ∧ FnOk P w K.K mg base (L2.CX P w) k a fd ps (spOf K mg n Ct0) ∧ L2.Binds K.K fd ps []
def MakeOk (Z : Cy) (c : Str) (n : Nat) (Ct0 : Ct) : Prop := ∃ k, MakeAt Z.prog Z.w ⟨Z.K, Z.T⟩ Z.mg Z.base k c n Ct0 ∧ Room (k + 1) Z.A
section
variable {X : Cx} {CX : CXT} {k : Nat} {f C : Addr} {fd : FuncData} {ps : List Str} {sp : Sp} {E : L2.St → XK} {x m : Str} {p cp ap : Pos} {e ob : Expr} {es : List Expr} {ta : TE} {t : TA}
def tMakeS (C : Addr) (sp : Sp) (E : L2.St → XK) (t : TA) : TE := fun σ H Q => t σ H fun vs H1 => ∀ x dx, H1 x = none → H1 dx = none → dx ≠ x →
  sp (.ref x :: vs) (upd (upd H1 dx (.own x)) x (.ins C dx [])) (fun v H2 => v = .non ∧ Q (.ref x) H2) (E σ)
theorem run_makeS {pn : List (Addr × Obj)} {σ : L2.St} {H : Hp} {s0 : Shared} {Q : VK} {us : List Value} {vs : List V} (M : Mk X.K C f) (F : FnOk X.prog X.w X.K X.mg X.base CX k f fd ps sp) (hr : Room (k + 1) X.A) (hb : L2.Binds X.K fd ps [])
    (hx : PassesAt CX X σ (E σ)) (I0 : Inv X pn σ H s0) (r : Vals vs us)
    (h : ∀ x dx, H x = none → H dx = none → dx ≠ x → sp (.ref x :: vs) (upd (upd H dx (.own x)) x (.ins C dx [])) (fun v H2 => v = .non ∧ Q (.ref x) H2) (E σ)) :
    wpAny (model X.prog X.w) X.A (call (.ref C) us) (EP X pn σ Q) X.xe s0 := by
  have go := h (s0.heap.objs.size + 1) s0.heap.objs.size (I0.hok.fresh (Nat.le_succ _)) (I0.hok.fresh (Nat.le_refl _)) (Nat.ne_of_lt (Nat.lt_succ_self _))
  have J := Inv.made (C := C) I0
  have rr : Vals (V.ref (s0.heap.objs.size + 1) :: vs) (Value.ref (s0.heap.objs.size + 1) :: us) := .cons rfl r
  have hl : (Value.ref (s0.heap.objs.size + 1) :: us).length = ps.length := rr.length.symm.trans (F.len _ _ _ _ go)
  have bd := hb _ (Value.ref (s0.heap.objs.size + 1) :: us) J.kIn (by rw [List.append_nil]; exact hl)
  rw [List.append_nil] at bd
  refine wpAny_call (make_map (f := f) I0.kIn M.makes M.init (beq_iff_eq.mp M.fn) (codeAny_mono (F.run _ X.stack _ _ _ _ _ _ (E σ) (hr.make C us []) (J.env0.make C us []) bd rr go) fun fl s' z => ?_))
  match fl, z with
  | .error ev, z => exact hx pn _ _ ev s' J z
  | .ok (.ret u), z =>
    obtain ⟨v, H', J3, rv, ev, q3⟩ := J.after z
    subst ev
    exact ⟨rv, ⟨V.ref (s0.heap.objs.size + 1), H', J3, rfl, q3⟩⟩
  | .ok .next, z => exact False.elim z
  | .ok .brk, z => exact False.elim z
  | .ok .cont, z => exact False.elim z
theorem pe_makeS (M : Mk X.K C f) (F : FnOk X.prog X.w X.K X.mg X.base CX k f fd ps sp) (hr : Room (k + 1) X.A) (hg : Gl X x) (hm : X.mg x = some (.ref C)) (hb : L2.Binds X.K fd ps []) (hx : ∀ σ, PassesAt CX X σ (E σ))
    (ha : PA X (e :: es) t) (hdb : (x == ("__debug__" : Str)) = false) (hs : (e :: es).all noStar = true) : PE X (.Call (.Name x p) (e :: es) [] cp) (tMakeS C sp E t) := by
  have hs' := hs
  simp only [List.all_cons, Bool.and_eq_true] at hs'
  refine ⟨fun pn s0 σ H Q I0 h => wpAny_Call_Name_kw (ld_glob I0 hg hm (PySem.W.callWith_K (h₀ := X.base) I0.ok.mod.kin M.kp (thn (ha.run cp pn s0 σ H _ I0 h) fun us s1 ⟨vs, H1, J1, r, q⟩ => ⟨J1.kIn, ?_⟩) (starEach_cons hs'.1) (star_any hs'.2)) hdb)⟩
  exact run_makeS M F hr hb (hx σ) J1 r q
end
def wMake (c : Str) (C : Ct) (a : WL) : WE := fun env S Q X => a env S (fun ds S1 => C (.han S1.length :: ds) (S1 ++ [.ins c []]) (fun v S2 => v = .non ∧ Q (.han S1.length) S2) X) X
def DE.make (c : Str) (C : Ct) (a : DA) : DE where
  mt s e := match e with
    | .Call (.Name y _) (e :: es) [] _ => y == c && glB s c && !(c == ("__debug__" : Str)) && a.mt s (e :: es)
    | _ => false
  wp := wMake c C a.wp
  rq Z := MakeOk Z c (a.n + 1) C ∧ a.rq Z
  ok X W T e h g q := by
    obtain ⟨⟨k, ⟨Ca, ad, fd, ps, hC, hm, M, F, hb⟩, hr⟩, q2⟩ := q
    split at h
    · simp only [Bool.and_eq_true, beq_iff_eq, Bool.not_eq_true'] at h
      obtain ⟨⟨⟨rfl, h1⟩, h2⟩, h3⟩ := h
      obtain ⟨pa, hs⟩ := a.ok X W T _ h3 g q2
      refine PE.imp (pe_makeS (E := L2.WE W) M F hr (gl_of h1) hm hb (fun σ => passAt g.tk σ) pa h2 hs) fun σ H Q ⟨env, S, F, ads, Qd, Xd, er, sm, hw, kv, kx⟩ => ?_
      refine ⟨env, S, F, ads, _, Xd, er, sm, hw, fun F1 ads1 S1 H1 ds vs x1 s1 r1 l1 hh x dx nx nd ne => ?_, kx⟩
      obtain ⟨s2, x2⟩ := s1.frz nd (.own x)
      have nx2 : upd H1 dx (.own x) x = none := by rw [upd_ne (Ne.symm ne)]; exact nx
      obtain ⟨s3, x3⟩ := s2.thw nx2 (.ins Ca dx []) (.ins _ []) ⟨(s2.fresh nx2).2, Ca, dx, [], upd_same, hC, rfl, .nil⟩
      have xx := x2.trans x3
      have hx : (ads1 ++ [x])[S1.length]? = some x := by
        rw [← s1.len]
        simp
      have rx : Rp (kt X T) (upd F1 dx (.own x)) (ads1 ++ [x]) (.han S1.length) (.ref x) := .han hx
      refine ⟨.han S1.length :: ds, S1 ++ [.ins _ []], _, _, _, Xd, by rw [List.length_cons, l1], s3, .cons rx (r1.ext xx), hh, fun F4 ads4 S4 H4 d v x4 s4 r4 h4 => ?_, fun F4 ads4 S4 H4 z x4 s4 h4 => kx _ _ _ _ _ ((x1.trans xx).trans x4) s4 h4⟩
      obtain ⟨rfl, h4⟩ := h4
      cases r4
      exact ⟨rfl, kv _ _ _ _ _ _ ((x1.trans xx).trans x4) s4 (rx.ext x4) h4⟩
    · cases h
/-! ### len by an own __len__ -/
theorem cx_no {P : Program} {w : World} {st : List PySem.Env} {H : Hp} {s : Shared} {e : Value} {s' : Shared} (h : L2.CX P w st H s (fun _ _ _ => False) e s') : False := by
  obtain ⟨_, _, _, _, _, _, _, _, _, _, _, _, h⟩ := h
  exact h
theorem call_lenO {X : Cx} {k : Nat} {f C : Addr} {fd : FuncData} {ps : List Str} {sp : Sp} (F : FnOk X.prog X.w X.K X.mg X.base (L2.CX X.prog X.w) k f fd ps sp) (hr : Room (k + 1) X.A) (hb : L2.Binds X.K fd ps []) (mt : Meth X.K C "__len__" f) :
    CallR X (.builtin "len") (fun vs H Q => ∃ a dx fs, vs = [.ref a] ∧ H a = some (.ins C dx fs) ∧ sp [.ref a] H (fun v H' => ∃ n, v = .int n ∧ 0 ≤ n ∧ n < 2 ^ 63 ∧ Q (.int n) H') (fun _ _ _ => False)) := by
  intro pn s0 σ H vs us Q I0 r h
  obtain ⟨a, dx, fs, rfl, ea, hsp⟩ := h
  cases r with
  | cons r1 r2 =>
    cases r2
    cases r1
    obtain ⟨mA, J, _⟩ := ins_get I0.hok ea
    obtain ⟨od, J, _⟩ := J.look
    obtain ⟨m, hF⟩ := I0.fr
    refine PySem.W.len_K hF I0.ok.mod.kin J mt.at_ mt.fn ?_
    have hl := F.len _ _ _ _ hsp
    have bd := hb s0 [.ref a] I0.kIn (by rw [List.append_nil]; exact hl)
    rw [List.append_nil] at bd
    refine wpAny_call (codeAny_mono (F.run X.A.in1 X.stack s0 H _ _ _ _ (fun _ _ _ => False) hr.in1 I0.env0.in1 bd (.cons (show L2.RelV (.ref a) (.ref a) from rfl) .nil) hsp) fun fl s' z => ?_)
    match fl, z with
    | .error ev, z => exact (cx_no z).elim
    | .ok (.ret u), z =>
      obtain ⟨v, H', J3, rv, n, rfl, n0, n1, q3⟩ := I0.after z
      obtain ⟨t, rfl⟩ := rv
      exact ⟨⟨n0, n1⟩, .int n, H', J3.tok _, ⟨_, rfl⟩, q3⟩
    | .ok .next, z => exact False.elim z
    | .ok .brk, z => exact False.elim z
    | .ok .cont, z => exact False.elim z
def MetOk1 (Z : Cy) (c m : Str) (n : Nat) (Ct0 : Ct) : Prop := ∃ k, MethAt Z.prog Z.w ⟨Z.K, Z.T⟩ Z.mg Z.base k c m n Ct0 ∧ Room (k + 1) Z.A
def wLenO (c : Str) (C : Ct) (a : WE) : WE := fun env S Q X => a env S (fun d S1 => ∃ i fs, d = .han i ∧ S1[i]? = some (.ins c fs) ∧ C [d] S1 (fun v S2 => ∃ n, v = .int n ∧ 0 ≤ n ∧ n < 2 ^ 63 ∧ Q (.int n) S2) noX) X
def DE.lenO (c : Str) (C : Ct) (a : DE) : DE where
  mt s e := match e with
    | .Call (.Name x _) [y] [] _ => x == "len" && glB s "len" && noStar y && a.mt s y
    | _ => false
  wp := wLenO c C a.wp
  rq Z := Z.mg "len" = none ∧ MetOk1 Z c "__len__" 1 C ∧ a.rq Z
  ok X W T e h g q := by
    obtain ⟨q0, ⟨k, ⟨Ca, ad, fd, ps, hC, hc, hm, F, hb⟩, hr⟩, q2⟩ := q
    split at h
    · simp only [Bool.and_eq_true, beq_iff_eq] at h
      obtain ⟨⟨⟨rfl, h1⟩, h2⟩, h3⟩ := h
      refine PE.imp (pe_callB (call_lenO F hr hb hm) (gl_of h1) q0 PySem.boot_len (pa_cons (a.ok X W T _ h3 g q2) pa_nil (starEach_cons h2)) (by decide) (by decide) (starEach_cons h2) rfl) fun σ H Q ⟨env, S, F, ads, Qd, Xd, er, sm, hw, kv, kx⟩ => ?_
      refine ⟨env, S, F, ads, _, Xd, er, sm, hw, fun F1 ads1 S1 H1 d v x1 s1 r1 hh => ?_, kx⟩
      obtain ⟨i, fs, rfl, hS, hw1⟩ := hh
      have r1' := r1
      cases r1 with
      | han ha =>
        obtain ⟨a', ha', nF, C', dx, gs, hH, hn', ek, rs⟩ := s1.at hS
        rw [ha] at ha'; cases ha'
        have : C' = Ca := by
          have := hn'.symm.trans hC
          simpa using this
        subst this
        refine ⟨_, dx, gs, rfl, hH, [_], S1, F1, ads1, _, noX, rfl, s1, .cons r1' .nil, hw1, fun F2 ads2 S2 H2 d v x2 s2 r2 h2 => ?_, fun _ _ _ _ _ _ _ h => h⟩
        obtain ⟨n, rfl, n0, n1, h2⟩ := h2
        cases r2
        exact ⟨n, rfl, n0, n1, kv _ _ _ _ _ _ (x1.trans x2) s2 (.int n) h2⟩
    · cases h
/-! ### a method's promise -/
theorem met_ok {P : Program} {w : World} {K : Fg} {mg : Str → Option Value} {base : Heap} {x y : Str} {st : Stmt} {f : Addr} {oc : Value} {od an : Option Addr} {osl : Array (Option Value)} {kV doc pm cdv ct : Value} {N ps : List Str} {k n : Nat} {b : DB} {C : Ct}
    (l : K.K.lookup f = some ⟨oc, od, .func (PySem.W.fnOf x y (defArgs st) (defBody st) (defScope st) .none kV doc pm an cdv ct), osl⟩) (hcd : PySem.W.codeIn K.K cdv y = true) (S : FnScope N ps (defScope st)) (hn : ps.length = n)
    (hm : b.mt ⟨N, defScope st, fun _ => true⟩ (defBody st) = true) (hw : ∀ {ds S Q X}, C ds S Q X → ctOf N.length b ds S Q X) (hq : ∀ A, Room k A → b.rq ⟨P, w, K.K, mg, base, A, cdv, y ++ ".<locals>.", K.T⟩) :
    FnOk P w K.K mg base (L2.CX P w) (k + 1) f (PySem.W.fnOf x y (defArgs st) (defBody st) (defScope st) .none kV doc pm an cdv ct) ps (spOf K mg n C) := by
  refine sp_imp (fn_of l hcd S (fun vs H Q E ⟨ds, S, F, ads, Qd, Xd, hl, sm, rs, _⟩ => by rw [← rs.length, hl, hn]) fun A outer s H vs Q E hr hsp => ?_) fun _ _ _ _ => hw
  obtain ⟨ds, S0, F0, ads, Qd, Xd, hl, sm, rs, hc, kv, kx⟩ := hsp
  have gd : Good (cxOf (L2.CX P w) P w K.K mg base N y (defScope st) f cdv A outer s H E) (fun cls d _ H => E cls d H) :=
    ⟨rfl, S.nd, takes_of rfl rfl rfl rfl, passes_of rfl, by have := hr.un; show (A.deeper _).units + 200 < cLine; omega, by have := hr.dp; show (A.deeper _).depth + 5 < recursionLimit; omega⟩
  refine ⟨_, b.ok _ _ K.T _ hm gd ⟨S.kind, rfl, rfl, rfl⟩ (hq _ hr), ?_⟩
  refine ⟨startD N.length ds, S0, F0, ads, _, start_r rs, sm, hc, fun F1 ads1 S1 H1 env1 σ1 x1 s1 _ h1 => kv _ _ _ _ _ _ x1 s1 .non h1, kv, fun _ _ _ _ _ _ _ _ _ h => h.elim, fun _ _ _ _ _ _ _ _ _ h => h.elim, fun F1 ads1 S1 H1 env1 σ1 x x1 s1 _ h1 => kx _ _ _ _ _ x1 s1 h1⟩
theorem y9 (c : Str) (a : DE) (f : Str) : (DE.fld c a f).wp = wFld c f a.wp := rfl
theorem y10 (c : Str) (o : DE) (f : Str) (a : DE) : (DS.fld c o f a).wp = wSetF c f o.wp a.wp := rfl
theorem y11 (c m : Str) (C : Ct) (o : DE) (a : DA) : (DE.met c m C o a).wp = wMet c m C o.wp a.wp := rfl
theorem y12 (c m : Str) (C : Ct) (o : DE) : (DE.met0 c m C o).wp = wMet0 c m C o.wp := rfl
theorem y13 (c : Str) (C : Ct) (a : DA) : (DE.make c C a).wp = wMake c C a.wp := rfl
theorem y14 (c : Str) (C : Ct) (a : DE) : (DE.lenO c C a).wp = wLenO c C a.wp := rfl
theorem r9 (c : Str) (a : DE) (f : Str) (Z : Cy) : (DE.fld c a f).rq Z = (FldOk Z c f ∧ a.rq Z) := rfl
theorem r10 (c : Str) (o : DE) (f : Str) (a : DE) (Z : Cy) : (DS.fld c o f a).rq Z = (FldOk Z c f ∧ o.rq Z ∧ a.rq Z) := rfl
theorem r11 (c m : Str) (C : Ct) (o : DE) (a : DA) (Z : Cy) : (DE.met c m C o a).rq Z = (MetOk Z c m (a.n + 1) C ∧ o.rq Z ∧ a.rq Z) := rfl
theorem r12 (c m : Str) (C : Ct) (o : DE) (Z : Cy) : (DE.met0 c m C o).rq Z = (MetOk Z c m 1 C ∧ o.rq Z) := rfl
theorem r13 (c : Str) (C : Ct) (a : DA) (Z : Cy) : (DE.make c C a).rq Z = (MakeOk Z c (a.n + 1) C ∧ a.rq Z) := rfl
theorem r14 (c : Str) (C : Ct) (a : DE) (Z : Cy) : (DE.lenO c C a).rq Z = (Z.mg "len" = none ∧ MetOk1 Z c "__len__" 1 C ∧ a.rq Z) := rfl
/-! ### the fields of a session -/
def sesF (n c e d u : D) : List (Str × D) := [("size", n), ("current", c), ("earlier", e), ("done", d), ("undone", u)]
section
variable (n c e d u x : D)
theorem sg0 : getD' "size" (sesF n c e d u) = some n := by simp [getD', sesF]
theorem sg1 : getD' "current" (sesF n c e d u) = some c := rfl
theorem sg2 : getD' "earlier" (sesF n c e d u) = some e := rfl
theorem sg3 : getD' "done" (sesF n c e d u) = some d := rfl
theorem sg4 : getD' "undone" (sesF n c e d u) = some u := rfl
theorem sn0 : getD' "add" (sesF n c e d u) = none := rfl
theorem sn1 : getD' "remove" (sesF n c e d u) = none := rfl
theorem sn2 : getD' "generators" (sesF n c e d u) = none := rfl
theorem sn3 : getD' "rows" (sesF n c e d u) = none := rfl
theorem sn4 : getD' "contains" (sesF n c e d u) = none := rfl
theorem sn5 : getD' "relation" (sesF n c e d u) = none := rfl
theorem sn6 : getD' "is_relation" (sesF n c e d u) = none := rfl
theorem sn7 : getD' "undo" (sesF n c e d u) = none := rfl
theorem sn8 : getD' "redo" (sesF n c e d u) = none := rfl
theorem sn9 : getD' "perform" (sesF n c e d u) = none := rfl
theorem sp1 : putD "current" x (sesF n c e d u) = sesF n x e d u := rfl
theorem sp4 : putD "undone" x (sesF n c e d u) = sesF n c e d x := rfl
def s1F (n : D) : List (Str × D) := [("size", n)]
def s2F (n c : D) : List (Str × D) := [("size", n), ("current", c)]
def s3F (n c e : D) : List (Str × D) := [("size", n), ("current", c), ("earlier", e)]
def s4F (n c e d : D) : List (Str × D) := [("size", n), ("current", c), ("earlier", e), ("done", d)]
theorem sl1 : (s1F n).length = 1 := rfl
theorem sl2 : (s2F n c).length = 2 := rfl
theorem sl3 : (s3F n c e).length = 3 := rfl
theorem sl4 : (s4F n c e d).length = 4 := rfl
theorem si0 : putD "size" n [] = s1F n := rfl
theorem si1 : putD "current" c (s1F n) = s2F n c := rfl
theorem si2 : putD "earlier" e (s2F n c) = s3F n c e := rfl
theorem si3 : putD "done" d (s3F n c e) = s4F n c e d := rfl
theorem si4 : putD "undone" u (s4F n c e d) = sesF n c e d u := rfl
theorem sl0 : (sesF n c e d u).length = 5 := rfl
end
/-! #### MA -/
/-! Rows of whole numbers: lattices, sifting, the normal form. -/
def plusV (u : List Int) (k : Int) (v : List Int) : List Int := (u.zip v).map fun p => p.1 + k * p.2
def gt (v : List Int) (i : Nat) : Int := v.getD i 0
def zb (p : Nat) (v : List Int) : Prop := ∀ i, i < p → gt v i = 0
theorem gt_lt {v : List Int} {i : Nat} (h : i < v.length) : gt v i = v[i] := by simp [gt, h]
theorem gt_ge {v : List Int} {i : Nat} (h : v.length ≤ i) : gt v i = 0 := by simp [gt, h]
theorem plus_len {u v : List Int} {k : Int} (h : u.length = v.length) : (plusV u k v).length = u.length := by simp [plusV, h]
theorem gt_plus {u v : List Int} (h : u.length = v.length) (k : Int) (i : Nat) : gt (plusV u k v) i = gt u i + k * gt v i := by
  by_cases hi : i < u.length
  · rw [gt_lt (by rw [plus_len h]; exact hi), gt_lt hi, gt_lt (by omega)]
    simp [plusV]
  · rw [gt_ge (by rw [plus_len h]; omega), gt_ge (by omega), gt_ge (by omega)]
    simp
theorem ext_gt {u v : List Int} (h : u.length = v.length) (e : ∀ i, i < u.length → gt u i = gt v i) : u = v := by
  apply List.ext_getElem h
  intro i h1 h2
  have := e i h1
  rwa [gt_lt h1, gt_lt h2] at this
theorem gt_zero (m i : Nat) : gt (List.replicate m 0) i = 0 := by
  by_cases h : i < m
  · rw [gt_lt (by simpa using h)]; simp
  · rw [gt_ge (by simpa using Nat.le_of_not_lt h)]
/-- the vectors that rows of length m generate -/
inductive Lat (m : Nat) (R : List (List Int)) : List Int → Prop
  | zero : Lat m R (List.replicate m 0)
  | add {v r : List Int} (k : Int) : Lat m R v → r ∈ R → Lat m R (plusV v k r)
def Len (m : Nat) (R : List (List Int)) : Prop := ∀ r ∈ R, r.length = m
theorem Lat.len {m : Nat} {R : List (List Int)} (hR : Len m R) {v : List Int} (h : Lat m R v) : v.length = m := by
  induction h with
  | zero => simp
  | add k _ hr ih => rw [plus_len (by rw [ih, hR _ hr]), ih]
theorem Lat.comb {m : Nat} {R : List (List Int)} (hR : Len m R) {u v : List Int} (hu : Lat m R u) (k : Int) (hv : Lat m R v) : Lat m R (plusV u k v) := by
  induction hv generalizing u k with
  | zero =>
    have : plusV u k (List.replicate m 0) = u := by
      have lu := hu.len hR
      apply ext_gt
      · rw [plus_len (by simp [lu])]
      · intro i _
        rw [gt_plus (by simp [lu]), gt_zero]; simp
    rw [this]; exact hu
  | add j hv hr ih =>
    rename_i v r
    have lu := hu.len hR
    have lv := hv.len hR
    have lr := hR _ hr
    have e : plusV u k (plusV v j r) = plusV (plusV u k v) (k * j) r := by
      have l1 : (plusV v j r).length = m := by rw [plus_len (by omega), lv]
      have l2 : (plusV u k v).length = m := by rw [plus_len (by omega), lu]
      apply ext_gt
      · rw [plus_len (by omega), plus_len (by omega), l2, lu]
      · intro i _
        rw [gt_plus (by omega), gt_plus (by omega), gt_plus (by omega), gt_plus (by omega)]
        grind
    rw [e]
    exact .add _ (ih hu k) hr
theorem Lat.of_mem {m : Nat} {R : List (List Int)} {r : List Int} (hr : r ∈ R) (hl : r.length = m) : Lat m R r := by
  have e : plusV (List.replicate m 0) 1 r = r := by
    apply ext_gt
    · rw [plus_len (by simp [hl])]; simp [hl]
    · intro i _
      rw [gt_plus (by simp [hl]), gt_zero]; simp
  rw [← e]
  exact .add _ .zero hr
theorem Lat.mono {m : Nat} {R T : List (List Int)} (hT : Len m T) (h : ∀ r ∈ R, Lat m T r) {v : List Int} (hv : Lat m R v) : Lat m T v := by
  induction hv with
  | zero => exact .zero
  | add k _ hr ih => exact ih.comb hT k (h _ hr)
/-- the normal form of a set of vectors, by places -/
def EchP (m p : Nat) (L : List Int → Prop) (g : Nat → Option (List Int)) : Prop := ∀ q, q < p →
  (g q = none → ∀ v, L v → zb q v → gt v q = 0) ∧ ∀ f, g q = some f → L f ∧ f.length = m ∧ zb q f ∧ 0 < gt f q ∧ (∀ v, L v → zb q v → gt f q ∣ gt v q) ∧ ∀ r f', q < r → r < p → g r = some f' → 0 ≤ gt f r ∧ gt f r < gt f' r
def rowsOf (p : Nat) (g : Nat → Option (List Int)) : List (List Int) := (List.range p).filterMap g
/-- it is one -/
theorem ech_uniq {m : Nat} {R T : List (List Int)} (hR : Len m R) (hT : Len m T) (e : ∀ v, Lat m R v ↔ Lat m T v) {g h : Nat → Option (List Int)} (hg : EchP m m (Lat m R) g) (hh : EchP m m (Lat m T) h) : ∀ q, q < m → g q = h q := by
  intro q hq
  obtain ⟨g0, g1⟩ := hg q hq
  obtain ⟨h0, h1⟩ := hh q hq
  cases eg : g q with
  | none =>
    cases eh : h q with
    | none => rfl
    | some f =>
      obtain ⟨a, b, c, d, _⟩ := h1 f eh
      have := g0 eg f ((e f).mpr a) c
      omega
  | some f =>
    cases eh : h q with
    | none =>
      obtain ⟨a, b, c, d, _⟩ := g1 f eg
      have := h0 eh f ((e f).mp a) c
      omega
    | some f' =>
      obtain ⟨a, b, c, d, i, j⟩ := g1 f eg
      obtain ⟨a', b', c', d', i', j'⟩ := h1 f' eh
      have lt : Lat m R f' := (e f').mpr a'
      have ep : gt f q = gt f' q := Int.dvd_antisymm (by omega) (by omega) (i f' lt c') (i' f ((e f).mp a) c)
      congr 1
      apply ext_gt (by omega)
      -- place by place
      have key : ∀ r, ∀ s, s < r → s < m → gt f s = gt f' s := by
        intro r
        induction r with
        | zero => intro s hs; omega
        | succ r ih =>
          intro s hs hm
          by_cases hsr : s < r
          · exact ih s hsr hm
          · have es : s = r := by omega
            subst es
            by_cases h2 : s < q
            · rw [c s h2, c' s h2]
            · by_cases h3 : s = q
              · rw [h3]; exact ep
              · have hlt : q < s := by omega
                have dL : Lat m R (plusV f (-1) f') := a.comb hR _ lt
                have dz : zb s (plusV f (-1) f') := fun t ht => by
                  rw [gt_plus (by omega), ih t ht (by omega)]; omega
                have ed : gt (plusV f (-1) f') s = gt f s - gt f' s := by rw [gt_plus (by omega)]; omega
                cases es : g s with
                | none =>
                  have := (hg s hm).1 es _ dL dz
                  omega
                | some w =>
                  obtain ⟨_, _, wz, wp, wd, _⟩ := (hg s hm).2 w es
                  have dv := wd _ dL dz
                  rw [ed] at dv
                  cases es' : h s with
                  | none =>
                    have := (hh s hm).1 es' _ ((e w).mp (by assumption)) wz
                    omega
                  | some w' =>
                    obtain ⟨wL', _, wz', wp', wd', _⟩ := (hh s hm).2 w' es'
                    obtain ⟨wL, _⟩ := (hg s hm).2 w es
                    have ew : gt w s = gt w' s := Int.dvd_antisymm (by omega) (by omega) (wd w' ((e w').mpr wL') wz') (wd' w ((e w).mp wL) wz)
                    obtain ⟨x1, x2⟩ := j s w hlt hm es
                    obtain ⟨y1, y2⟩ := j' s w' hlt hm es'
                    obtain ⟨c, hc⟩ := dv
                    have : c = 0 := by
                      by_cases hc1 : 1 ≤ c
                      · have : gt w s * 1 ≤ gt w s * c := Int.mul_le_mul_of_nonneg_left hc1 (by omega)
                        omega
                      · by_cases hc2 : c ≤ -1
                        · have : gt w s * c ≤ gt w s * (-1) := Int.mul_le_mul_of_nonneg_left hc2 (by omega)
                          omega
                        · omega
                    subst this
                    omega
      intro i hi
      exact key (i + 1) i (by omega) (by omega)
/-! #### MB -/
theorem fm_pos (a : Int) {b : Int} (h : 0 < b) : 0 ≤ a.fmod b ∧ a.fmod b < b := ⟨Int.fmod_nonneg_of_pos a h, Int.fmod_lt_of_pos a h⟩
theorem fm_neg (a : Int) {b : Int} (h : b < 0) : b < a.fmod b ∧ a.fmod b ≤ 0 := by
  have e := Int.neg_fmod_neg a b
  have := fm_pos (-a) (b := -b) (by omega)
  omega
theorem fm_abs (a : Int) {b : Int} (h : b ≠ 0) : (a.fmod b).natAbs < b.natAbs := by
  by_cases hb : 0 < b
  · have := fm_pos a hb; omega
  · have := fm_neg a (b := b) (by omega); omega
theorem fd_abs (a : Int) {b : Int} (h : b ≠ 0) : (a.fdiv b).natAbs * b.natAbs ≤ a.natAbs + b.natAbs := by
  have e := Int.mul_fdiv_add_fmod a b
  have := fm_abs a h
  rw [← Int.natAbs_mul, Int.mul_comm]
  omega
theorem fm_half {a b : Int} (hs : (0 < a ∧ 0 < b) ∨ (a < 0 ∧ b < 0)) (hl : b.natAbs ≤ a.natAbs) : 2 * (a.fmod b).natAbs ≤ a.natAbs := by
  have e := Int.mul_fdiv_add_fmod a b
  rcases hs with ⟨h1, h2⟩ | ⟨h1, h2⟩
  · have f := fm_pos a h2
    have q : 1 ≤ a.fdiv b := by
      by_cases q : a.fdiv b ≤ 0
      · have : b * a.fdiv b ≤ b * 0 := Int.mul_le_mul_of_nonneg_left q (by omega)
        omega
      · omega
    have : b * 1 ≤ b * a.fdiv b := Int.mul_le_mul_of_nonneg_left q (by omega)
    omega
  · have f := fm_neg a h2
    have q : 1 ≤ a.fdiv b := by
      by_cases q : a.fdiv b ≤ 0
      · have : (-b) * a.fdiv b ≤ (-b) * 0 := Int.mul_le_mul_of_nonneg_left q (by omega)
        simp only [Int.neg_mul] at this
        omega
      · omega
    have : (-b) * 1 ≤ (-b) * a.fdiv b := Int.mul_le_mul_of_nonneg_left q (by omega)
    simp only [Int.neg_mul] at this
    omega
def red (p : Nat) (f u : List Int) : List Int := plusV u (-((gt u p).fdiv (gt f p))) f
theorem red_len {p : Nat} {f u : List Int} (h : u.length = f.length) : (red p f u).length = u.length := plus_len h
theorem red_gt {p : Nat} {f u : List Int} (h : u.length = f.length) (i : Nat) : gt (red p f u) i = gt u i - (gt u p).fdiv (gt f p) * gt f i := by
  unfold red
  rw [gt_plus h, Int.neg_mul]
  omega
theorem red_at {p : Nat} {f u : List Int} (h : u.length = f.length) : gt (red p f u) p = (gt u p).fmod (gt f p) := by
  rw [red_gt h, Int.fmod_def, Int.mul_comm]
theorem red_zb {p : Nat} {f u : List Int} (h : u.length = f.length) (hu : zb p u) (hf : zb p f) : zb p (red p f u) := fun i hi => by
  rw [red_gt h, hu i hi, hf i hi]; omega
theorem red_lat {m p : Nat} {R : List (List Int)} (hR : Len m R) {f u : List Int} (hu : Lat m R u) (hf : Lat m R f) : Lat m R (red p f u) := hu.comb hR _ hf
def Bd (E : Nat) (v : List Int) : Prop := ∀ x ∈ v, x.natAbs ≤ E
theorem Bd.mono {E E' : Nat} {v : List Int} (h : Bd E v) (e : E ≤ E') : Bd E' v := fun x hx => Nat.le_trans (h x hx) e
theorem Bd.at {E : Nat} {v : List Int} (h : Bd E v) (i : Nat) : (gt v i).natAbs ≤ E := by
  by_cases hi : i < v.length
  · rw [gt_lt hi]; exact h _ (List.getElem_mem hi)
  · rw [gt_ge (by omega)]; simp
theorem Bd.plus {E : Nat} {u v : List Int} {k : Int} (hu : Bd E u) (hv : Bd E v) : Bd (E * (1 + k.natAbs)) (plusV u k v) := by
  intro x hx
  unfold plusV at hx
  rw [List.mem_map] at hx
  obtain ⟨⟨a, b⟩, hm, rfl⟩ := hx
  have h := List.of_mem_zip hm
  have h1 := hu a h.1
  have h2 := hv b h.2
  have h3 : (k * b).natAbs ≤ k.natAbs * E := by rw [Int.natAbs_mul]; exact Nat.mul_le_mul (Nat.le_refl _) h2
  have h4 : E * (1 + k.natAbs) = E + k.natAbs * E := by rw [Nat.mul_add, Nat.mul_one, Nat.mul_comm]
  show (a + k * b).natAbs ≤ _
  rw [h4]
  omega
theorem mem_plus {u v : List Int} {k x : Int} (h : x ∈ plusV u k v) : ∃ a ∈ u, ∃ b ∈ v, x = a + k * b := by
  unfold plusV at h
  rw [List.mem_map] at h
  obtain ⟨⟨a, b⟩, hm, rfl⟩ := h
  have h := List.of_mem_zip hm
  exact ⟨a, h.1, b, h.2, rfl⟩
/-- the state of the inner loop -/
structure WInv (m p : Nat) (R : List (List Int)) (E0 : Nat) (so re : List (List Int)) : Prop where
  s1 : ∀ u ∈ so, Lat m R u ∧ zb p u ∧ gt u p ≠ 0
  r1 : ∀ u ∈ re, Lat m R u ∧ zb (p + 1) u
  cl : ∀ v, Lat m R v → zb p v → Lat m (so ++ re) v
  bd : ∃ E M, (∀ u ∈ so ++ re, Bd E u) ∧ (∀ u ∈ so, (gt u p).natAbs ≤ M) ∧ M ≤ E0 ∧
    ((E ≤ E0 ∧ M ≤ E0) ∨ (((∀ u ∈ so, 0 < gt u p) ∨ (∀ u ∈ so, gt u p < 0)) ∧ ∃ w ∈ so, E * M * (M * (gt w p).natAbs) ^ 2 ≤ 3 * E0 ^ 6) ∨ (so.length ≤ 1 ∧ E ≤ 9 * E0 ^ 6))
def wsum (p : Nat) : List (List Int) → Nat
  | [] => 0
  | u :: r => (gt u p).natAbs + wsum p r
theorem wsum_perm {p : Nat} {a b : List (List Int)} (h : a.Perm b) : wsum p a = wsum p b := by
  induction h with
  | nil => rfl
  | cons x _ ih => simp only [wsum, ih]
  | swap x y l => simp only [wsum]; omega
  | trans _ _ i j => rw [i, j]
theorem wsum_filter {p : Nat} {a : List (List Int)} {q : List Int → Bool} : wsum p (a.filter q) ≤ wsum p a := by
  induction a with
  | nil => simp [wsum]
  | cons x r ih =>
    rw [List.filter_cons]
    split
    · simp only [wsum]; omega
    · simp only [wsum]; omega
theorem WInv.perm {m p : Nat} {R : List (List Int)} {E0 : Nat} {so so' re : List (List Int)} (hR : Len m R) (h : WInv m p R E0 so re) (hp : so'.Perm so) : WInv m p R E0 so' re := by
  have hm : ∀ u, u ∈ so' ↔ u ∈ so := fun u => hp.mem_iff
  have hl : so'.length = so.length := hp.length_eq
  obtain ⟨E, M, b1, b2, b3, b4⟩ := h.bd
  refine ⟨fun u hu => h.s1 u ((hm u).mp hu), h.r1, fun v hv hz => ?_, E, M, fun u hu => ?_, fun u hu => b2 u ((hm u).mp hu), b3, ?_⟩
  · refine Lat.mono (fun r hr => ?_) (fun r hr => Lat.of_mem ?_ ?_) (h.cl v hv hz)
    · rcases List.mem_append.mp hr with q | q
      · exact (h.s1 r ((hm r).mp q)).1.len hR
      · exact (h.r1 r q).1.len hR
    · rcases List.mem_append.mp hr with q | q
      · exact List.mem_append_left _ ((hm r).mpr q)
      · exact List.mem_append_right _ q
    · rcases List.mem_append.mp hr with q | q
      · exact (h.s1 r q).1.len hR
      · exact (h.r1 r q).1.len hR
  · refine b1 u ?_
    rcases List.mem_append.mp hu with q | q
    · exact List.mem_append_left _ ((hm u).mp q)
    · exact List.mem_append_right _ q
  · rcases b4 with q | ⟨q, w, hw, q2⟩ | ⟨q, q2⟩
    · exact .inl q
    · refine .inr (.inl ⟨?_, w, (hm w).mpr hw, q2⟩)
      rcases q with q | q
      · exact .inl fun u hu => q u ((hm u).mp hu)
      · exact .inr fun u hu => q u ((hm u).mp hu)
    · exact .inr (.inr ⟨by omega, q2⟩)
theorem pot2 {E E' M K l w r : Nat} (h : E' * l ≤ 3 * (E * M)) (hl : l ≤ w) (hr : 2 * r ≤ M) (hK : E * M * (M * w) ^ 2 ≤ K) : E' * l * (l * r) ^ 2 ≤ K := by
  have a : E' * l * ((l * (2 * r)) ^ 2) ≤ 3 * (E * M) * ((w * M) ^ 2) := Nat.mul_le_mul h (Nat.pow_le_pow_left (Nat.mul_le_mul hl hr) 2)
  have b : E' * l * ((l * (2 * r)) ^ 2) = 4 * (E' * l * (l * r) ^ 2) := by grind
  have c : 3 * (E * M) * ((w * M) ^ 2) = 3 * (E * M * (M * w) ^ 2) := by grind
  rw [b, c] at a
  omega
theorem pot1 {E E' M E0 l r : Nat} (h : E' * l ≤ 3 * (E * M)) (hE : E ≤ E0) (hM : M ≤ E0) (hl : l ≤ E0) (hr : r ≤ E0) : E' * l * (l * r) ^ 2 ≤ 3 * E0 ^ 6 := by
  have h' : E' * l ≤ 3 * (E0 * E0) := Nat.le_trans h (Nat.mul_le_mul (Nat.le_refl _) (Nat.mul_le_mul hE hM))
  have a : E' * l * (l * r) ^ 2 ≤ 3 * (E0 * E0) * (E0 * E0) ^ 2 := Nat.mul_le_mul h' (Nat.pow_le_pow_left (Nat.mul_le_mul hl hr) 2)
  have b : 3 * (E0 * E0) * (E0 * E0) ^ 2 = 3 * E0 ^ 6 := by grind
  omega
theorem one_le_pow6 {E : Nat} (h : 1 ≤ E) : E * E ≤ E ^ 6 := by
  have : E ^ 2 ≤ E ^ 6 := Nat.pow_le_pow_right h (by omega)
  have e : E ^ 2 = E * E := by grind
  omega
/-- one turn of the inner loop -/
theorem WInv.step {m p : Nat} {R : List (List Int)} {E0 : Nat} {f : List Int} {tl re : List (List Int)} (hR : Len m R) (h : WInv m p R E0 (f :: tl) re) (ht : tl ≠ []) (hs : ∀ u ∈ tl, (gt f p).natAbs ≤ (gt u p).natAbs) :
    WInv m p R E0 (f :: (tl.map (red p f)).filter (fun u => gt u p != 0)) (re ++ (tl.map (red p f)).filter (fun u => gt u p == 0)) ∧
    wsum p (f :: (tl.map (red p f)).filter (fun u => gt u p != 0)) < wsum p (f :: tl) := by
  obtain ⟨fL, fz, fn⟩ := h.s1 f List.mem_cons_self
  have fl := fL.len hR
  have tL : ∀ u ∈ tl, Lat m R u ∧ zb p u ∧ gt u p ≠ 0 := fun u hu => h.s1 u (List.mem_cons_of_mem _ hu)
  have tl' : ∀ u ∈ tl, u.length = f.length := fun u hu => by rw [(tL u hu).1.len hR, fl]
  have rl : ∀ u ∈ re, u.length = m := fun u hu => (h.r1 u hu).1.len hR
  have sL : ∀ u ∈ tl.map (red p f), Lat m R u ∧ zb p u := fun u hu => by
    obtain ⟨w, hw, rfl⟩ := List.mem_map.mp hu
    exact ⟨red_lat hR (tL w hw).1 fL, red_zb (tl' w hw) (tL w hw).2.1 fz⟩
  have hLn : Len m (f :: (tl.map (red p f)).filter (fun u => gt u p != 0) ++ (re ++ (tl.map (red p f)).filter (fun u => gt u p == 0))) := by
    intro r hr
    simp only [List.cons_append, List.mem_cons, List.mem_append, List.mem_filter] at hr
    rcases hr with rfl | ⟨q, _⟩ | q | ⟨q, _⟩
    · exact fl
    · exact (sL r q).1.len hR
    · exact rl r q
    · exact (sL r q).1.len hR
  refine ⟨⟨?_, ?_, ?_, ?_⟩, ?_⟩
  · intro u hu
    rcases List.mem_cons.mp hu with rfl | q
    · exact ⟨fL, fz, fn⟩
    · obtain ⟨q1, q2⟩ := List.mem_filter.mp q
      exact ⟨(sL u q1).1, (sL u q1).2, by simpa using q2⟩
  · intro u hu
    rcases List.mem_append.mp hu with q | q
    · exact h.r1 u q
    · obtain ⟨q1, q2⟩ := List.mem_filter.mp q
      refine ⟨(sL u q1).1, fun i hi => ?_⟩
      by_cases e : i = p
      · subst e; simpa using q2
      · exact (sL u q1).2 i (by omega)
  · intro v hv hz
    refine Lat.mono hLn (fun r hr => ?_) (h.cl v hv hz)
    have fm : f ∈ (f :: (tl.map (red p f)).filter (fun u => gt u p != 0) ++ (re ++ (tl.map (red p f)).filter (fun u => gt u p == 0))) := by simp
    simp only [List.cons_append, List.mem_cons, List.mem_append] at hr
    rcases hr with rfl | q | q
    · exact Lat.of_mem fm fl
    · have e : r = plusV (red p f r) ((gt r p).fdiv (gt f p)) f := by
        have l1 := tl' r q
        have l2 := red_len (p := p) l1
        apply ext_gt
        · rw [plus_len (by omega), l2]
        · intro i _
          rw [gt_plus (by omega), red_gt l1]; omega
      have hmem : red p f r ∈ tl.map (red p f) := List.mem_map_of_mem q
      have : Lat m (f :: (tl.map (red p f)).filter (fun u => gt u p != 0) ++ (re ++ (tl.map (red p f)).filter (fun u => gt u p == 0))) (red p f r) := by
        refine Lat.of_mem ?_ ((sL _ hmem).1.len hR)
        simp only [List.cons_append, List.mem_cons, List.mem_append, List.mem_filter]
        by_cases z : gt (red p f r) p = 0
        · exact .inr (.inr (.inr ⟨hmem, by simp [z]⟩))
        · exact .inr (.inl ⟨hmem, by simp [z]⟩)
      rw [e]
      exact this.comb hLn _ (Lat.of_mem fm fl)
    · exact Lat.of_mem (by simp [q]) (rl r q)
  · obtain ⟨E, M, b1, b2, b3, b4⟩ := h.bd
    have hl0 : 1 ≤ (gt f p).natAbs := by omega
    have hlM := b2 f List.mem_cons_self
    have hE' : E * (3 * M / (gt f p).natAbs) * (gt f p).natAbs ≤ 3 * (E * M) := by
      rw [Nat.mul_assoc]
      have : 3 * M / (gt f p).natAbs * (gt f p).natAbs ≤ 3 * M := Nat.div_mul_le_self _ _
      calc _ ≤ E * (3 * M) := Nat.mul_le_mul (Nat.le_refl _) this
        _ = 3 * (E * M) := by grind
    have h1 : 1 ≤ 3 * M / (gt f p).natAbs := (Nat.le_div_iff_mul_le (by omega)).mpr (by omega)
    have hEE : E ≤ E * (3 * M / (gt f p).natAbs) := by
      calc E = E * 1 := by omega
        _ ≤ _ := Nat.mul_le_mul (Nat.le_refl _) h1
    have bR : ∀ u ∈ tl.map (red p f), Bd (E * (3 * M / (gt f p).natAbs)) u := fun u hu => by
      obtain ⟨w, hw, rfl⟩ := List.mem_map.mp hu
      have := (b1 w (by simp [hw])).plus (k := -((gt w p).fdiv (gt f p))) (b1 f (by simp))
      refine this.mono (Nat.mul_le_mul (Nat.le_refl _) ?_)
      rw [Nat.le_div_iff_mul_le (by omega), Int.natAbs_neg, Nat.add_mul]
      have q1 := fd_abs (gt w p) fn
      have q2 := b2 w (by simp [hw])
      omega
    have aR : ∀ u ∈ tl.map (red p f), (gt u p).natAbs < (gt f p).natAbs := fun u hu => by
      obtain ⟨w, hw, rfl⟩ := List.mem_map.mp hu
      rw [red_at (tl' w hw)]
      exact fm_abs _ fn
    have sg : (∀ u ∈ f :: (tl.map (red p f)).filter (fun u => gt u p != 0), 0 < gt u p) ∨ (∀ u ∈ f :: (tl.map (red p f)).filter (fun u => gt u p != 0), gt u p < 0) := by
      by_cases s : 0 < gt f p
      · refine .inl fun u hu => ?_
        rcases List.mem_cons.mp hu with rfl | q
        · exact s
        · obtain ⟨q1, q2⟩ := List.mem_filter.mp q
          obtain ⟨w, hw, rfl⟩ := List.mem_map.mp q1
          have q2 : gt (red p f w) p ≠ 0 := by simpa using q2
          rw [red_at (tl' w hw)] at q2 ⊢
          have := fm_pos (gt w p) s
          omega
      · refine .inr fun u hu => ?_
        rcases List.mem_cons.mp hu with rfl | q
        · omega
        · obtain ⟨q1, q2⟩ := List.mem_filter.mp q
          obtain ⟨w, hw, rfl⟩ := List.mem_map.mp q1
          have q2 : gt (red p f w) p ≠ 0 := by simpa using q2
          rw [red_at (tl' w hw)] at q2 ⊢
          have := fm_neg (gt w p) (b := gt f p) (by omega)
          omega
    refine ⟨E * (3 * M / (gt f p).natAbs), (gt f p).natAbs, ?_, ?_, by omega, ?_⟩
    · intro u hu
      simp only [List.cons_append, List.mem_cons, List.mem_append, List.mem_filter] at hu
      rcases hu with rfl | ⟨q, _⟩ | q | ⟨q, _⟩
      · exact (b1 u (by simp)).mono hEE
      · exact bR u q
      · exact (b1 u (by simp [q])).mono hEE
      · exact bR u q
    · intro u hu
      rcases List.mem_cons.mp hu with rfl | q
      · exact Nat.le_refl _
      · exact Nat.le_of_lt (aR u (List.mem_filter.mp q).1)
    · cases hc : (tl.map (red p f)).filter (fun u => gt u p != 0) with
      | nil =>
        refine .inr (.inr ⟨by simp, ?_⟩)
        have hx : E * (3 * M / (gt f p).natAbs) ≤ E * (3 * M / (gt f p).natAbs) * (gt f p).natAbs := by
          calc _ = E * (3 * M / (gt f p).natAbs) * 1 := by omega
            _ ≤ _ := Nat.mul_le_mul (Nat.le_refl _) hl0
        have hE0 : 1 ≤ E0 := by omega
        have h6 := one_le_pow6 hE0
        rcases b4 with ⟨q, _⟩ | ⟨_, w, hw, q⟩ | ⟨q, _⟩
        · have : E * M ≤ E0 * E0 := Nat.mul_le_mul q b3
          omega
        · have : 1 ≤ M * (gt w p).natAbs := Nat.mul_pos (by omega) (by have := (h.s1 w hw).2.2; omega)
          have : 1 ≤ (M * (gt w p).natAbs) ^ 2 := Nat.pow_pos this
          have : E * M * 1 ≤ E * M * (M * (gt w p).natAbs) ^ 2 := Nat.mul_le_mul (Nat.le_refl _) this
          omega
        · exfalso
          cases tl with
          | nil => exact ht rfl
          | cons a r => simp at q
      | cons r rs =>
        have hr : r ∈ (tl.map (red p f)).filter (fun u => gt u p != 0) := by rw [hc]; simp
        obtain ⟨r1, r2⟩ := List.mem_filter.mp hr
        rw [← hc]
        refine .inr (.inl ⟨sg, r, List.mem_cons_of_mem _ hr, ?_⟩)
        have ra := aR r r1
        rcases b4 with ⟨q, q'⟩ | ⟨sg', w, hw, q⟩ | ⟨q, _⟩
        · exact pot1 hE' q q' (by omega) (by omega)
        · refine pot2 hE' ?_ ?_ q
          · rcases List.mem_cons.mp hw with rfl | q
            · exact Nat.le_refl _
            · exact hs w q
          · obtain ⟨x, hx, rfl⟩ := List.mem_map.mp r1
            rw [red_at (tl' x hx)]
            have hM := b2 x (by simp [hx])
            have := fm_half (a := gt x p) (b := gt f p) (by
              rcases sg' with sg' | sg'
              · exact .inl ⟨sg' x (by simp [hx]), sg' f (by simp)⟩
              · exact .inr ⟨sg' x (by simp [hx]), sg' f (by simp)⟩) (hs x hx)
            omega
        · exfalso
          cases tl with
          | nil => exact ht rfl
          | cons a r => simp at q
  · have key : ∀ l : List (List Int), (∀ u ∈ l, u.length = f.length) → (∀ u ∈ l, (gt f p).natAbs ≤ (gt u p).natAbs) → wsum p (l.map (red p f)) + l.length ≤ wsum p l := by
      intro l
      induction l with
      | nil => intro _ _; simp [wsum]
      | cons a r ih =>
        intro h1 h2
        have i := ih (fun u hu => h1 u (List.mem_cons_of_mem _ hu)) (fun u hu => h2 u (List.mem_cons_of_mem _ hu))
        simp only [List.map_cons, wsum, List.length_cons]
        rw [red_at (h1 a List.mem_cons_self)]
        have := fm_abs (gt a p) fn
        have := h2 a List.mem_cons_self
        omega
    have k := key tl tl' hs
    have : 1 ≤ tl.length := by cases tl with | nil => exact absurd rfl ht | cons a r => simp
    have := wsum_filter (p := p) (a := tl.map (red p f)) (q := fun u => gt u p != 0)
    simp only [wsum]
    omega
/-! #### MC -/
theorem Lat.split {m : Nat} {f : List Int} {T : List (List Int)} (hf : f.length = m) (hT : Len m T) {v : List Int} (h : Lat m (f :: T) v) : ∃ c w, Lat m T w ∧ v = plusV w c f := by
  induction h with
  | zero =>
    refine ⟨0, _, .zero, ?_⟩
    apply ext_gt
    · rw [plus_len (by simp [hf])]
    · intro i _
      rw [gt_plus (by simp [hf])]; omega
  | add k hv hr ih =>
    obtain ⟨c, w, hw, rfl⟩ := ih
    have lw := hw.len hT
    rcases List.mem_cons.mp hr with rfl | q
    · refine ⟨c + k, w, hw, ?_⟩
      apply ext_gt
      · rw [plus_len (by rw [plus_len (by omega)]; omega), plus_len (by omega), plus_len (by omega)]
      · intro i _
        rw [gt_plus (by rw [plus_len (by omega)]; omega), gt_plus (by omega), gt_plus (by omega), Int.add_mul]; omega
    · have lr := hT _ q
      refine ⟨c, _, .add k hw q, ?_⟩
      have l1 : (plusV w c f).length = m := by rw [plus_len (by omega), lw]
      have l2 : ∀ r, r ∈ T → (plusV w k r).length = m := fun r hr => by rw [plus_len (by rw [hT r hr, lw]), lw]
      apply ext_gt
      · rw [plus_len (by omega), l1, plus_len (by rw [l2 _ q, hf]), l2 _ q]
      · intro i _
        rw [gt_plus (by omega), gt_plus (by omega), gt_plus (by rw [l2 _ q, hf]), gt_plus (by omega)]; omega
theorem Lat.zero_at {m p : Nat} {T : List (List Int)} (hT : Len m T) (h : ∀ u ∈ T, gt u p = 0) {v : List Int} (hv : Lat m T v) : gt v p = 0 := by
  induction hv with
  | zero => exact gt_zero m p
  | add k hv hr ih => rw [gt_plus (by rw [hv.len hT, hT _ hr]), ih, h _ hr]; omega
structure PInv (m p : Nat) (R : List (List Int)) (E : Nat) (found left : List (List Int)) : Prop where
  fd : ∃ g, found = rowsOf p g ∧ EchP m p (Lat m R) g
  lf : ∀ u ∈ left, Lat m R u ∧ zb p u
  cl : ∀ v, Lat m R v → zb p v → Lat m left v
  bf : ∀ u ∈ found ++ left, Bd E u
theorem PInv.start {m : Nat} {R : List (List Int)} {E : Nat} (hR : Len m R) (h : ∀ u ∈ R, Bd E u) : PInv m 0 R E [] R :=
  ⟨⟨fun _ => none, rfl, fun q hq => by omega⟩, fun u hu => ⟨.of_mem hu (hR u hu), fun i hi => by omega⟩, fun v hv _ => hv, fun u hu => h u (by simpa using hu)⟩
theorem PInv.into {m p : Nat} {R : List (List Int)} {E : Nat} {found left : List (List Int)} (hR : Len m R) (h : PInv m p R E found left) : WInv m p R E (left.filter fun u => gt u p != 0) (left.filter fun u => gt u p == 0) := by
  refine ⟨fun u hu => ?_, fun u hu => ?_, fun v hv hz => ?_, E, E, fun u hu => ?_, fun u hu => ?_, Nat.le_refl _, .inl ⟨Nat.le_refl _, Nat.le_refl _⟩⟩
  · obtain ⟨q1, q2⟩ := List.mem_filter.mp hu
    exact ⟨(h.lf u q1).1, (h.lf u q1).2, by simpa using q2⟩
  · obtain ⟨q1, q2⟩ := List.mem_filter.mp hu
    refine ⟨(h.lf u q1).1, fun i hi => ?_⟩
    by_cases e : i = p
    · subst e; simpa using q2
    · exact (h.lf u q1).2 i (by omega)
  · refine Lat.mono (fun r hr => ?_) (fun r hr => Lat.of_mem ?_ ((h.lf r hr).1.len hR)) (h.cl v hv hz)
    · rcases List.mem_append.mp hr with q | q
      · exact (h.lf r (List.mem_filter.mp q).1).1.len hR
      · exact (h.lf r (List.mem_filter.mp q).1).1.len hR
    · by_cases z : gt r p = 0
      · exact List.mem_append_right _ (List.mem_filter.mpr ⟨hr, by simp [z]⟩)
      · exact List.mem_append_left _ (List.mem_filter.mpr ⟨hr, by simp [z]⟩)
  · refine h.bf u (List.mem_append_right _ ?_)
    rcases List.mem_append.mp hu with q | q
    · exact (List.mem_filter.mp q).1
    · exact (List.mem_filter.mp q).1
  · exact (h.bf u (List.mem_append_right _ (List.mem_filter.mp hu).1)).at p
theorem WInv.fin {m p : Nat} {R : List (List Int)} {E0 : Nat} {so re : List (List Int)} (h : WInv m p R E0 so re) (h0 : 1 ≤ E0) : ∀ u ∈ so ++ re, Bd (9 * E0 ^ 6) u := by
  obtain ⟨E, M, b1, b2, b3, b4⟩ := h.bd
  have h6 := one_le_pow6 h0
  have h2 : E0 * 1 ≤ E0 * E0 := Nat.mul_le_mul (Nat.le_refl _) h0
  intro u hu
  refine (b1 u hu).mono ?_
  rcases b4 with ⟨q, _⟩ | ⟨_, w, hw, q⟩ | ⟨_, q⟩
  · omega
  · have hw1 : 1 ≤ (gt w p).natAbs := by have := (h.s1 w hw).2.2; omega
    have hM : 1 ≤ M := Nat.le_trans hw1 (b2 w hw)
    have : 1 ≤ (M * (gt w p).natAbs) ^ 2 := Nat.pow_pos (Nat.mul_pos hM hw1)
    have : E * 1 * 1 ≤ E * M * (M * (gt w p).natAbs) ^ 2 := Nat.mul_le_mul (Nat.mul_le_mul (Nat.le_refl _) hM) this
    omega
  · omega
theorem rowsOf_succ (p : Nat) (g : Nat → Option (List Int)) : rowsOf (p + 1) g = rowsOf p g ++ (g p).toList := by
  unfold rowsOf
  rw [List.range_succ, List.filterMap_append]
  congr 1
theorem rowsOf_congr {p : Nat} {g h : Nat → Option (List Int)} (e : ∀ q, q < p → g q = h q) : rowsOf p g = rowsOf p h := by
  unfold rowsOf
  have key : ∀ l : List Nat, (∀ x ∈ l, g x = h x) → l.filterMap g = l.filterMap h := by
    intro l
    induction l with
    | nil => intro _; rfl
    | cons a r ih => intro hl; rw [List.filterMap_cons, List.filterMap_cons, hl a List.mem_cons_self, ih fun x hx => hl x (List.mem_cons_of_mem _ hx)]
  exact key _ fun x hx => e x (List.mem_range.mp hx)
theorem rowsOf_map {p : Nat} {g : Nat → Option (List Int)} (f : List Int → List Int) : (rowsOf p g).map f = rowsOf p fun q => (g q).map f := by
  unfold rowsOf
  rw [List.map_filterMap]
theorem mem_rowsOf {p : Nat} {g : Nat → Option (List Int)} {u : List Int} : u ∈ rowsOf p g ↔ ∃ q, q < p ∧ g q = some u := by
  unfold rowsOf
  simp [List.mem_filterMap]
theorem pow_up {E0 : Nat} (h0 : 1 ≤ E0) : E0 ≤ 9 * E0 ^ 6 ∧ 9 * E0 ^ 6 ≤ 162 * E0 ^ 12 := by
  have h6 := one_le_pow6 h0
  have h2 : E0 * 1 ≤ E0 * E0 := Nat.mul_le_mul (Nat.le_refl _) h0
  have : E0 ^ 6 ≤ E0 ^ 12 := Nat.pow_le_pow_right h0 (by omega)
  omega
/-- a place without a row -/
theorem PInv.none {m p : Nat} {R : List (List Int)} {E : Nat} {found left re : List (List Int)} (hR : Len m R) (h0 : 1 ≤ E) (h : PInv m p R E found left) (w : WInv m p R E [] re) : PInv m (p + 1) R (162 * E ^ 12) found re := by
  obtain ⟨g, hg, he⟩ := h.fd
  have rl : Len m re := fun u hu => (w.r1 u hu).1.len hR
  have up := pow_up h0
  have z0 : ∀ v, Lat m R v → zb p v → gt v p = 0 := fun v hv hz => Lat.zero_at rl (fun u hu => (w.r1 u hu).2 p (by omega)) (by simpa using w.cl v hv hz)
  refine ⟨⟨fun q => if q < p then g q else Option.none, ?_, ?_⟩, w.r1, fun v hv hz => by simpa using w.cl v hv fun i hi => hz i (by omega), fun u hu => ?_⟩
  · rw [rowsOf_succ, hg]
    simp only [Nat.lt_irrefl, if_false, Option.toList, List.append_nil]
    exact rowsOf_congr fun q hq => by simp [hq]
  · intro q hq
    by_cases e : q < p
    · simp only [e, if_true]
      obtain ⟨a, b⟩ := he q e
      refine ⟨a, fun f hf => ?_⟩
      obtain ⟨b1, b2, b3, b4, b5, b6⟩ := b f hf
      refine ⟨b1, b2, b3, b4, b5, fun r f' h1 h2 h3 => ?_⟩
      by_cases e' : r < p
      · rw [if_pos e'] at h3; exact b6 r f' h1 e' h3
      · rw [if_neg e'] at h3; cases h3
    · have e : q = p := by omega
      subst e
      simp only [Nat.lt_irrefl, if_false]
      exact ⟨fun _ => z0, fun f hf => by cases hf⟩
  · rcases List.mem_append.mp hu with q | q
    · exact (h.bf u (List.mem_append_left _ q)).mono (by omega)
    · exact (w.fin h0 u (by simpa using q)).mono up.2
theorem fd_le (a : Int) {b : Int} (h : 1 ≤ b) : (a.fdiv b).natAbs ≤ a.natAbs := by
  have e := Int.mul_fdiv_add_fmod a b
  have f := fm_pos a (b := b) (by omega)
  by_cases q : 0 ≤ a.fdiv b
  · have : 1 * a.fdiv b ≤ b * a.fdiv b := Int.mul_le_mul_of_nonneg_right h q
    omega
  · -- a below zero
    have q1 : a.fdiv b ≤ -1 := by omega
    have : b * (a.fdiv b + 1) ≤ 1 * (a.fdiv b + 1) := Int.mul_le_mul_of_nonpos_right h (by omega)
    have e2 : b * (a.fdiv b + 1) = b * a.fdiv b + b := by rw [Int.mul_add, Int.mul_one]
    omega
/-- a place with a row -/
theorem PInv.some {m p : Nat} {R : List (List Int)} {E : Nat} {found left re : List (List Int)} {f0 f : List Int} (hR : Len m R) (h0 : 1 ≤ E) (h : PInv m p R E found left) (w : WInv m p R E [f0] re) (hfl : f.length = m) (hfp : 0 < gt f p) (hf : (∀ i, gt f i = gt f0 i) ∨ (∀ i, gt f i = - gt f0 i)) :
    PInv m (p + 1) R (162 * E ^ 12) (found.map (red p f) ++ [f]) re := by
  obtain ⟨g, hg, he⟩ := h.fd
  have rl : Len m re := fun u hu => (w.r1 u hu).1.len hR
  have up := pow_up h0
  obtain ⟨fL0, fz0, fn0⟩ := w.s1 f0 (by simp)
  have fl0 := fL0.len hR
  have fL : Lat m R f := by
    rcases hf with q | q
    · rw [ext_gt (u := f) (v := f0) (by omega) fun i _ => q i]; exact fL0
    · have : f = plusV (List.replicate m 0) (-1) f0 := by
        apply ext_gt
        · rw [plus_len (by simp [fl0])]; simp [hfl]
        · intro i _
          rw [gt_plus (by simp [fl0]), gt_zero, q]; omega
      rw [this]
      exact Lat.comb hR .zero _ fL0
  have fz : zb p f := fun i hi => by
    rcases hf with q | q
    · rw [q, fz0 i hi]
    · rw [q, fz0 i hi]; rfl
  have hsp : ∀ v, Lat m R v → zb p v → ∃ c u, Lat m re u ∧ v = plusV u c f0 := fun v hv hz => Lat.split fl0 rl (by simpa using w.cl v hv hz)
  have atp : ∀ c u, Lat m re u → gt (plusV u c f0) p = c * gt f0 p := fun c u hu => by
    rw [gt_plus (by rw [hu.len rl, fl0]), Lat.zero_at rl (fun r hr => (w.r1 r hr).2 p (by omega)) hu]; omega
  have bdw := w.fin h0
  have bf : Bd (9 * E ^ 6) f := fun x hx => by
    obtain ⟨i, hi, rfl⟩ := List.getElem_of_mem hx
    have := (bdw f0 (by simp)).at i
    rw [← gt_lt hi]
    rcases hf with q | q
    · rw [q]; exact this
    · rw [q, Int.natAbs_neg]; exact this
  refine ⟨⟨fun q => if q < p then (g q).map (red p f) else if q = p then Option.some f else Option.none, ?_, ?_⟩, w.r1, fun v hv hz => ?_, fun u hu => ?_⟩
  · rw [rowsOf_succ, hg, rowsOf_map]
    simp only [Nat.lt_irrefl, if_false, if_true, Option.toList]
    congr 1
    exact rowsOf_congr fun q hq => by simp [hq]
  · intro q hq
    by_cases e : q < p
    · simp only [e, if_true]
      obtain ⟨a, b⟩ := he q e
      refine ⟨fun hn => a (by simpa using hn), fun f1 hf1 => ?_⟩
      cases eq : g q with
      | none => rw [eq] at hf1; cases hf1
      | some f2 =>
        rw [eq] at hf1
        have : f1 = red p f f2 := by simpa using hf1.symm
        subst this
        obtain ⟨b1, b2, b3, b4, b5, b6⟩ := b f2 eq
        have same : ∀ i, i < p → gt (red p f f2) i = gt f2 i := fun i hi => by rw [red_gt (by omega), fz i hi]; omega
        refine ⟨red_lat hR b1 fL, by rw [red_len (by omega), b2], fun i hi => by rw [same i (by omega), b3 i hi], by rw [same q e]; exact b4, by rw [same q e]; exact b5, fun r f' h1 h2 h3 => ?_⟩
        by_cases e' : r < p
        · rw [if_pos e'] at h3
          cases er : g r with
          | none => rw [er] at h3; cases h3
          | some f3 =>
            rw [er] at h3
            have : f' = red p f f3 := by simpa using h3.symm
            subst this
            have := (he r e').2 f3 er
            rw [same r e', red_gt (by omega), fz r e']
            have := b6 r f3 h1 e' er
            omega
        · have e2 : r = p := by omega
          subst e2
          rw [if_neg (by omega), if_pos rfl] at h3
          cases h3
          rw [red_at (by omega)]
          exact fm_pos _ hfp
    · have e : q = p := by omega
      subst e
      simp only [Nat.lt_irrefl, if_false, if_true]
      refine ⟨fun hn => (by cases hn), fun f1 hf1 => ?_⟩
      cases hf1
      refine ⟨fL, hfl, fz, hfp, fun v hv hz => ?_, fun r f' h1 h2 => by omega⟩
      obtain ⟨c, u, hu, rfl⟩ := hsp v hv hz
      rw [atp c u hu]
      rcases hf with q | q
      · rw [q]; exact Int.dvd_mul_left _ _
      · rw [q]; exact Int.neg_dvd.mpr (Int.dvd_mul_left _ _)
  · obtain ⟨c, u, hu, rfl⟩ := hsp v hv fun i hi => hz i (by omega)
    have := hz p (by omega)
    rw [atp c u hu] at this
    have c0 : c = 0 := by
      rcases Int.mul_eq_zero.mp this with q | q
      · exact q
      · exact absurd q fn0
    subst c0
    have lu := hu.len rl
    have : plusV u 0 f0 = u := by
      apply ext_gt
      · rw [plus_len (by omega)]
      · intro i _
        rw [gt_plus (by omega)]; omega
    rw [this]; exact hu
  · simp only [List.mem_append, List.mem_map, List.mem_singleton] at hu
    rcases hu with (⟨x, hx, rfl⟩ | rfl) | q
    · have bx : Bd (9 * E ^ 6) x := (h.bf x (List.mem_append_left _ hx)).mono up.1
      have := bx.plus (k := -((gt x p).fdiv (gt f p))) bf
      refine this.mono ?_
      rw [Int.natAbs_neg]
      have q1 := fd_le (gt x p) (b := gt f p) (by omega)
      have q2 := bx.at p
      have q0 : 1 ≤ 9 * E ^ 6 := by omega
      have q3 : 9 * E ^ 6 * (1 + ((gt x p).fdiv (gt f p)).natAbs) ≤ 9 * E ^ 6 * (2 * (9 * E ^ 6)) := Nat.mul_le_mul (Nat.le_refl _) (by omega)
      have q4 : 9 * E ^ 6 * (2 * (9 * E ^ 6)) = 162 * E ^ 12 := by grind
      omega
    · exact bf.mono up.2
    · exact (bdw u (by simp [q])).mono up.2
def sortV (p : Nat) (l : List (List Int)) : List (List Int) := l.mergeSort fun x y => decide ((gt x p).natAbs ≤ (gt y p).natAbs)
theorem sortV_perm (p : Nat) (l : List (List Int)) : (sortV p l).Perm l := List.mergeSort_perm _ _
theorem sortV_head {p : Nat} {l : List (List Int)} {f : List Int} {tl : List (List Int)} (h : sortV p l = f :: tl) : ∀ u ∈ tl, (gt f p).natAbs ≤ (gt u p).natAbs := by
  have := List.pairwise_mergeSort (le := fun x y : List Int => decide ((gt x p).natAbs ≤ (gt y p).natAbs)) (fun a b c h1 h2 => by simp at *; omega) (fun a b => by simp; omega) l
  have e : (l.mergeSort fun x y => decide ((gt x p).natAbs ≤ (gt y p).natAbs)) = f :: tl := h
  rw [e, List.pairwise_cons] at this
  intro u hu
  simpa using this.1 u hu
theorem fd_le2 (a : Int) {b : Int} (h : b ≠ 0) : (a.fdiv b).natAbs ≤ a.natAbs + b.natAbs := by
  have := fd_abs a h
  have h1 : (a.fdiv b).natAbs * 1 ≤ (a.fdiv b).natAbs * b.natAbs := Nat.mul_le_mul (Nat.le_refl _) (by omega)
  omega
theorem pow9 (b : Nat) : 9 * (2 ^ b) ^ 6 ≤ 2 ^ (6 * b + 4) := by
  rw [← Nat.pow_mul, Nat.pow_add, Nat.mul_comm b]
  have : 2 ^ (6 * b) * 9 ≤ 2 ^ (6 * b) * 2 ^ 4 := Nat.mul_le_mul (Nat.le_refl _) (by decide)
  omega
/-! #### MD -/
def SameL (n : Nat) (R T : List (List Int)) : Prop := ∀ v, Lat n R v ↔ Lat n T v
theorem SameL.refl (n : Nat) (R : List (List Int)) : SameL n R R := fun _ => Iff.rfl
theorem SameL.symm {n : Nat} {R T : List (List Int)} (h : SameL n R T) : SameL n T R := fun v => (h v).symm
theorem SameL.trans {n : Nat} {R T U : List (List Int)} (h : SameL n R T) (g : SameL n T U) : SameL n R U := fun v => (h v).trans (g v)
theorem SameL.of {n : Nat} {R T : List (List Int)} (hR : Len n R) (hT : Len n T) (h : ∀ v ∈ R, Lat n T v) (g : ∀ v ∈ T, Lat n R v) : SameL n R T := fun v => ⟨Lat.mono hT h, Lat.mono hR g⟩
def negV (v : List Int) : List Int := v.map fun x => -x
theorem gt_negV (v : List Int) (i : Nat) : gt (negV v) i = - gt v i := by
  unfold negV
  by_cases h : i < v.length
  · rw [gt_lt (by simpa using h), gt_lt h]; simp
  · rw [gt_ge (by simpa using h), gt_ge (by omega)]; rfl
theorem negV_len (v : List Int) : (negV v).length = v.length := by simp [negV]
theorem Lat.neg {n : Nat} {R : List (List Int)} (hR : Len n R) {v : List Int} (h : Lat n R v) : Lat n R (negV v) := by
  have l := h.len hR
  have : negV v = plusV (List.replicate n 0) (-1) v := by
    apply ext_gt
    · rw [plus_len (by simp [l]), negV_len]; simp [l]
    · intro i _
      rw [gt_plus (by simp [l]), gt_zero, gt_negV]; omega
  rw [this]
  exact Lat.comb hR .zero _ h
theorem len_set {n : Nat} {T : List (List Int)} (hT : Len n T) {w : List Int} (hw : w.length = n) (i : Nat) : Len n (T.set i w) := fun r hr => by
  rcases List.mem_or_eq_of_mem_set hr with q | rfl
  · exact hT r q
  · exact hw
theorem same_set {n : Nat} {T : List (List Int)} (hT : Len n T) {i : Nat} (hi : i < T.length) {w : List Int} (hw : Lat n T w) (hb : Lat n (T.set i w) T[i]) : SameL n T (T.set i w) := by
  have hl := len_set hT (hw.len hT) i
  refine SameL.of hT hl (fun v hv => ?_) fun v hv => ?_
  · obtain ⟨k, hk, rfl⟩ := List.getElem_of_mem hv
    by_cases e : k = i
    · subst e; exact hb
    · refine Lat.of_mem ?_ (hT _ hv)
      rw [List.mem_iff_getElem]
      exact ⟨k, by simpa using hk, by rw [List.getElem_set_ne (by omega)]⟩
  · rcases List.mem_or_eq_of_mem_set hv with q | rfl
    · exact Lat.of_mem q (hT v q)
    · exact hw
theorem same_neg {n : Nat} {T : List (List Int)} (hT : Len n T) {i : Nat} (hi : i < T.length) : SameL n T (T.set i (negV T[i])) := by
  have hm : Lat n T T[i] := Lat.of_mem (List.getElem_mem hi) (hT _ (List.getElem_mem hi))
  have hl := len_set hT ((hm.neg hT).len hT) i
  refine same_set hT hi (hm.neg hT) ?_
  have h1 : Lat n (T.set i (negV T[i])) (negV T[i]) := Lat.of_mem (by rw [List.mem_iff_getElem]; exact ⟨i, by simpa using hi, by simp⟩) ((hm.neg hT).len hT)
  have h2 := h1.neg hl
  have : negV (negV T[i]) = T[i] := by
    apply ext_gt (by simp [negV_len])
    intro k _
    rw [gt_negV, gt_negV]; omega
  rwa [this] at h2
theorem same_add {n : Nat} {T : List (List Int)} (hT : Len n T) {i j : Nat} (hi : i < T.length) (hj : j < T.length) (e : i ≠ j) (f : Int) : SameL n T (T.set i (plusV T[i] f T[j])) := by
  have hm : Lat n T T[i] := Lat.of_mem (List.getElem_mem hi) (hT _ (List.getElem_mem hi))
  have hm2 : Lat n T T[j] := Lat.of_mem (List.getElem_mem hj) (hT _ (List.getElem_mem hj))
  have hw := hm.comb hT f hm2
  have li := hT _ (List.getElem_mem hi)
  have lj := hT _ (List.getElem_mem hj)
  have lw := hw.len hT
  have hl := len_set hT lw i
  refine same_set hT hi hw ?_
  have h1 : Lat n (T.set i (plusV T[i] f T[j])) (plusV T[i] f T[j]) := Lat.of_mem (by rw [List.mem_iff_getElem]; exact ⟨i, by simpa using hi, by simp⟩) lw
  have h2 : Lat n (T.set i (plusV T[i] f T[j])) T[j] := Lat.of_mem (by rw [List.mem_iff_getElem]; exact ⟨j, by simpa using hj, by rw [List.getElem_set_ne e]⟩) lj
  have h3 := h1.comb hl (-f) h2
  have : plusV (plusV T[i] f T[j]) (-f) T[j] = T[i] := by
    apply ext_gt
    · rw [plus_len (by omega), lw, li]
    · intro k _
      rw [gt_plus (by omega), gt_plus (by omega)]; grind
  rwa [this] at h3
/-! #### ME -/
theorem lat1 {a x : Int} : Lat 1 [[a]] [x] ↔ ∃ k, x = k * a := by
  constructor
  · intro h
    obtain ⟨c, w, hw, e⟩ := Lat.split (m := 1) (f := [a]) (T := []) rfl (by intro r hr; simp at hr) h
    cases hw with
    | zero => exact ⟨c, by simpa [plusV] using e⟩
    | add _ _ hr => simp at hr
  · rintro ⟨k, rfl⟩
    have := Lat.add (m := 1) (R := [[a]]) (r := [a]) k .zero (by simp)
    simpa [plusV] using this
theorem lat2 {a b c d x y : Int} : Lat 2 [[a, b], [c, d]] [x, y] ↔ ∃ k l, x = k * a + l * c ∧ y = k * b + l * d := by
  constructor
  · intro h
    obtain ⟨k, w, hw, e⟩ := Lat.split (m := 2) (f := [a, b]) (T := [[c, d]]) rfl (by intro r hr; simp at hr; simp [hr]) h
    obtain ⟨l, u, hu, rfl⟩ := Lat.split (m := 2) (f := [c, d]) (T := []) rfl (by intro r hr; simp at hr) hw
    cases hu with
    | zero =>
      simp [plusV] at e
      exact ⟨k, l, by omega, by omega⟩
    | add _ _ hr => simp at hr
  · rintro ⟨k, l, rfl, rfl⟩
    have := Lat.add (m := 2) (R := [[a, b], [c, d]]) (r := [c, d]) l (Lat.add (m := 2) (R := [[a, b], [c, d]]) (r := [a, b]) k .zero (by simp)) (by simp)
    simpa [plusV] using this
theorem lat3 {a b c d e f g h i x y z : Int} : Lat 3 [[a, b, c], [d, e, f], [g, h, i]] [x, y, z] ↔ ∃ k l m, x = k * a + l * d + m * g ∧ y = k * b + l * e + m * h ∧ z = k * c + l * f + m * i := by
  constructor
  · intro H
    obtain ⟨k, w, hw, E⟩ := Lat.split (m := 3) (f := [a, b, c]) (T := [[d, e, f], [g, h, i]]) rfl (by intro r hr; simp at hr; rcases hr with rfl | rfl <;> rfl) H
    obtain ⟨l, u, hu, rfl⟩ := Lat.split (m := 3) (f := [d, e, f]) (T := [[g, h, i]]) rfl (by intro r hr; simp at hr; simp [hr]) hw
    obtain ⟨m, t, ht, rfl⟩ := Lat.split (m := 3) (f := [g, h, i]) (T := []) rfl (by intro r hr; simp at hr) hu
    cases ht with
    | zero =>
      simp [plusV] at E
      exact ⟨k, l, m, by omega, by omega, by omega⟩
    | add _ _ hr => simp at hr
  · rintro ⟨k, l, m, rfl, rfl, rfl⟩
    have := Lat.add (m := 3) (R := [[a, b, c], [d, e, f], [g, h, i]]) (r := [g, h, i]) m (Lat.add (m := 3) (R := [[a, b, c], [d, e, f], [g, h, i]]) (r := [d, e, f]) l (Lat.add (m := 3) (R := [[a, b, c], [d, e, f], [g, h, i]]) (r := [a, b, c]) k .zero (by simp)) (by simp)) (by simp)
    simpa [plusV] using this
def detL : List (List Int) → Int
  | [[a]] => a
  | [[a, b], [c, d]] => a * d - b * c
  | [[a, b, c], [d, e, f], [g, h, i]] => a * (e * i - f * h) - b * (d * i - f * g) + c * (d * h - e * g)
  | _ => 0
theorem det_mul3 (k1 l1 m1 k2 l2 m2 k3 l3 m3 a b c d e f g h i : Int) :
    detL [[k1 * a + l1 * d + m1 * g, k1 * b + l1 * e + m1 * h, k1 * c + l1 * f + m1 * i], [k2 * a + l2 * d + m2 * g, k2 * b + l2 * e + m2 * h, k2 * c + l2 * f + m2 * i], [k3 * a + l3 * d + m3 * g, k3 * b + l3 * e + m3 * h, k3 * c + l3 * f + m3 * i]] =
    detL [[k1, l1, m1], [k2, l2, m2], [k3, l3, m3]] * detL [[a, b, c], [d, e, f], [g, h, i]] := by
  simp only [detL]
  grind
theorem det_mul2 (k1 l1 k2 l2 a b c d : Int) :
    detL [[k1 * a + l1 * c, k1 * b + l1 * d], [k2 * a + l2 * c, k2 * b + l2 * d]] = detL [[k1, l1], [k2, l2]] * detL [[a, b], [c, d]] := by
  simp only [detL]
  grind
theorem cram3 (a b c d e f g h i x y z : Int) : detL [[a, b, c], [d, e, f], [g, h, i]] * x = detL [[x, y, z], [d, e, f], [g, h, i]] * a + detL [[a, b, c], [x, y, z], [g, h, i]] * d + detL [[a, b, c], [d, e, f], [x, y, z]] * g ∧
    detL [[a, b, c], [d, e, f], [g, h, i]] * y = detL [[x, y, z], [d, e, f], [g, h, i]] * b + detL [[a, b, c], [x, y, z], [g, h, i]] * e + detL [[a, b, c], [d, e, f], [x, y, z]] * h ∧
    detL [[a, b, c], [d, e, f], [g, h, i]] * z = detL [[x, y, z], [d, e, f], [g, h, i]] * c + detL [[a, b, c], [x, y, z], [g, h, i]] * f + detL [[a, b, c], [d, e, f], [x, y, z]] * i := by
  simp only [detL]
  refine ⟨?_, ?_, ?_⟩ <;> grind
theorem cramB3 (a b c d e f g h i k l m : Int) : detL [[k * a + l * d + m * g, k * b + l * e + m * h, k * c + l * f + m * i], [d, e, f], [g, h, i]] = k * detL [[a, b, c], [d, e, f], [g, h, i]] ∧
    detL [[a, b, c], [k * a + l * d + m * g, k * b + l * e + m * h, k * c + l * f + m * i], [g, h, i]] = l * detL [[a, b, c], [d, e, f], [g, h, i]] ∧
    detL [[a, b, c], [d, e, f], [k * a + l * d + m * g, k * b + l * e + m * h, k * c + l * f + m * i]] = m * detL [[a, b, c], [d, e, f], [g, h, i]] := by
  simp only [detL]
  refine ⟨?_, ?_, ?_⟩ <;> grind
theorem adj3 (k1 l1 m1 k2 l2 m2 k3 l3 m3 a d g s : Int) (hs : s * detL [[k1, l1, m1], [k2, l2, m2], [k3, l3, m3]] = 1) :
    a = s * (l2 * m3 - m2 * l3) * (k1 * a + l1 * d + m1 * g) + s * (m1 * l3 - l1 * m3) * (k2 * a + l2 * d + m2 * g) + s * (l1 * m2 - m1 * l2) * (k3 * a + l3 * d + m3 * g) ∧
    d = s * (m2 * k3 - k2 * m3) * (k1 * a + l1 * d + m1 * g) + s * (k1 * m3 - m1 * k3) * (k2 * a + l2 * d + m2 * g) + s * (m1 * k2 - k1 * m2) * (k3 * a + l3 * d + m3 * g) ∧
    g = s * (k2 * l3 - l2 * k3) * (k1 * a + l1 * d + m1 * g) + s * (l1 * k3 - k1 * l3) * (k2 * a + l2 * d + m2 * g) + s * (k1 * l2 - l1 * k2) * (k3 * a + l3 * d + m3 * g) := by
  simp only [detL] at hs
  refine ⟨?_, ?_, ?_⟩ <;> grind
/-! #### MF -/
theorem len1 {α : Type} {l : List α} (h : l.length = 1) : ∃ a, l = [a] := by
  match l, h with
  | [a], _ => exact ⟨a, rfl⟩
theorem len2 {α : Type} {l : List α} (h : l.length = 2) : ∃ a b, l = [a, b] := by
  match l, h with
  | [a, b], _ => exact ⟨a, b, rfl⟩
theorem len3 {α : Type} {l : List α} (h : l.length = 3) : ∃ a b c, l = [a, b, c] := by
  match l, h with
  | [a, b, c], _ => exact ⟨a, b, c, rfl⟩
def IsNF (m : Nat) (R F : List (List Int)) : Prop := ∃ g, F = rowsOf m g ∧ EchP m m (Lat m R) g
def sol (R : List (List Int)) (v : List Int) : List Int := (List.range R.length).map fun k => detL (R.set k v)
def wc (R : List (List Int)) (v : List Int) : List Int := (sol R v).map fun x => x.fdiv (detL R)
def Whole (R : List (List Int)) (v : List Int) : Prop := ∀ x ∈ sol R v, x.fmod (detL R) = 0
instance (R : List (List Int)) (v : List Int) : Decidable (Whole R v) := by unfold Whole; exact inferInstance
def row (R : List (List Int)) (k : Nat) : List Int := R.getD k []
theorem row_lt {R : List (List Int)} {k : Nat} (h : k < R.length) : row R k = R[k] := by simp [row, h]
def mixV (f : List Int) (R : List (List Int)) : List Int := (List.range R.length).map fun j => ((List.range R.length).map fun k => gt f k * gt (row R k) j).sum
def Spans (R T : List (List Int)) : Prop := (detL T).natAbs = (detL R).natAbs ∧ ∀ v ∈ T, Whole R v
instance (R T : List (List Int)) : Decidable (Spans R T) := by unfold Spans; exact inferInstance
/-- the form itself -/
def NFs (F : List (List Int)) : Prop := ∀ i, i < F.length → zb i (row F i) ∧ 0 < gt (row F i) i ∧ ∀ r, r < i → 0 ≤ gt (row F r) i ∧ gt (row F r) i < gt (row F i) i
/-- squares of one to three rows -/
def Sqr (n : Nat) (R : List (List Int)) : Prop := 1 ≤ n ∧ n ≤ 3 ∧ R.length = n ∧ Len n R
theorem Sqr.cases {n : Nat} {R : List (List Int)} (h : Sqr n R) : (n = 1 ∧ ∃ a, R = [[a]]) ∨ (n = 2 ∧ ∃ a b c d, R = [[a, b], [c, d]]) ∨ (n = 3 ∧ ∃ a b c d e f g h i, R = [[a, b, c], [d, e, f], [g, h, i]]) := by
  obtain ⟨h1, h3, hl, hL⟩ := h
  have : n = 1 ∨ n = 2 ∨ n = 3 := by omega
  rcases this with rfl | rfl | rfl
  · obtain ⟨v, rfl⟩ := len1 hl
    obtain ⟨a, rfl⟩ := len1 (hL v (by simp))
    exact .inl ⟨rfl, a, rfl⟩
  · obtain ⟨v, w, rfl⟩ := len2 hl
    obtain ⟨a, b, rfl⟩ := len2 (hL v (by simp))
    obtain ⟨c, d, rfl⟩ := len2 (hL w (by simp))
    exact .inr (.inl ⟨rfl, a, b, c, d, rfl⟩)
  · obtain ⟨u, v, w, rfl⟩ := len3 hl
    obtain ⟨a, b, c, rfl⟩ := len3 (hL u (by simp))
    obtain ⟨d, e, f, rfl⟩ := len3 (hL v (by simp))
    obtain ⟨g, h, i, rfl⟩ := len3 (hL w (by simp))
    exact .inr (.inr ⟨rfl, a, b, c, d, e, f, g, h, i, rfl⟩)
theorem mem1 {α : Type} {P : α → Prop} {a : α} : (∀ v ∈ [a], P v) ↔ P a := by simp
theorem mem2 {α : Type} {P : α → Prop} {a b : α} : (∀ v ∈ [a, b], P v) ↔ P a ∧ P b := by simp
theorem mem3 {α : Type} {P : α → Prop} {a b c : α} : (∀ v ∈ [a, b, c], P v) ↔ P a ∧ P b ∧ P c := by simp
/-- rows of the grid: a whole multiple of the determinant; with one of the same size the same grid -/
theorem det_sub {n : Nat} {R T : List (List Int)} (hR : Sqr n R) (hT : Sqr n T) (h : ∀ v ∈ T, Lat n R v) : (∃ k, detL T = k * detL R) ∧ (detL R ≠ 0 → (detL T).natAbs = (detL R).natAbs → SameL n R T) := by
  rcases hR.cases with ⟨rfl, a, rfl⟩ | ⟨rfl, a, b, c, d, rfl⟩ | ⟨rfl, a, b, c, d, e, f, g, i, j, rfl⟩
  · rcases hT.cases with ⟨_, x, rfl⟩ | ⟨e, _⟩ | ⟨e, _⟩
    · rw [mem1] at h
      obtain ⟨k, rfl⟩ := lat1.mp h
      refine ⟨⟨k, rfl⟩, fun hd he => SameL.of hR.2.2.2 hT.2.2.2 (mem1.mpr (lat1.mpr ?_)) (mem1.mpr h)⟩
      simp only [detL] at hd he
      rw [Int.natAbs_mul] at he
      have hk : k.natAbs = 1 := by
        have : k.natAbs * a.natAbs = 1 * a.natAbs := by omega
        exact Nat.eq_of_mul_eq_mul_right (by omega) this
      refine ⟨k, ?_⟩
      have : k = 1 ∨ k = -1 := by omega
      rcases this with rfl | rfl <;> omega
    · omega
    · omega
  · rcases hT.cases with ⟨e, _⟩ | ⟨_, x, y, z, w, rfl⟩ | ⟨e, _⟩
    · omega
    · rw [mem2] at h
      obtain ⟨h1, h2⟩ := h
      have h1' := h1
      have h2' := h2
      obtain ⟨k1, l1, rfl, rfl⟩ := lat2.mp h1
      obtain ⟨k2, l2, rfl, rfl⟩ := lat2.mp h2
      have e := det_mul2 k1 l1 k2 l2 a b c d
      refine ⟨⟨_, e⟩, fun hd he => SameL.of hR.2.2.2 hT.2.2.2 (mem2.mpr ?_) (mem2.mpr ⟨h1', h2'⟩)⟩
      rw [e, Int.natAbs_mul] at he
      have hk : (detL [[k1, l1], [k2, l2]]).natAbs = 1 := by
        have hh : (detL [[k1, l1], [k2, l2]]).natAbs * (detL [[a, b], [c, d]]).natAbs = 1 * (detL [[a, b], [c, d]]).natAbs := by omega
        exact Nat.eq_of_mul_eq_mul_right (by omega) hh
      obtain ⟨s, hs⟩ : ∃ s : Int, s * detL [[k1, l1], [k2, l2]] = 1 := ⟨detL [[k1, l1], [k2, l2]], by
        have : detL [[k1, l1], [k2, l2]] = 1 ∨ detL [[k1, l1], [k2, l2]] = -1 := by omega
        rcases this with q | q <;> rw [q] <;> rfl⟩
      simp only [detL] at hs
      exact ⟨lat2.mpr ⟨s * l2, - s * l1, by grind, by grind⟩, lat2.mpr ⟨- s * k2, s * k1, by grind, by grind⟩⟩
    · omega
  · rcases hT.cases with ⟨e, _⟩ | ⟨e, _⟩ | ⟨_, x1, y1, z1, x2, y2, z2, x3, y3, z3, rfl⟩
    · omega
    · omega
    · rw [mem3] at h
      obtain ⟨h1, h2, h3⟩ := h
      have h1' := h1
      have h2' := h2
      have h3' := h3
      obtain ⟨k1, l1, m1, rfl, rfl, rfl⟩ := lat3.mp h1
      obtain ⟨k2, l2, m2, rfl, rfl, rfl⟩ := lat3.mp h2
      obtain ⟨k3, l3, m3, rfl, rfl, rfl⟩ := lat3.mp h3
      have e := det_mul3 k1 l1 m1 k2 l2 m2 k3 l3 m3 a b c d e f g i j
      refine ⟨⟨_, e⟩, fun hd he => SameL.of hR.2.2.2 hT.2.2.2 (mem3.mpr ?_) (mem3.mpr ⟨h1', h2', h3'⟩)⟩
      rw [e, Int.natAbs_mul] at he
      have hk : (detL [[k1, l1, m1], [k2, l2, m2], [k3, l3, m3]]).natAbs = 1 := by
        refine Nat.eq_of_mul_eq_mul_right (Nat.pos_of_ne_zero fun q => hd (Int.natAbs_eq_zero.mp q)) (he.trans (Nat.one_mul _).symm)
      obtain ⟨s, hs⟩ : ∃ s : Int, s * detL [[k1, l1, m1], [k2, l2, m2], [k3, l3, m3]] = 1 := ⟨detL [[k1, l1, m1], [k2, l2, m2], [k3, l3, m3]], by
        generalize detL [[k1, l1, m1], [k2, l2, m2], [k3, l3, m3]] = D at hk
        have : D = 1 ∨ D = -1 := by omega
        rcases this with q | q <;> rw [q] <;> rfl⟩
      obtain ⟨a1, a2, a3⟩ := adj3 k1 l1 m1 k2 l2 m2 k3 l3 m3 a d g s hs
      obtain ⟨b1, b2, b3⟩ := adj3 k1 l1 m1 k2 l2 m2 k3 l3 m3 b _ i s hs
      obtain ⟨c1, c2, c3⟩ := adj3 k1 l1 m1 k2 l2 m2 k3 l3 m3 c f j s hs
      exact ⟨lat3.mpr ⟨_, _, _, a1, b1, c1⟩, lat3.mpr ⟨_, _, _, a2, b2, c2⟩, lat3.mpr ⟨_, _, _, a3, b3, c3⟩⟩
theorem fm0_iff {x d : Int} (hd : d ≠ 0) : x.fmod d = 0 ↔ ∃ k, x = k * d := by
  constructor
  · intro h
    exact ⟨x.fdiv d, by have := Int.fdiv_mul_add_fmod x d; omega⟩
  · rintro ⟨k, rfl⟩
    simp
/-- Cramer's rule -/
theorem whole_iff {n : Nat} {R : List (List Int)} {v : List Int} (hR : Sqr n R) (hv : v.length = n) (hd : detL R ≠ 0) : Whole R v ↔ Lat n R v := by
  rcases hR.cases with ⟨rfl, a, rfl⟩ | ⟨rfl, a, b, c, d, rfl⟩ | ⟨rfl, a, b, c, d, e, f, g, h, i, rfl⟩
  · obtain ⟨x, rfl⟩ := len1 hv
    have e : sol [[a]] [x] = [x] := rfl
    unfold Whole
    rw [e, mem1, fm0_iff hd, lat1]
    exact Iff.rfl
  · obtain ⟨x, y, rfl⟩ := len2 hv
    have e : sol [[a, b], [c, d]] [x, y] = [detL [[x, y], [c, d]], detL [[a, b], [x, y]]] := rfl
    unfold Whole
    rw [e, mem2, fm0_iff hd, fm0_iff hd, lat2]
    constructor
    · rintro ⟨⟨k, hk⟩, ⟨l, hl⟩⟩
      refine ⟨k, l, Int.eq_of_mul_eq_mul_left hd ?_, Int.eq_of_mul_eq_mul_left hd ?_⟩
      · simp only [detL] at hk hl ⊢; grind
      · simp only [detL] at hk hl ⊢; grind
    · rintro ⟨k, l, rfl, rfl⟩
      exact ⟨⟨k, by simp only [detL]; grind⟩, ⟨l, by simp only [detL]; grind⟩⟩
  · obtain ⟨x, y, z, rfl⟩ := len3 hv
    have e0 : sol [[a, b, c], [d, e, f], [g, h, i]] [x, y, z] = [detL [[x, y, z], [d, e, f], [g, h, i]], detL [[a, b, c], [x, y, z], [g, h, i]], detL [[a, b, c], [d, e, f], [x, y, z]]] := rfl
    unfold Whole
    rw [e0, mem3, fm0_iff hd, fm0_iff hd, fm0_iff hd, lat3]
    constructor
    · rintro ⟨⟨k, hk⟩, ⟨l, hl⟩, ⟨m, hm⟩⟩
      obtain ⟨e1, e2, e3⟩ := cram3 a b c d e f g h i x y z
      rw [hk, hl, hm] at e1 e2 e3
      refine ⟨k, l, m, Int.eq_of_mul_eq_mul_left hd ?_, Int.eq_of_mul_eq_mul_left hd ?_, Int.eq_of_mul_eq_mul_left hd ?_⟩
      · rw [e1]; generalize detL _ = D; grind
      · rw [e2]; generalize detL _ = D; grind
      · rw [e3]; generalize detL _ = D; grind
    · rintro ⟨k, l, m, rfl, rfl, rfl⟩
      obtain ⟨e1, e2, e3⟩ := cramB3 a b c d e f g h i k l m
      exact ⟨⟨k, e1⟩, ⟨l, e2⟩, ⟨m, e3⟩⟩
/-! #### MG -/
theorem fd_cancel {k d : Int} (hd : d ≠ 0) : (k * d).fdiv d = k := by
  have h := Int.fdiv_mul_add_fmod (k * d) d
  rw [Int.mul_fmod_left] at h
  exact Int.eq_of_mul_eq_mul_right hd (by omega)
theorem sol3 (a b c d e f g h i x y z : Int) : sol [[a, b, c], [d, e, f], [g, h, i]] [x, y, z] = [detL [[x, y, z], [d, e, f], [g, h, i]], detL [[a, b, c], [x, y, z], [g, h, i]], detL [[a, b, c], [d, e, f], [x, y, z]]] := rfl
theorem sol2 (a b c d x y : Int) : sol [[a, b], [c, d]] [x, y] = [detL [[x, y], [c, d]], detL [[a, b], [x, y]]] := rfl
theorem sol1 (a x : Int) : sol [[a]] [x] = [x] := rfl
theorem wc3 {a b c d e f g h i k l m : Int} (hd : detL [[a, b, c], [d, e, f], [g, h, i]] ≠ 0) : wc [[a, b, c], [d, e, f], [g, h, i]] [k * a + l * d + m * g, k * b + l * e + m * h, k * c + l * f + m * i] = [k, l, m] := by
  obtain ⟨e1, e2, e3⟩ := cramB3 a b c d e f g h i k l m
  unfold wc
  rw [sol3, e1, e2, e3]
  simp only [List.map_cons, List.map_nil, fd_cancel hd]
theorem wc2 {a b c d k l : Int} (hd : detL [[a, b], [c, d]] ≠ 0) : wc [[a, b], [c, d]] [k * a + l * c, k * b + l * d] = [k, l] := by
  unfold wc
  have e1 : detL [[k * a + l * c, k * b + l * d], [c, d]] = k * detL [[a, b], [c, d]] := by simp only [detL]; grind
  have e2 : detL [[a, b], [k * a + l * c, k * b + l * d]] = l * detL [[a, b], [c, d]] := by simp only [detL]; grind
  rw [sol2, e1, e2]
  simp only [List.map_cons, List.map_nil, fd_cancel hd]
theorem wc1 {a k : Int} (hd : detL [[a]] ≠ 0) : wc [[a]] [k * a] = [k] := by
  unfold wc
  rw [sol1]
  simp only [List.map_cons, List.map_nil, detL]
  rw [fd_cancel (d := a) hd]
theorem wc_len (R : List (List Int)) (v : List Int) : (wc R v).length = R.length := by simp [wc, sol]
/-- the coefficients give the vector -/
theorem wc_mix {n : Nat} {R : List (List Int)} {v : List Int} (hR : Sqr n R) (hv : v.length = n) (hd : detL R ≠ 0) (hl : Lat n R v) : mixV (wc R v) R = v := by
  rcases hR.cases with ⟨rfl, a, rfl⟩ | ⟨rfl, a, b, c, d, rfl⟩ | ⟨rfl, a, b, c, d, e, f, g, h, i, rfl⟩
  · obtain ⟨x, rfl⟩ := len1 hv
    obtain ⟨k, rfl⟩ := lat1.mp hl
    rw [wc1 hd]
    simp [mixV, List.range_succ, gt, row]
  · obtain ⟨x, y, rfl⟩ := len2 hv
    obtain ⟨k, l, rfl, rfl⟩ := lat2.mp hl
    rw [wc2 hd]
    simp [mixV, List.range_succ, gt, row]
  · obtain ⟨x, y, z, rfl⟩ := len3 hv
    obtain ⟨k, l, m, rfl, rfl, rfl⟩ := lat3.mp hl
    rw [wc3 hd]
    simp [mixV, List.range_succ, gt, row, Int.add_assoc]
/-- .. and a table of determinant one or minus one -/
theorem table_det {n : Nat} {R T : List (List Int)} (hR : Sqr n R) (hT : Sqr n T) (hd : detL R ≠ 0) (hl : ∀ v ∈ T, Lat n R v) (he : (detL T).natAbs = (detL R).natAbs) : (detL (T.map (wc R))).natAbs = 1 := by
  have hp : 0 < (detL R).natAbs := by omega
  rcases hR.cases with ⟨rfl, a, rfl⟩ | ⟨rfl, a, b, c, d, rfl⟩ | ⟨rfl, a, b, c, d, e, f, g, h, i, rfl⟩
  · rcases hT.cases with ⟨_, x, rfl⟩ | ⟨e, _⟩ | ⟨e, _⟩
    · rw [mem1] at hl
      obtain ⟨k, rfl⟩ := lat1.mp hl
      simp only [List.map_cons, List.map_nil, wc1 hd]
      have : detL [[k * a]] = detL [[k]] * detL [[a]] := rfl
      rw [this, Int.natAbs_mul] at he
      exact Nat.eq_of_mul_eq_mul_right hp (he.trans (Nat.one_mul _).symm)
    · omega
    · omega
  · rcases hT.cases with ⟨e, _⟩ | ⟨_, x, y, z, w, rfl⟩ | ⟨e, _⟩
    · omega
    · rw [mem2] at hl
      obtain ⟨k1, l1, rfl, rfl⟩ := lat2.mp hl.1
      obtain ⟨k2, l2, rfl, rfl⟩ := lat2.mp hl.2
      simp only [List.map_cons, List.map_nil, wc2 hd]
      rw [det_mul2, Int.natAbs_mul] at he
      exact Nat.eq_of_mul_eq_mul_right hp (he.trans (Nat.one_mul _).symm)
    · omega
  · rcases hT.cases with ⟨e, _⟩ | ⟨e, _⟩ | ⟨_, x1, y1, z1, x2, y2, z2, x3, y3, z3, rfl⟩
    · omega
    · omega
    · rw [mem3] at hl
      obtain ⟨k1, l1, m1, rfl, rfl, rfl⟩ := lat3.mp hl.1
      obtain ⟨k2, l2, m2, rfl, rfl, rfl⟩ := lat3.mp hl.2.1
      obtain ⟨k3, l3, m3, rfl, rfl, rfl⟩ := lat3.mp hl.2.2
      simp only [List.map_cons, List.map_nil, wc3 hd]
      rw [det_mul3, Int.natAbs_mul] at he
      exact Nat.eq_of_mul_eq_mul_right hp (he.trans (Nat.one_mul _).symm)
theorem sub_of_same {n : Nat} {R T : List (List Int)} (hT : Len n T) (h : SameL n R T) : ∀ v ∈ T, Lat n R v := fun v hv => (h v).mpr (Lat.of_mem hv (hT v hv))
theorem det_same {n : Nat} {R T : List (List Int)} (hR : Sqr n R) (hT : Sqr n T) (h : SameL n R T) : (detL T).natAbs = (detL R).natAbs := by
  obtain ⟨k, hk⟩ := (det_sub hR hT (sub_of_same hT.2.2.2 h)).1
  obtain ⟨l, hl⟩ := (det_sub hT hR (sub_of_same hR.2.2.2 h.symm)).1
  refine Nat.dvd_antisymm (Int.natAbs_dvd_natAbs.mpr ⟨l, by rw [hl, Int.mul_comm]⟩) (Int.natAbs_dvd_natAbs.mpr ⟨k, by rw [hk, Int.mul_comm]⟩)
theorem spans_iff {n : Nat} {R T : List (List Int)} (hR : Sqr n R) (hT : Sqr n T) (hd : detL R ≠ 0) : Spans R T ↔ SameL n R T := by
  constructor
  · rintro ⟨h1, h2⟩
    exact (det_sub hR hT fun v hv => (whole_iff hR (hT.2.2.2 v hv) hd).mp (h2 v hv)).2 hd h1
  · intro h
    exact ⟨det_same hR hT h, fun v hv => (whole_iff hR (hT.2.2.2 v hv) hd).mpr (sub_of_same hT.2.2.2 h v hv)⟩
/-! ### the normal form of a basis -/
theorem nf_len {n : Nat} {R F : List (List Int)} (h : IsNF n R F) : Len n F := by
  obtain ⟨g, rfl, he⟩ := h
  intro r hr
  obtain ⟨q, hq, e⟩ := mem_rowsOf.mp hr
  exact ((he q hq).2 r e).2.1
theorem nf_same {n : Nat} {R F : List (List Int)} (hR : Len n R) (h : IsNF n R F) : SameL n R F := by
  have hF := nf_len h
  obtain ⟨g, rfl, he⟩ := h
  have key : ∀ k, ∀ v, Lat n R v → zb (n - k) v → Lat n (rowsOf n g) v := by
    intro k
    induction k with
    | zero =>
      intro v hv hz
      have lv := hv.len hR
      have : v = List.replicate n 0 := by
        apply ext_gt (by simp [lv])
        intro i hi
        rw [gt_zero, hz i (by omega)]
      rw [this]; exact .zero
    | succ k ih =>
      intro v hv hz
      by_cases hk : k < n
      · have hq : n - (k + 1) < n := by omega
        have e1 : n - k = n - (k + 1) + 1 := by omega
        obtain ⟨h0, h1⟩ := he _ hq
        cases eg : g (n - (k + 1)) with
        | none =>
          refine ih v hv fun i hi => ?_
          by_cases ei : i = n - (k + 1)
          · rw [ei]; exact h0 eg v hv hz
          · exact hz i (by omega)
        | some f =>
          obtain ⟨f1, f2, f3, f4, f5, _⟩ := h1 f eg
          obtain ⟨c, hc⟩ := f5 v hv hz
          have lv := hv.len hR
          have hm : Lat n (rowsOf n g) f := Lat.of_mem (mem_rowsOf.mpr ⟨_, hq, eg⟩) f2
          have h2 := ih (plusV v (-c) f) (hv.comb hR _ f1) fun i hi => by
            rw [gt_plus (by omega)]
            by_cases ei : i = n - (k + 1)
            · rw [ei, hc]; grind
            · rw [hz i (by omega), f3 i (by omega)]; omega
          have h3 := h2.comb hF c hm
          have l2 : (plusV v (-c) f).length = n := by rw [plus_len (by omega), lv]
          have : plusV (plusV v (-c) f) c f = v := by
            apply ext_gt
            · rw [plus_len (by omega), l2, lv]
            · intro i _
              rw [gt_plus (by omega), gt_plus (by omega)]; grind
          rwa [this] at h3
      · exact ih v hv fun i hi => by omega
  intro v
  refine ⟨fun hv => key n v hv fun i hi => by omega, fun hv => Lat.mono hR (fun r hr => ?_) hv⟩
  obtain ⟨q, hq, e⟩ := mem_rowsOf.mp hr
  exact ((he q hq).2 r e).1
theorem nf_uniq {n : Nat} {R T F G : List (List Int)} (hR : Len n R) (hT : Len n T) (e : SameL n R T) (hF : IsNF n R F) (hG : IsNF n T G) : F = G := by
  obtain ⟨g, rfl, hg⟩ := hF
  obtain ⟨h, rfl, hh⟩ := hG
  exact rowsOf_congr (ech_uniq hR hT e hg hh)
theorem nf_iff {n : Nat} {R T F G : List (List Int)} (hR : Len n R) (hT : Len n T) (hF : IsNF n R F) (hG : IsNF n T G) : F = G ↔ SameL n R T := by
  refine ⟨fun e => ?_, fun e => nf_uniq hR hT e hF hG⟩
  subst e
  exact (nf_same hR hF).trans (nf_same hT hG).symm
/-- some multiple of a unit vector lies in the grid -/
theorem unit_lat {n : Nat} {R : List (List Int)} (hR : Sqr n R) (hd : detL R ≠ 0) (p : Nat) (hp : p < n) : ∃ v, Lat n R v ∧ zb p v ∧ gt v p ≠ 0 := by
  have key : ∀ u : List Int, u.length = n → Lat n R (u.map fun x => detL R * x) := by
    intro u hu
    rcases hR.cases with ⟨rfl, a, rfl⟩ | ⟨rfl, a, b, c, d, rfl⟩ | ⟨rfl, a, b, c, d, e, f, g, h, i, rfl⟩
    · obtain ⟨x, rfl⟩ := len1 hu
      exact lat1.mpr ⟨x, by simp only [detL]; grind⟩
    · obtain ⟨x, y, rfl⟩ := len2 hu
      exact lat2.mpr ⟨detL [[x, y], [c, d]], detL [[a, b], [x, y]], by simp only [detL]; grind, by simp only [detL]; grind⟩
    · obtain ⟨x, y, z, rfl⟩ := len3 hu
      obtain ⟨e1, e2, e3⟩ := cram3 a b c d e f g h i x y z
      exact lat3.mpr ⟨_, _, _, e1, e2, e3⟩
  refine ⟨_, key ((List.replicate n 0).set p 1) (by simp), fun i hi => ?_, ?_⟩
  · rw [gt_lt (by simp; omega)]
    simp only [List.getElem_map]
    rw [List.getElem_set_ne (by omega)]
    simp
  · rw [gt_lt (by simpa using hp)]
    simpa using hd
theorem rows_full {n : Nat} {g : Nat → Option (List Int)} (h : ∀ q, q < n → g q ≠ none) : rowsOf n g = (List.range n).map fun q => (g q).getD [] := by
  induction n with
  | zero => rfl
  | succ n ih =>
    rw [rowsOf_succ, List.range_succ, List.map_append, ih fun q hq => h q (by omega)]
    cases e : g n with
    | none => exact absurd e (h n (by omega))
    | some f => simp [e]
theorem nf_form {n : Nat} {R F : List (List Int)} (hR : Sqr n R) (hd : detL R ≠ 0) (h : IsNF n R F) : Sqr n F ∧ NFs F := by
  have hF := nf_len h
  obtain ⟨g, rfl, he⟩ := h
  have full : ∀ q, q < n → g q ≠ none := fun q hq e => by
    obtain ⟨v, v1, v2, v3⟩ := unit_lat hR hd q hq
    exact v3 ((he q hq).1 e v v1 v2)
  have er := rows_full full
  have el : (rowsOf n g).length = n := by rw [er]; simp
  have eg : ∀ q, q < n → g q = some (row (rowsOf n g) q) := fun q hq => by
    have : row (rowsOf n g) q = (g q).getD [] := by
      rw [row_lt (by omega)]
      simp [er]
    rw [this]
    cases e : g q with
    | none => exact absurd e (full q hq)
    | some f => rfl
  refine ⟨⟨hR.1, hR.2.1, el, hF⟩, fun i hi => ?_⟩
  rw [el] at hi
  obtain ⟨_, _, f3, f4, _, _⟩ := (he i hi).2 _ (eg i hi)
  refine ⟨f3, f4, fun r hr => ?_⟩
  have := (he r (by omega)).2 _ (eg r (by omega))
  exact this.2.2.2.2.2 i _ hr hi (eg i hi)
theorem le_mul_l {a b : Nat} (h : 1 ≤ b) : a ≤ a * b := by
  calc a = a * 1 := by omega
    _ ≤ a * b := Nat.mul_le_mul (Nat.le_refl _) h
theorem le_mul_r {a b : Nat} (h : 1 ≤ a) : b ≤ a * b := by rw [Nat.mul_comm]; exact le_mul_l h
/-- its entries are no greater than its determinant -/
theorem nf_bd {n : Nat} {F : List (List Int)} (hF : Sqr n F) (h : NFs F) : detL F ≠ 0 ∧ ∀ v ∈ F, Bd (detL F).natAbs v := by
  rcases hF.cases with ⟨rfl, a, rfl⟩ | ⟨rfl, a, b, c, d, rfl⟩ | ⟨rfl, a, b, c, d, e, f, g, i, j, rfl⟩
  · have h0 := (h 0 (by simp)).2.1
    simp only [row, gt, List.getD_cons_zero] at h0
    refine ⟨by simp only [detL]; omega, mem1.mpr fun x hx => ?_⟩
    have : x = a := by simpa using hx
    subst this
    exact Nat.le_refl _
  · have h0 := h 0 (by simp)
    have h1 := h 1 (by simp)
    have k0 := h0.2.1
    have k1 := h1.1 0 (by omega)
    have k2 := h1.2.1
    have k3 := h1.2.2 0 (by omega)
    simp only [row, gt, List.getD_cons_zero, List.getD_cons_succ] at k0 k1 k2 k3
    subst k1
    have ed : detL [[a, b], [0, d]] = a * d := by simp [detL]
    have hn : (a * d).natAbs = a.natAbs * d.natAbs := Int.natAbs_mul a d
    have m1 : a.natAbs ≤ a.natAbs * d.natAbs := le_mul_l (by omega)
    have m2 : d.natAbs ≤ a.natAbs * d.natAbs := le_mul_r (by omega)
    rw [ed]
    refine ⟨by intro z; rw [z] at hn; omega, mem2.mpr ⟨fun x hx => ?_, fun x hx => ?_⟩⟩
    · simp only [List.mem_cons, List.not_mem_nil, or_false] at hx
      rcases hx with rfl | rfl <;> omega
    · simp only [List.mem_cons, List.not_mem_nil, or_false] at hx
      rcases hx with rfl | rfl <;> omega
  · have h0 := h 0 (by simp)
    have h1 := h 1 (by simp)
    have h2 := h 2 (by simp)
    have k0 := h0.2.1
    have k1 := h1.1 0 (by omega)
    have k2 := h1.2.1
    have k3 := h1.2.2 0 (by omega)
    have k4 := h2.1 0 (by omega)
    have k5 := h2.1 1 (by omega)
    have k6 := h2.2.1
    have k7 := h2.2.2 0 (by omega)
    have k8 := h2.2.2 1 (by omega)
    simp only [row, gt, List.getD_cons_zero, List.getD_cons_succ] at k0 k1 k2 k3 k4 k5 k6 k7 k8
    subst k1 k4 k5
    have ed : detL [[a, b, c], [0, e, f], [0, 0, j]] = a * (e * j) := by simp [detL]
    have hn : (a * (e * j)).natAbs = a.natAbs * (e.natAbs * j.natAbs) := by rw [Int.natAbs_mul, Int.natAbs_mul]
    have p1 : 1 ≤ e.natAbs * j.natAbs := Nat.mul_pos (by omega) (by omega)
    have m1 : a.natAbs ≤ a.natAbs * (e.natAbs * j.natAbs) := le_mul_l p1
    have m2 : e.natAbs * j.natAbs ≤ a.natAbs * (e.natAbs * j.natAbs) := le_mul_r (by omega)
    have m3 : e.natAbs ≤ e.natAbs * j.natAbs := le_mul_l (by omega)
    have m4 : j.natAbs ≤ e.natAbs * j.natAbs := le_mul_r (by omega)
    rw [ed]
    refine ⟨by intro z; rw [z] at hn; omega, mem3.mpr ⟨fun x hx => ?_, fun x hx => ?_, fun x hx => ?_⟩⟩
    · simp only [List.mem_cons, List.not_mem_nil, or_false] at hx
      rcases hx with rfl | rfl | rfl <;> omega
    · simp only [List.mem_cons, List.not_mem_nil, or_false] at hx
      rcases hx with rfl | rfl | rfl <;> omega
    · simp only [List.mem_cons, List.not_mem_nil, or_false] at hx
      rcases hx with rfl | rfl | rfl <;> omega
/-! #### MH -/
/-! fractions, the dual rows -/
theorem gcd_fmod (a b : Int) : Int.gcd b (a.fmod b) = Int.gcd a b := by
  rw [Int.fmod_def, Int.gcd_sub_mul_left_right, Int.gcd_comm]
def ratS (a b : Int) : Int := if b < 0 then -(Int.gcd a b : Int) else Int.gcd a b
def rat (a b : Int) : Int × Int := (a.fdiv (ratS a b), b.fdiv (ratS a b))
theorem gcd_pos {a b : Int} (hb : b ≠ 0) : 0 < Int.gcd a b := by
  rcases Nat.eq_zero_or_pos (Int.gcd a b) with h | h
  · exact absurd (Int.gcd_eq_zero_iff.mp h).2 hb
  · exact h
theorem ratS_ne {a b : Int} (hb : b ≠ 0) : ratS a b ≠ 0 := by
  have := gcd_pos (a := a) hb
  unfold ratS
  split <;> omega
theorem ratS_dvd (a b : Int) : ratS a b ∣ a ∧ ratS a b ∣ b := by
  unfold ratS
  split
  · exact ⟨Int.neg_dvd.mpr (Int.gcd_dvd_left ..), Int.neg_dvd.mpr (Int.gcd_dvd_right ..)⟩
  · exact ⟨Int.gcd_dvd_left .., Int.gcd_dvd_right ..⟩
theorem ratS_le {a b : Int} (hb : b ≠ 0) : (ratS a b).natAbs ≤ b.natAbs := by
  have h := Nat.le_of_dvd (by omega) (Int.natAbs_dvd_natAbs.mpr (ratS_dvd a b).2)
  exact h
theorem rat_mul {a b : Int} (hb : b ≠ 0) : a = (rat a b).1 * ratS a b ∧ b = (rat a b).2 * ratS a b := by
  unfold rat
  exact ⟨(Int.fdiv_mul_cancel (ratS_dvd a b).1).symm, (Int.fdiv_mul_cancel (ratS_dvd a b).2).symm⟩
theorem ratS_abs (a b : Int) : (ratS a b).natAbs = Int.gcd a b := by
  unfold ratS
  split <;> simp
theorem rat_spec {a b : Int} (hb : b ≠ 0) : 0 < (rat a b).2 ∧ Int.gcd (rat a b).1 (rat a b).2 = 1 := by
  obtain ⟨e1, e2⟩ := rat_mul (a := a) hb
  have hs := ratS_ne (a := a) hb
  have hp := gcd_pos (a := a) hb
  constructor
  · by_cases h : b < 0
    · have hn : ratS a b < 0 := by unfold ratS; rw [if_pos h]; omega
      by_cases q : 0 < (rat a b).2
      · exact q
      · have := Int.mul_nonneg_of_nonpos_of_nonpos (show (rat a b).2 ≤ 0 by omega) (Int.le_of_lt hn)
        omega
    · have hn : 0 < ratS a b := by unfold ratS; rw [if_neg h]; omega
      by_cases q : 0 < (rat a b).2
      · exact q
      · have := Int.mul_nonpos_of_nonpos_of_nonneg (show (rat a b).2 ≤ 0 by omega) (Int.le_of_lt hn)
        omega
  · have h : Int.gcd a b = Int.gcd (rat a b).1 (rat a b).2 * (ratS a b).natAbs := by
      have := Int.gcd_mul_right (rat a b).1 (ratS a b) (rat a b).2
      rwa [← e1, ← e2] at this
    rw [ratS_abs] at h
    have : Int.gcd (rat a b).1 (rat a b).2 * Int.gcd a b = 1 * Int.gcd a b := by omega
    exact Nat.eq_of_mul_eq_mul_right hp this
theorem rat_le {a b : Int} (hb : b ≠ 0) : (rat a b).1.natAbs ≤ a.natAbs ∧ (rat a b).2.natAbs ≤ b.natAbs := by
  obtain ⟨e1, e2⟩ := rat_mul (a := a) hb
  have hs : 1 ≤ (ratS a b).natAbs := by have := ratS_ne (a := a) hb; omega
  constructor
  · conv => rhs; rw [e1, Int.natAbs_mul]
    exact Nat.le_mul_of_pos_right _ hs
  · conv => rhs; rw [e2, Int.natAbs_mul]
    exact Nat.le_mul_of_pos_right _ hs
def dot (u v : List Int) : Int := ((u.zip v).map fun p => p.1 * p.2).sum
def unitV (n c : Nat) : List Int := (List.range n).map fun k => if k = c then 1 else 0
def dualR (R : List (List Int)) : List (List Int) := (List.range R.length).map fun p => (List.range R.length).map fun c => detL (R.set p (unitV R.length c))
theorem dual1 (a : Int) : dualR [[a]] = [[1]] := rfl
theorem dual2 (a b c d : Int) : dualR [[a, b], [c, d]] = [[detL [[1, 0], [c, d]], detL [[0, 1], [c, d]]], [detL [[a, b], [1, 0]], detL [[a, b], [0, 1]]]] := rfl
theorem dual3 (a b c d e f g h i : Int) : dualR [[a, b, c], [d, e, f], [g, h, i]] = [[detL [[1, 0, 0], [d, e, f], [g, h, i]], detL [[0, 1, 0], [d, e, f], [g, h, i]], detL [[0, 0, 1], [d, e, f], [g, h, i]]],
  [detL [[a, b, c], [1, 0, 0], [g, h, i]], detL [[a, b, c], [0, 1, 0], [g, h, i]], detL [[a, b, c], [0, 0, 1], [g, h, i]]], [detL [[a, b, c], [d, e, f], [1, 0, 0]], detL [[a, b, c], [d, e, f], [0, 1, 0]], detL [[a, b, c], [d, e, f], [0, 0, 1]]]] := rfl
theorem dual_sol {n : Nat} {R : List (List Int)} {v : List Int} (hR : Sqr n R) (hv : v.length = n) : (dualR R).map (fun r => dot r v) = sol R v := by
  rcases hR.cases with ⟨rfl, a, rfl⟩ | ⟨rfl, a, b, c, d, rfl⟩ | ⟨rfl, a, b, c, d, e, f, g, h, i, rfl⟩
  · obtain ⟨x, rfl⟩ := len1 hv
    rw [dual1, sol1]
    simp [dot]
  · obtain ⟨x, y, rfl⟩ := len2 hv
    rw [dual2, sol2]
    simp only [dot, detL, List.map_cons, List.map_nil, List.zip_cons_cons, List.zip_nil_left, List.zip_nil_right, List.sum_cons, List.sum_nil, List.cons.injEq, and_true]
    constructor <;> grind
  · obtain ⟨x, y, z, rfl⟩ := len3 hv
    rw [dual3, sol3]
    simp only [dot, detL, List.map_cons, List.map_nil, List.zip_cons_cons, List.zip_nil_left, List.zip_nil_right, List.sum_cons, List.sum_nil, List.cons.injEq, and_true]
    refine ⟨?_, ?_, ?_⟩ <;> grind
theorem dual_len (R : List (List Int)) : (dualR R).length = R.length := by simp [dualR]
theorem dual_row {R : List (List Int)} {r : List Int} (h : r ∈ dualR R) : r.length = R.length := by
  unfold dualR at h
  obtain ⟨p, _, rfl⟩ := List.mem_map.mp h
  simp
/-- whole exactly if whole on all the dual rows -/
theorem whole_dual {n : Nat} {R : List (List Int)} {v : List Int} (hR : Sqr n R) (hv : v.length = n) : Whole R v ↔ ∀ r ∈ dualR R, (dot r v).fmod (detL R) = 0 := by
  unfold Whole
  rw [← dual_sol hR hv]
  simp
/-! rows of fractions -/
def den (fs : List (Int × Int)) : Int := fs.foldl (fun b p => b * p.2) 1
def numP (fs : List (Int × Int)) (v : List Int) : Int := ((fs.zip v).map fun q => q.1.1 * ((den fs).fdiv q.1.2) * q.2).sum
def topL (fs : List (Int × Int)) (v : List Int) : Int × Int := (fs.zip v).foldl (fun t q => (t.1 * q.1.2 + q.1.1 * q.2 * t.2, t.2 * q.1.2)) (0, 1)
def WP (fs : List (Int × Int)) (v : List Int) : Prop := (numP fs v).fmod (den fs) = 0
instance (fs : List (Int × Int)) (v : List Int) : Decidable (WP fs v) := by unfold WP; exact inferInstance
theorem lenC {α : Type} {l : List α} {n : Nat} (h : l.length = n) (h1 : 1 ≤ n) (h3 : n ≤ 3) : (∃ a, l = [a] ∧ n = 1) ∨ (∃ a b, l = [a, b] ∧ n = 2) ∨ ∃ a b c, l = [a, b, c] ∧ n = 3 := by
  have : n = 1 ∨ n = 2 ∨ n = 3 := by omega
  rcases this with rfl | rfl | rfl
  · obtain ⟨a, rfl⟩ := len1 h; exact .inl ⟨a, rfl, rfl⟩
  · obtain ⟨a, b, rfl⟩ := len2 h; exact .inr (.inl ⟨a, b, rfl, rfl⟩)
  · obtain ⟨a, b, c, rfl⟩ := len3 h; exact .inr (.inr ⟨a, b, c, rfl, rfl⟩)
theorem fd_m1 {a b : Int} (h : b ≠ 0) : (a * b).fdiv b = a := Int.mul_fdiv_cancel a h
theorem fd_m2 {a b : Int} (h : b ≠ 0) : (b * a).fdiv b = a := by rw [Int.mul_comm]; exact fd_m1 h
theorem fd_m3 {a b c : Int} (h : b ≠ 0) : (a * b * c).fdiv b = a * c := by
  have : a * b * c = a * c * b := by grind
  rw [this]; exact fd_m1 h
theorem den1 (p : Int × Int) : den [p] = p.2 := by simp [den]
theorem den2 (p q : Int × Int) : den [p, q] = p.2 * q.2 := by simp [den]
theorem den3 (p q r : Int × Int) : den [p, q, r] = p.2 * q.2 * r.2 := by simp [den]
theorem numP1 {p : Int × Int} {x : Int} (h : p.2 ≠ 0) : numP [p] [x] = p.1 * x := by
  have e : p.2.fdiv p.2 = 1 := by have := fd_m1 (a := 1) h; rwa [Int.one_mul] at this
  simp [numP, den1, e]
theorem numP2 {p q : Int × Int} {x y : Int} (hp : p.2 ≠ 0) (hq : q.2 ≠ 0) : numP [p, q] [x, y] = p.1 * q.2 * x + q.1 * p.2 * y := by
  simp [numP, den2, fd_m2 hp, fd_m1 hq]
theorem numP3 {p q r : Int × Int} {x y z : Int} (hp : p.2 ≠ 0) (hq : q.2 ≠ 0) (hr : r.2 ≠ 0) : numP [p, q, r] [x, y, z] = p.1 * (q.2 * r.2) * x + q.1 * (p.2 * r.2) * y + r.1 * (p.2 * q.2) * z := by
  have e : (p.2 * q.2 * r.2).fdiv p.2 = q.2 * r.2 := by rw [Int.mul_assoc]; exact fd_m2 hp
  simp [numP, den3, e, fd_m3 hq, fd_m1 hr]
  omega
theorem top_num {fs : List (Int × Int)} {v : List Int} {n : Nat} (hf : fs.length = n) (hv : v.length = n) (h1 : 1 ≤ n) (h3 : n ≤ 3) (h : ∀ p ∈ fs, p.2 ≠ 0) : topL fs v = (numP fs v, den fs) := by
  rcases lenC hf h1 h3 with ⟨p, rfl, rfl⟩ | ⟨p, q, rfl, rfl⟩ | ⟨p, q, r, rfl, rfl⟩
  · obtain ⟨x, rfl⟩ := len1 hv
    rw [mem1] at h
    rw [numP1 h, den1]
    simp [topL]
  · obtain ⟨x, y, rfl⟩ := len2 hv
    rw [mem2] at h
    rw [numP2 h.1 h.2, den2]
    simp only [topL, List.zip_cons_cons, List.zip_nil_left, List.foldl_cons, List.foldl_nil, Prod.mk.injEq]
    constructor <;> grind
  · obtain ⟨x, y, z, rfl⟩ := len3 hv
    rw [mem3] at h
    rw [numP3 h.1 h.2.1 h.2.2, den3]
    simp only [topL, List.zip_cons_cons, List.zip_nil_left, List.foldl_cons, List.foldl_nil, Prod.mk.injEq]
    constructor <;> grind
theorem den_ne {fs : List (Int × Int)} (h : ∀ p ∈ fs, p.2 ≠ 0) : den fs ≠ 0 := by
  have key : ∀ (fs : List (Int × Int)) (b : Int), b ≠ 0 → (∀ p ∈ fs, p.2 ≠ 0) → fs.foldl (fun b p => b * p.2) b ≠ 0 := by
    intro fs
    induction fs with
    | nil => intro b hb _; exact hb
    | cons p fs ih => intro b hb h; exact ih _ (Int.mul_ne_zero hb (h p List.mem_cons_self)) fun q hq => h q (List.mem_cons_of_mem _ hq)
  exact key fs 1 (by omega) h
theorem rat_num {r v : List Int} {d : Int} {n : Nat} (hr : r.length = n) (hv : v.length = n) (h1 : 1 ≤ n) (h3 : n ≤ 3) (hd : d ≠ 0) : numP (r.map fun x => rat x d) v * d = den (r.map fun x => rat x d) * dot r v := by
  have hq : ∀ x, (rat x d).2 ≠ 0 := fun x => by have := (rat_spec (a := x) hd).1; omega
  rcases lenC hr h1 h3 with ⟨a, rfl, rfl⟩ | ⟨a, b, rfl, rfl⟩ | ⟨a, b, c, rfl, rfl⟩
  · obtain ⟨x, rfl⟩ := len1 hv
    simp only [List.map_cons, List.map_nil]
    rw [numP1 (hq a), den1]
    have ha := rat_mul (a := a) hd
    simp only [dot, List.map_cons, List.map_nil, List.zip_cons_cons, List.zip_nil_left, List.sum_cons, List.sum_nil]
    grind
  · obtain ⟨x, y, rfl⟩ := len2 hv
    simp only [List.map_cons, List.map_nil]
    rw [numP2 (hq a) (hq b), den2]
    have ha := rat_mul (a := a) hd
    have hb := rat_mul (a := b) hd
    simp only [dot, List.map_cons, List.map_nil, List.zip_cons_cons, List.zip_nil_left, List.sum_cons, List.sum_nil]
    generalize (rat a d) = A at *
    generalize (rat b d) = B at *
    grind
  · obtain ⟨x, y, z, rfl⟩ := len3 hv
    simp only [List.map_cons, List.map_nil]
    rw [numP3 (hq a) (hq b) (hq c), den3]
    have ha := rat_mul (a := a) hd
    have hb := rat_mul (a := b) hd
    have hc := rat_mul (a := c) hd
    simp only [dot, List.map_cons, List.map_nil, List.zip_cons_cons, List.zip_nil_left, List.sum_cons, List.sum_nil]
    obtain ⟨a1, a2⟩ := ha
    obtain ⟨b1, b2⟩ := hb
    obtain ⟨c1, c2⟩ := hc
    generalize (rat a d) = A at *
    generalize (rat b d) = B at *
    generalize (rat c d) = C at *
    have t1 : A.1 * (B.2 * C.2) * x * d = A.2 * B.2 * C.2 * (a * x) := by
      generalize ratS a d = s at *
      rw [a1, a2]; grind
    have t2 : B.1 * (A.2 * C.2) * y * d = A.2 * B.2 * C.2 * (b * y) := by
      generalize ratS b d = s at *
      rw [b1, b2]; grind
    have t3 : C.1 * (A.2 * B.2) * z * d = A.2 * B.2 * C.2 * (c * z) := by
      generalize ratS c d = s at *
      rw [c1, c2]; grind
    grind
theorem rat_wp {r v : List Int} {d : Int} {n : Nat} (hr : r.length = n) (hv : v.length = n) (h1 : 1 ≤ n) (h3 : n ≤ 3) (hd : d ≠ 0) : WP (r.map fun x => rat x d) v ↔ (dot r v).fmod d = 0 := by
  have hq : ∀ p ∈ (r.map fun x => rat x d), p.2 ≠ 0 := fun p hp => by
    obtain ⟨x, _, rfl⟩ := List.mem_map.mp hp
    have := (rat_spec (a := x) hd).1; omega
  have hD := den_ne hq
  have e := rat_num hr hv h1 h3 hd
  unfold WP
  rw [fm0_iff hD, fm0_iff hd]
  generalize den (r.map fun x => rat x d) = Q at *
  constructor
  · rintro ⟨k, hk⟩
    refine ⟨k, ?_⟩
    rw [hk] at e
    have : Q * (k * d) = Q * dot r v := by rw [← e]; grind
    exact (Int.eq_of_mul_eq_mul_left hD this).symm
  · rintro ⟨k, hk⟩
    refine ⟨k, ?_⟩
    rw [hk] at e
    have : d * numP (r.map fun x => rat x d) v = d * (k * Q) := by grind
    exact Int.eq_of_mul_eq_mul_left hd this
/-- the test vector of a dual row: whole on the grid, not whole on v -/
theorem test_ok {n : Nat} {R : List (List Int)} {r : List Int} (hR : Sqr n R) (hd : detL R ≠ 0) (hr : r ∈ dualR R) : ∀ u ∈ R, WP (r.map fun x => rat x (detL R)) u := by
  intro u hu
  have hl := hR.2.2.2 u hu
  rw [rat_wp (n := n) (by rw [dual_row hr, hR.2.2.1]) hl hR.1 hR.2.1 hd]
  exact (whole_dual hR hl).mp ((whole_iff hR hl hd).mpr (Lat.of_mem hu hl)) r hr
/-! #### FA -/
local macro_rules | `(tactic| walk_at "wp") => `(tactic| try simp only [z0, z1, z2, z3, z4, z5, z6, z7, z8, z9, z10, z11, z12, z13, z14, z15, z16, z17, z18, z19, z20, z21, z22, z23, z24, z25, z26, z27, z28, z29, z30, z31, z32, z33, z34, z35, z36, z37, z38, z39, z40, z41, z42, z43, z44, z45, z46, z47, z48, z49, z50, z51, z52, z53, z54, z55, z56, z57, z58, z59, z60, z61, z62, z63, z64, z65, z66, z67, z68, z69, z70, z71, z72, z73, z74, z75, z76, z77, z78, z79, z80, z81, z82, z83, zg0, zg1, wVar, wFrz, wC, wNil, wCons, w1, w2, w3, wAp, opD, cmD, oNeg, wB, wNotT, boolW, wAndT, wOrT, wNotV, boolV, wAndV, wOrV, wIte, wNo, wSo, wSl, wTup, wLst, wThw, wLof, wCat, wRep, wIsi, wM0, wM1, wIseq, wR1, wR2, wChr, wZip_eq, wEnum, wYes, wComp, wSkip, wSeq, wExpr, wRet, wCont, wSet, wAsg, wPar, wSub, wIf, wFor, wRaise, wCall, wCall0, seqOf_tup, seqOf_lst, seqOf_scr, lstOf_lst, lstOf_scr, lstX_lst, tupOf_tup, srcOf_tup, srcOf_lst, srcOf_scr, srcOf_han, srcOk_nil, srcOk_cons, oAdd_ii, oAdd_ss, oAdd_tt, oAdd_ll, oSub_ii, oMul_ii, oMul_ti, oDiv_ii, oMod_ii, oPow_ii, oNeg_i, oEq_ii, oNe_ii, oEq_ss, oNe_ss, oI_ii, oIs_n, oIsNot_n, oIs_b, oIsNot_b, isNon_n, isNon_b, isNon_i, isNon_s, isNon_t, isNon_l, isNon_h, oIx_t, oIx_l, oIx_s, oLen_t, oLen_l, oLen_s, oLen_str, oAbs_i, oTuple_l, oTuple_t, oSl_t, oSl_l, oInt_i, oInt_b, compGo_nil, compGo_cons, forGo_nil, forGo_cons, wipeD_nil, wipeD_cons, range_3, range_2, range_1, enumD_nil, enumD_1, enumD_2, enumD_3, zipD_nil, zipD_cons, ctOf, startD, List.map_cons, List.map_nil, List.length_cons, List.length_nil, List.cons_append, List.nil_append, List.append_nil, List.replicate, Nat.reduceAdd, Nat.reduceSub, Nat.sub_self, Nat.zero_add, List.getElem?_cons_zero, List.getElem?_cons_succ, List.getElem?_nil, List.set_cons_zero, List.set_cons_succ, ex_eq, ex_and, Option.some.injEq, exists_eq_left', exists_eq_left, exists_eq_right, D.bl.injEq, D.int.injEq, D.str.injEq, D.tup.injEq, D.lst.injEq, atI_0, atI_1, atI_2, reduceIte, zip_tt, zip_ll, ty_n, ty_b, ty_i, ty_s, ty_t, ty_l, ty_f, kit_ii, kit_ib, kit_bb, kit_bi, kit_it, kit_tt, kit_ti, kit_tb, kit_lt, kit_li, kit_st, kit_si, kit_ss, kit_nt, kit_ni, kit_fi, kit_ft, kit_is, kit_ns, kit_bt, oLen_V, Int.toNat_natCast, cut_t0, cut_t1, cut_t2, cut_f1, cut_f2, cut_f3, m2_0, m2_1, m2_2, List.take_succ_cons, List.take_zero, List.drop_succ_cons, List.drop_zero, List.take_nil, List.drop_nil, decide_true, decide_false, Bool.not_true, Bool.not_false, if_true, if_false, Bool.false_eq_true, Int.cast_ofNat_Int, Int.reduceEq, Int.reduceLT, Int.reduceLE, Int.reduceToNat, Int.reduceNeg, Nat.reduceEqDiff, decide_eq_true_eq, true_and, and_true, List.cons.injEq, and_self, Int.reduceSub, Int.reduceAdd, Int.reduceMul])
local macro_rules | `(tactic| walk_at "wps") => `(tactic| simp only [z0, z1, z2, z3, z4, z5, z6, z7, z8, z9, z10, z11, z12, z13, z14, z15, z16, z17, z18, z19, z20, z21, z22, z23, z24, z25, z26, z27, z28, z29, z30, z31, z32, z33, z34, z35, z36, z37, z38, z39, z40, z41, z42, z43, z44, z45, z46, z47, z48, z49, z50, z51, z52, z53, z54, z55, z56, z57, z58, z59, z60, z61, z62, z63, z64, z65, z66, z67, z68, z69, z70, z71, z72, z73, z74, z75, z76, z77, z78, z79, z80, z81, z82, z83, zg0, zg1, wVar, wFrz, wC, wNil, wCons, w1, w2, w3, wAp, opD, cmD, oNeg, wB, wNotT, boolW, wAndT, wOrT, wNotV, boolV, wAndV, wOrV, wIte, wNo, wSo, wSl, wTup, wLst, wThw, wLof, wCat, wRep, wIsi, wM0, wM1, wIseq, wR1, wR2, wChr, wZip_eq, wEnum, wYes, wComp, wSkip, wSeq, wExpr, wRet, wCont, wSet, wAsg, wPar, wSub, wIf, wFor, wRaise, wCall, wCall0, seqOf_tup, seqOf_lst, seqOf_scr, lstOf_lst, lstOf_scr, lstX_lst, tupOf_tup, srcOf_tup, srcOf_lst, srcOf_scr, srcOf_han, srcOk_nil, srcOk_cons, oAdd_ii, oAdd_ss, oAdd_tt, oAdd_ll, oSub_ii, oMul_ii, oMul_ti, oDiv_ii, oMod_ii, oPow_ii, oNeg_i, oEq_ii, oNe_ii, oEq_ss, oNe_ss, oI_ii, oIs_n, oIsNot_n, oIs_b, oIsNot_b, isNon_n, isNon_b, isNon_i, isNon_s, isNon_t, isNon_l, isNon_h, oIx_t, oIx_l, oIx_s, oLen_t, oLen_l, oLen_s, oLen_str, oAbs_i, oTuple_l, oTuple_t, oSl_t, oSl_l, oInt_i, oInt_b, compGo_nil, compGo_cons, forGo_nil, forGo_cons, wipeD_nil, wipeD_cons, range_3, range_2, range_1, enumD_nil, enumD_1, enumD_2, enumD_3, zipD_nil, zipD_cons, ctOf, startD, List.map_cons, List.map_nil, List.length_cons, List.length_nil, List.cons_append, List.nil_append, List.append_nil, List.replicate, Nat.reduceAdd, Nat.reduceSub, Nat.sub_self, Nat.zero_add, List.getElem?_cons_zero, List.getElem?_cons_succ, List.getElem?_nil, List.set_cons_zero, List.set_cons_succ, ex_eq, ex_and, Option.some.injEq, exists_eq_left', exists_eq_left, exists_eq_right, D.bl.injEq, D.int.injEq, D.str.injEq, D.tup.injEq, D.lst.injEq, atI_0, atI_1, atI_2, reduceIte, zip_tt, zip_ll, ty_n, ty_b, ty_i, ty_s, ty_t, ty_l, ty_f, kit_ii, kit_ib, kit_bb, kit_bi, kit_it, kit_tt, kit_ti, kit_tb, kit_lt, kit_li, kit_st, kit_si, kit_ss, kit_nt, kit_ni, kit_fi, kit_ft, kit_is, kit_ns, kit_bt, oLen_V, Int.toNat_natCast, cut_t0, cut_t1, cut_t2, cut_f1, cut_f2, cut_f3, m2_0, m2_1, m2_2, List.take_succ_cons, List.take_zero, List.drop_succ_cons, List.drop_zero, List.take_nil, List.drop_nil, decide_true, decide_false, Bool.not_true, Bool.not_false, if_true, if_false, Bool.false_eq_true, Int.cast_ofNat_Int, Int.reduceEq, Int.reduceLT, Int.reduceLE, Int.reduceToNat, Int.reduceNeg, Nat.reduceEqDiff, decide_eq_true_eq, true_and, and_true, List.cons.injEq, and_self, Int.reduceSub, Int.reduceAdd, Int.reduceMul, *])
def okD : D → Bool
  | .non | .bl _ | .int _ | .str _ | .flt _ | .tup _ | .lst _ => true
  | _ => false
def isI : D → Bool
  | .int _ => true
  | _ => false
def c_is_integer : Ct := fun ds S Q _ => ∃ d, ds = [d] ∧ okD d = true ∧ Q (.bl (isI d)) S
/-- is_integer -/
def N_is_integer : List Str := ["value"]
def b_is_integer : DB := (DB.cons (DS.ret (DE.bool (DV.cons (DE.isInt (DE.var 0)) (DV.one .And (DE.not (DE.isBool (DE.var 0)))))))
  DB.nil)
theorem w_is_integer {ds : List D} {S : Sto} {Q : QD} {X : XD} (h : c_is_integer ds S Q X) : ctOf N_is_integer.length b_is_integer ds S Q X := by
  obtain ⟨d, rfl, hd, h⟩ := h
  unfold b_is_integer N_is_integer
  cases d <;> simp only [okD, Bool.false_eq_true] at hd <;> walk_at "wp" <;> exact h
def btw (lo hi : Int) : D → Bool
  | .int i => decide (lo ≤ i) && decide (i ≤ hi)
  | _ => false
def c_is_between : Ct := fun ds S Q _ => ∃ d lo hi, ds = [d, .int lo, .int hi] ∧ okD d = true ∧ Q (.bl (btw lo hi d)) S
/-- is_between -/
def N_is_between : List Str := ["value", "low", "high"]
def b_is_between : DB := (DB.cons (DS.ret (DE.bool (DV.cons (DE.call "is_integer" c_is_integer (DA.cons (DE.var 0) DA.nil)) (DV.one .And (DE.chn .LtE .LtE (DE.var 1) (DE.var 0) (DE.var 2))))))
  DB.nil)
theorem w_is_between {ds : List D} {S : Sto} {Q : QD} {X : XD} (h : c_is_between ds S Q X) : ctOf N_is_between.length b_is_between ds S Q X := by
  obtain ⟨d, lo, hi, rfl, hd, h⟩ := h
  unfold b_is_between N_is_between
  walk_at "wp"
  refine ⟨d, rfl, hd, isI d, rfl, ?_⟩
  cases d <;> simp only [okD, Bool.false_eq_true] at hd <;> simp only [isI] <;> walk_at "wp" <;> try exact h
  simp only [btw] at h
  split
  · rename_i q; simpa [q] using h
  · rename_i q; simpa [q] using h
/-! ### the determinant -/
/-- a square of one to three rows, its entries of less than k bits -/
def SqM (k : Nat) (R : List (List Int)) : Prop := 1 ≤ R.length ∧ R.length ≤ 3 ∧ ∀ v ∈ R, v.length = R.length ∧ ∀ x ∈ v, Sm k x
theorem sq_cases {k : Nat} {R : List (List Int)} (h : SqM k R) : (∃ a, R = [[a]] ∧ Sm k a) ∨ (∃ a b c d, R = [[a, b], [c, d]] ∧ Sm k a ∧ Sm k b ∧ Sm k c ∧ Sm k d) ∨ ∃ a b c d e f g h i, R = [[a, b, c], [d, e, f], [g, h, i]] ∧ Sm k a ∧ Sm k b ∧ Sm k c ∧ Sm k d ∧ Sm k e ∧ Sm k f ∧ Sm k g ∧ Sm k h ∧ Sm k i := by
  obtain ⟨h1, h3, h⟩ := h
  have : R.length = 1 ∨ R.length = 2 ∨ R.length = 3 := by omega
  rcases this with q | q | q
  · obtain ⟨v, rfl⟩ := len1 q
    obtain ⟨l, s⟩ := h v (by simp)
    obtain ⟨a, rfl⟩ := len1 l
    exact .inl ⟨a, rfl, s a (by simp)⟩
  · obtain ⟨v, w, rfl⟩ := len2 q
    obtain ⟨l, s⟩ := h v (by simp)
    obtain ⟨l', s'⟩ := h w (by simp)
    obtain ⟨a, b, rfl⟩ := len2 l
    obtain ⟨c, d, rfl⟩ := len2 l'
    exact .inr (.inl ⟨a, b, c, d, rfl, s a (by simp), s b (by simp), s' c (by simp), s' d (by simp)⟩)
  · obtain ⟨v, w, u, rfl⟩ := len3 q
    obtain ⟨l, s⟩ := h v (by simp)
    obtain ⟨l', s'⟩ := h w (by simp)
    obtain ⟨l'', s''⟩ := h u (by simp)
    obtain ⟨a, b, c, rfl⟩ := len3 l
    obtain ⟨d, e, f, rfl⟩ := len3 l'
    obtain ⟨g, hh, i, rfl⟩ := len3 l''
    exact .inr (.inr ⟨a, b, c, d, e, f, g, hh, i, rfl, s a (by simp), s b (by simp), s c (by simp), s' d (by simp), s' e (by simp), s' f (by simp), s'' g (by simp), s'' hh (by simp), s'' i (by simp)⟩)
def isM (R : List (List Int)) (d : D) : Prop := d = .tup (R.map VE) ∨ d = .lst (R.map VE)
def c_det0 : Ct := fun _ _ _ _ => False
def c_det2 : Ct := fun ds S Q _ => ∃ R d, ds = [d] ∧ isM R d ∧ SqM 200000 R ∧ R.length ≤ 2 ∧ Q (.int (detL R)) S
def c_determinant : Ct := fun ds S Q _ => ∃ R d, ds = [d] ∧ isM R d ∧ SqM 200000 R ∧ Q (.int (detL R)) S
/-- determinant -/
def N_determinant : List Str := ["rows", "found", "place", "rest", "row"]
def b_determinant (c : Ct) : DB := (DB.cons (DS.iff (DT.cmp .Eq (DE.len (DA.cons (DE.var 0) DA.nil)) (DE.con (.int 1))) (DB.cons (DS.ret (DE.ix (DE.ix (DE.var 0) (DE.con (.int 0))) (DE.con (.int 0))))
  DB.nil) DB.nil)
  (DB.cons (DS.iff (DT.cmp .Eq (DE.len (DA.cons (DE.var 0) DA.nil)) (DE.con (.int 2))) (DB.cons (DS.ret (DE.op .Sub (DE.op .Mult (DE.ix (DE.ix (DE.var 0) (DE.con (.int 0))) (DE.con (.int 0))) (DE.ix (DE.ix (DE.var 0) (DE.con (.int 1))) (DE.con (.int 1)))) (DE.op .Mult (DE.ix (DE.ix (DE.var 0) (DE.con (.int 0))) (DE.con (.int 1))) (DE.ix (DE.ix (DE.var 0) (DE.con (.int 1))) (DE.con (.int 0))))))
  DB.nil) DB.nil)
  (DB.cons (DS.set 1 (DE.con (.int 0)))
  (DB.cons (DS.for (DG.nm 2) (DI.range1 (DE.con (.int 3))) (DB.cons (DS.setC 3 [("row", 4)] (DG.nm 4) (DI.seq (DE.sl (DE.var 0) (DO.so (DE.con (.int 1))) DO.no)) DF.no (DE.op .Add (DE.sl (DE.var 4) DO.no (DO.so (DE.var 2))) (DE.sl (DE.var 4) (DO.so (DE.op .Add (DE.var 2) (DE.con (.int 1)))) DO.no)))
  (DB.cons (DS.set 1 (DE.op .Add (DE.var 1) (DE.op .Mult (DE.op .Mult (DE.op .Sub (DE.con (.int 1)) (DE.op .Mult (DE.con (.int 2)) (DE.op .Mod (DE.var 2) (DE.con (.int 2))))) (DE.ix (DE.ix (DE.var 0) (DE.con (.int 0))) (DE.var 2))) (DE.call "determinant" c (DA.cons (DE.var 3) DA.nil)))))
  DB.nil)))
  (DB.cons (DS.ret (DE.var 1))
  DB.nil)))))
theorem w_det2 {ds : List D} {S : Sto} {Q : QD} {X : XD} (h : c_det2 ds S Q X) : ctOf N_determinant.length (b_determinant c_det0) ds S Q X := by
  obtain ⟨R, d, rfl, hd, hs, hl, h⟩ := h
  unfold b_determinant N_determinant
  rcases sq_cases hs with ⟨a, rfl, sa⟩ | ⟨a, b, c, e, rfl, sa, sb, sc, se⟩ | ⟨a, b, c, d, e, f, g, h, i, rfl, _⟩
  · rcases hd with rfl | rfl <;> (simp only [List.map_cons, List.map_nil, VE_eq]; walk_at "wp"; exact h)
  · rcases hd with rfl | rfl <;> (simp only [List.map_cons, List.map_nil, VE_eq]; walk_at "wp"; exact ⟨sa.ok se (by omega), sb.ok sc (by omega), h⟩)
  · simp at hl
theorem det2_call {a b c d : Int} {S : Sto} {Q : QD} {X : XD} (sa : Sm 200000 a) (sb : Sm 200000 b) (sc : Sm 200000 c) (sd : Sm 200000 d) (h : Q (.int (a * d - b * c)) S) : c_det2 [.lst [.tup [.int a, .int b], .tup [.int c, .int d]]] S Q X := by
  refine ⟨[[a, b], [c, d]], _, rfl, .inr rfl, ⟨by simp, by simp, ?_⟩, by simp, h⟩
  intro v hv
  simp only [List.mem_cons, List.not_mem_nil, or_false] at hv
  rcases hv with rfl | rfl
  · refine ⟨rfl, fun x hx => ?_⟩
    simp only [List.mem_cons, List.not_mem_nil, or_false] at hx
    rcases hx with rfl | rfl <;> assumption
  · refine ⟨rfl, fun x hx => ?_⟩
    simp only [List.mem_cons, List.not_mem_nil, or_false] at hx
    rcases hx with rfl | rfl <;> assumption
theorem mulOk_20 : IntMulOk 2 0 := (sm_lit 2 (by decide)).ok (sm_lit 0 (by decide)) (by omega)
theorem mulOk_21 : IntMulOk 2 1 := (sm_lit 2 (by decide)).ok (sm_lit 1 (by decide)) (by omega)
theorem mulOk_1 {a : Int} {k : Nat} (h : Sm k a) (hk : k ≤ 900000) : IntMulOk 1 a := (sm_lit 1 (by decide)).ok h (by omega)
theorem mulOk_m1 {a : Int} {k : Nat} (h : Sm k a) (hk : k ≤ 900000) : IntMulOk (-1) a := (sm_lit (-1) (by decide)).ok h (by omega)
theorem sm_det2 {a b c d : Int} {k : Nat} (sa : Sm k a) (sb : Sm k b) (sc : Sm k c) (sd : Sm k d) : Sm (k + k + 1) (a * d - b * c) := by
  have := (sa.mul sd).sub (sb.mul sc)
  rwa [Nat.max_self] at this
theorem w_determinant {ds : List D} {S : Sto} {Q : QD} {X : XD} (h : c_determinant ds S Q X) : ctOf N_determinant.length (b_determinant c_det2) ds S Q X := by
  obtain ⟨R, d, rfl, hd, hs, h⟩ := h
  unfold b_determinant N_determinant
  rcases sq_cases hs with ⟨a, rfl, sa⟩ | ⟨a, b, c, e, rfl, sa, sb, sc, se⟩ | ⟨a, b, c, d, e, f, g, h', i, rfl, sa, sb, sc, sd, se, sf, sg, sh, si⟩
  · rcases hd with rfl | rfl <;> (simp only [List.map_cons, List.map_nil, VE_eq]; walk_at "wp"; exact h)
  · rcases hd with rfl | rfl <;> (simp only [List.map_cons, List.map_nil, VE_eq]; walk_at "wp"; exact ⟨sa.ok se (by omega), sb.ok sc (by omega), h⟩)
  · have h2 : 2 ≤ sizeLine := szLe (by omega)
    have e : (0 : Int) + 1 * a * (e * i - f * h') + -1 * b * (d * i - f * g) + 1 * c * (d * h' - e * g) = detL [[a, b, c], [d, e, f], [g, h', i]] := by simp only [detL]; grind
    have h1 := mulOk_1 sa (by omega)
    have h1b := mulOk_m1 sb (by omega)
    have h1c := mulOk_1 sc (by omega)
    have k1 := ((sm_lit 1 (by decide)).mul sa).ok (sm_det2 se sf sh si) (by omega)
    have k2 := ((sm_lit (-1) (by decide)).mul sb).ok (sm_det2 sd sf sg si) (by omega)
    have k3 := ((sm_lit 1 (by decide)).mul sc).ok (sm_det2 sd se sg sh) (by omega)
    rcases hd with rfl | rfl <;>
    · simp only [List.map_cons, List.map_nil, VE_eq]
      walk_at "wp"
      refine ⟨by decide, by decide, h2, h2, h2, by decide, mulOk_20, h1, det2_call se sf sh si ?_⟩
      walk_at "wp"
      refine ⟨k1, h2, h2, h2, by decide, mulOk_21, h1b, det2_call sd sf sg si ?_⟩
      walk_at "wp"
      refine ⟨k2, h2, h2, h2, by decide, mulOk_20, h1c, det2_call sd se sg sh ?_⟩
      walk_at "wp"
      rw [e]
      exact ⟨k3, h⟩
/-! #### FB -/
def lim (x : Int) : Bool := decide (-1000000 ≤ x) && decide (x ≤ 1000000)
def isV (n : Int) (v : List Int) : Bool := decide ((v.length : Int) = n) && v.all lim
def Bas (R : List (List Int)) : Prop := 1 ≤ R.length ∧ R.length ≤ 3 ∧ (∀ v ∈ R, v.length = R.length ∧ ∀ x ∈ v, x.natAbs ≤ 1000000) ∧ detL R ≠ 0
instance : DecidablePred Bas := fun R => by unfold Bas; exact inferInstance
theorem lim_iff {x : Int} : lim x = true ↔ x.natAbs ≤ 1000000 := by
  unfold lim
  simp only [Bool.and_eq_true, decide_eq_true_eq]
  omega
theorem lim_sm {x : Int} (h : x.natAbs ≤ 1000000) : Sm 20 x := Sm.of 20 h (by decide)
theorem Bas.sq {R : List (List Int)} (h : Bas R) : SqM 20 R := ⟨h.1, h.2.1, fun v hv => ⟨(h.2.2.1 v hv).1, fun x hx => lim_sm ((h.2.2.1 v hv).2 x hx)⟩⟩
theorem SqM.mono {j k : Nat} {R : List (List Int)} (h : SqM j R) (hk : j ≤ k) : SqM k R := ⟨h.1, h.2.1, fun v hv => ⟨(h.2.2 v hv).1, fun x hx => ((h.2.2 v hv).2 x hx).mono hk⟩⟩
def okVecD : D → Prop
  | .tup es => es.length ≤ 1000 ∧ ∀ e ∈ es, okD e = true
  | d => okD d = true
def isVD (n : Int) : D → Bool
  | .tup es => decide ((es.length : Int) = n) && es.all (btw (-1000000) 1000000)
  | _ => false
theorem btw_int (x : Int) : btw (-1000000) 1000000 (.int x) = lim x := rfl
theorem isVD_V (n : Int) (v : List Int) : isVD n (VE v) = isV n v := by
  simp only [VE_eq, isVD, isV, List.length_map, List.all_map]
  rfl
theorem okVec_V {v : List Int} (h : v.length ≤ 1000) : okVecD (VE v) := ⟨by rw [List.length_map]; exact h, fun e he => by
  obtain ⟨x, _, rfl⟩ := List.mem_map.mp he
  rfl⟩
theorem compGo_allD {bd : D → Env → Sto → Option Env} {e : WE} {env : Env} {S : Sto} {Q : QL} (g : D → D) (L : List D)
    (h : ∀ a ∈ L, ∃ env', bd a env S = some env' ∧ (∀ Qd : QD, Qd (g a) S → e env' S Qd noX)) (hq : Q (L.map g) S) : compGo bd wYes e env [] L S [] Q := by
  have := compGo_all0 (bd := bd) (e := e) (env := env) (S := S) (Q := Q) id g L h hq
  rwa [List.map_id] at this
def c_is_vector : Ct := fun ds S Q _ => ∃ n d, ds = [.int n, d] ∧ okVecD d ∧ Q (.bl (isVD n d)) S
/-- is_vector -/
def N_is_vector : List Str := ["n", "value", "entry"]
def b_is_vector : DB := (DB.cons (DS.iff (DT.bool (DW.cons (DT.not (DT.val (DE.isTuple (DE.var 1)))) (DW.one .Or (DT.cmp .NotEq (DE.len (DA.cons (DE.var 1) DA.nil)) (DE.var 0))))) (DB.cons (DS.ret (DE.con (.bl false)))
  DB.nil) DB.nil)
  (DB.cons (DS.ret (DE.all (DA.cons (DE.lst (DL.comp [("entry", 2)] (DG.nm 2) (DI.seq (DE.var 1)) DF.no (DE.call "is_between" c_is_between (DA.cons (DE.var 2) (DA.cons (DE.neg (DE.glo "LIMIT" 1000000)) (DA.cons (DE.glo "LIMIT" 1000000) DA.nil)))))) DA.nil)))
  DB.nil))
theorem w_is_vector {ds : List D} {S : Sto} {Q : QD} {X : XD} (h : c_is_vector ds S Q X) : ctOf N_is_vector.length b_is_vector ds S Q X := by
  obtain ⟨n, d, rfl, hl, h⟩ := h
  unfold b_is_vector N_is_vector
  match d, hl, h with
  | .non, _, h => walk_at "wp"; exact h
  | .bl _, _, h => walk_at "wp"; exact h
  | .int _, _, h => walk_at "wp"; exact h
  | .str _, _, h => walk_at "wp"; exact h
  | .flt _, _, h => walk_at "wp"; exact h
  | .lst _, _, h => walk_at "wp"; exact h
  | .scr _, hd, _ => simp [okVecD, okD] at hd
  | .han _, hd, _ => simp [okVecD, okD] at hd
  | .cst _, hd, _ => simp [okVecD, okD] at hd
  | .exc _, hd, _ => simp [okVecD, okD] at hd
  | .tup es, hl, h =>
    walk_at "wp"
    by_cases e : (es.length : Int) = n
    · simp only [e]
      walk_at "wp"
      refine ⟨szLe (by have := hl.1; omega), compGo_allD (fun x => .bl (btw (-1000000) 1000000 x)) es (fun a ha => ⟨_, rfl, fun Qd hq => ?_⟩) ?_⟩
      · walk_at "wp"
        exact ⟨_, _, _, rfl, hl.2 a ha, hq⟩
      · rw [show es.map (fun x => D.bl (btw (-1000000) 1000000 x)) = (es.map (btw (-1000000) 1000000)).map D.bl by simp]
        refine oAll_l _ _ _ ?_
        simpa [isVD, e, List.all_map] using h
    · simp only [e]
      walk_at "wp"
      simpa [isVD, e] using h
def toI : D → Int
  | .int i => i
  | _ => 0
def toV : D → List Int
  | .tup es => es.map toI
  | _ => []
def okBasD : D → Prop
  | .tup rs => rs.length ≤ 1000 ∧ ∀ r ∈ rs, okVecD r
  | d => okD d = true
def isBasD : D → Bool
  | .tup rs => decide (1 ≤ rs.length) && decide (rs.length ≤ 3) && rs.all (isVD rs.length) && decide (detL (rs.map toV) ≠ 0)
  | _ => false
theorem isVD_inv {n : Int} {d : D} (h : isVD n d = true) : d = VE (toV d) ∧ isV n (toV d) = true := by
  unfold isVD at h
  split at h
  · rename_i es
    simp only [Bool.and_eq_true, decide_eq_true_eq, List.all_eq_true] at h
    have e : es = (es.map toI).map D.int := by
      rw [List.map_map]
      conv => lhs; rw [← List.map_id es]
      apply List.map_congr_left
      intro d hd
      have := h.2 d hd
      cases d <;> simp [btw] at this <;> rfl
    refine ⟨by rw [VE_eq]; exact congrArg D.tup e, ?_⟩
    simp only [isV, toV, List.length_map, Bool.and_eq_true, decide_eq_true_eq, List.all_eq_true]
    refine ⟨h.1, fun x hx => ?_⟩
    obtain ⟨d, hd, rfl⟩ := List.mem_map.mp hx
    have := h.2 d hd
    cases d <;> simp [btw] at this
    simp [toI, lim, this]
  · cases h
theorem toV_V (v : List Int) : toV (VE v) = v := by
  simp only [VE_eq, toV, List.map_map]
  conv => rhs; rw [← List.map_id v]
  rfl
theorem isBasD_M (R : List (List Int)) : isBasD (.tup (R.map VE)) = decide (Bas R) := by
  have e1 : (R.map VE).map toV = R := by
    rw [List.map_map]
    conv => rhs; rw [← List.map_id R]
    apply List.map_congr_left
    intro v _
    exact toV_V v
  rw [Bool.eq_iff_iff]
  simp only [isBasD, e1, List.length_map, Bool.and_eq_true, decide_eq_true_eq, List.all_map, List.all_eq_true, Function.comp_apply, isVD_V]
  unfold Bas
  constructor
  · rintro ⟨⟨⟨h1, h2⟩, h3⟩, h4⟩
    refine ⟨h1, h2, fun v hv => ?_, h4⟩
    have := h3 v hv
    simp only [isV, Bool.and_eq_true, decide_eq_true_eq, List.all_eq_true] at this
    exact ⟨by omega, fun x hx => lim_iff.mp (this.2 x hx)⟩
  · rintro ⟨h1, h2, h3, h4⟩
    refine ⟨⟨⟨h1, h2⟩, fun v hv => ?_⟩, h4⟩
    have := h3 v hv
    simp only [isV, Bool.and_eq_true, decide_eq_true_eq, List.all_eq_true]
    exact ⟨by omega, fun x hx => lim_iff.mpr (this.2 x hx)⟩
theorem isBasD_inv {d : D} (h : isBasD d = true) : ∃ R, d = .tup (R.map VE) ∧ Bas R := by
  unfold isBasD at h
  split at h
  · rename_i rs
    have h0 := h
    simp only [Bool.and_eq_true, decide_eq_true_eq, List.all_eq_true] at h
    have e : rs = (rs.map toV).map VE := by
      rw [List.map_map]
      conv => lhs; rw [← List.map_id rs]
      apply List.map_congr_left
      intro d hd
      exact (isVD_inv (h.1.2 d hd)).1
    refine ⟨rs.map toV, congrArg D.tup e, ?_⟩
    have z : isBasD (.tup ((rs.map toV).map VE)) = true := by rw [← e]; exact h0
    rw [isBasD_M, decide_eq_true_eq] at z
    exact z
  · cases h
theorem okBas_M {R : List (List Int)} (hl : R.length ≤ 1000) (hv : ∀ v ∈ R, v.length ≤ 1000) : okBasD (.tup (R.map VE)) := ⟨by rw [List.length_map]; exact hl, fun r hr => by
  obtain ⟨v, h, rfl⟩ := List.mem_map.mp hr
  exact okVec_V (hv v h)⟩
def c_is_basis : Ct := fun ds S Q _ => ∃ d, ds = [d] ∧ okBasD d ∧ Q (.bl (isBasD d)) S
/-- is_basis -/
def N_is_basis : List Str := ["value", "row"]
def b_is_basis : DB := (DB.cons (DS.iff (DT.bool (DW.cons (DT.not (DT.val (DE.isTuple (DE.var 0)))) (DW.one .Or (DT.not (DT.chn .LtE .LtE (DE.con (.int 1)) (DE.len (DA.cons (DE.var 0) DA.nil)) (DE.con (.int 3))))))) (DB.cons (DS.ret (DE.con (.bl false)))
  DB.nil) DB.nil)
  (DB.cons (DS.ret (DE.bool (DV.cons (DE.all (DA.cons (DE.lst (DL.comp [("row", 1)] (DG.nm 1) (DI.seq (DE.var 0)) DF.no (DE.call "is_vector" c_is_vector (DA.cons (DE.len (DA.cons (DE.var 0) DA.nil)) (DA.cons (DE.var 1) DA.nil))))) DA.nil)) (DV.one .And (DE.cmp .NotEq (DE.call "determinant" c_determinant (DA.cons (DE.var 0) DA.nil)) (DE.con (.int 0)))))))
  DB.nil))
theorem w_is_basis {ds : List D} {S : Sto} {Q : QD} {X : XD} (h : c_is_basis ds S Q X) : ctOf N_is_basis.length b_is_basis ds S Q X := by
  obtain ⟨d, rfl, hl, h⟩ := h
  unfold b_is_basis N_is_basis
  match d, hl, h with
  | .non, _, h => walk_at "wp"; exact h
  | .bl _, _, h => walk_at "wp"; exact h
  | .int _, _, h => walk_at "wp"; exact h
  | .str _, _, h => walk_at "wp"; exact h
  | .flt _, _, h => walk_at "wp"; exact h
  | .lst _, _, h => walk_at "wp"; exact h
  | .scr _, hd, _ => simp [okBasD, okD] at hd
  | .han _, hd, _ => simp [okBasD, okD] at hd
  | .cst _, hd, _ => simp [okBasD, okD] at hd
  | .exc _, hd, _ => simp [okBasD, okD] at hd
  | .tup rs, hl, h =>
    walk_at "wp"
    by_cases e1 : (1 : Int) ≤ rs.length
    · by_cases e2 : (rs.length : Int) ≤ 3
      · have e1' : 1 ≤ rs.length := by omega
        have e2' : rs.length ≤ 3 := by omega
        simp only [e1, e2]
        walk_at "wp"
        refine ⟨szLe (by omega), compGo_allD (fun r => .bl (isVD rs.length r)) rs (fun a ha => ⟨_, rfl, fun Qd hq => ?_⟩) ?_⟩
        · walk_at "wp"
          exact ⟨_, _, rfl, hl.2 a ha, hq⟩
        · rw [show rs.map (fun v => D.bl (isVD rs.length v)) = (rs.map (isVD rs.length)).map D.bl by simp]
          refine oAll_l _ _ _ ⟨_, rfl, ?_⟩
          have ea : ((rs.map (isVD rs.length)).all id) = rs.all (isVD rs.length) := by simp [List.all_map]
          rw [ea]
          cases e3 : rs.all (isVD rs.length) with
          | true =>
            rw [if_pos rfl]
            have hv := List.all_eq_true.mp e3
            have e : rs = (rs.map toV).map VE := by
              rw [List.map_map]
              conv => lhs; rw [← List.map_id rs]
              apply List.map_congr_left
              intro d hd
              exact (isVD_inv (hv d hd)).1
            refine ⟨rs.map toV, _, rfl, .inl (congrArg D.tup e), ⟨by rw [List.length_map]; exact e1', by rw [List.length_map]; exact e2', fun v hv' => ?_⟩, ?_⟩
            · obtain ⟨d, hd, rfl⟩ := List.mem_map.mp hv'
              have := (isVD_inv (hv d hd)).2
              simp only [isV, Bool.and_eq_true, decide_eq_true_eq, List.all_eq_true] at this
              exact ⟨by rw [List.length_map]; omega, fun x hx => (lim_sm (lim_iff.mp (this.2 x hx))).mono (by omega)⟩
            · walk_at "wp"
              simpa [isBasD, e1', e2', e3] using h
          | false =>
            rw [if_neg (by simp)]
            have : isBasD (.tup rs) = false := by simp only [isBasD, e3, Bool.and_false, Bool.false_and]
            rw [this] at h
            exact h
      · have e2' : ¬ rs.length ≤ 3 := by omega
        simp only [e1, e2]
        walk_at "wp"
        have : isBasD (.tup rs) = false := by simp only [isBasD, e2', decide_false, Bool.and_false, Bool.false_and]
        rw [this] at h
        exact h
    · have e1' : ¬ 1 ≤ rs.length := by omega
      simp only [e1]
      walk_at "wp"
      have : isBasD (.tup rs) = false := by simp only [isBasD, e1', decide_false, Bool.false_and]
      rw [this] at h
      exact h
def c_check_basis : Ct := fun ds S Q X => ∃ d, ds = [d] ∧ okBasD d ∧ if isBasD d = true then Q .non S else X "InvalidBasis" S
/-- check_basis -/
def N_check_basis : List Str := ["value"]
def b_check_basis : DB := (DB.cons (DS.iff (DT.not (DT.val (DE.call "is_basis" c_is_basis (DA.cons (DE.var 0) DA.nil)))) (DB.cons (DS.raise "InvalidBasis")
  DB.nil) DB.nil)
  DB.nil)
theorem w_check_basis {ds : List D} {S : Sto} {Q : QD} {X : XD} (h : c_check_basis ds S Q X) : ctOf N_check_basis.length b_check_basis ds S Q X := by
  obtain ⟨d, rfl, hl, h⟩ := h
  unfold b_check_basis N_check_basis
  walk_at "wp"
  refine ⟨d, rfl, hl, ?_⟩
  walk_at "wp"
  by_cases e : isBasD d = true
  · simpa [e] using h
  · simpa [e] using h
theorem Bas.ok {R : List (List Int)} (h : Bas R) : okBasD (.tup (R.map VE)) := okBas_M (by have := h.2.1; omega) fun v hv => by have := (h.2.2.1 v hv).1; have := h.2.1; omega
theorem Bas.isD {R : List (List Int)} (h : Bas R) : isBasD (.tup (R.map VE)) = true := by rw [isBasD_M]; exact decide_eq_true h
theorem Bas.chk {R : List (List Int)} {S : Sto} {Q : QD} {X : XD} (h : Bas R) (q : Q .non S) : c_check_basis [.tup (R.map VE)] S Q X :=
  ⟨_, rfl, h.ok, by rw [if_pos h.isD]; exact q⟩
def c_check_bases : Ct := fun ds S Q X => ∃ R T : List (List Int), ds = [.tup (R.map VE), .tup (T.map VE)] ∧ Bas R ∧ Bas T ∧ if R.length = T.length then Q .non S else X "Unlike" S
/-- check_bases -/
def N_check_bases : List Str := ["one", "other"]
def b_check_bases : DB := (DB.cons (DS.expr (DE.call "check_basis" c_check_basis (DA.cons (DE.var 0) DA.nil)))
  (DB.cons (DS.expr (DE.call "check_basis" c_check_basis (DA.cons (DE.var 1) DA.nil)))
  (DB.cons (DS.iff (DT.cmp .NotEq (DE.len (DA.cons (DE.var 0) DA.nil)) (DE.len (DA.cons (DE.var 1) DA.nil))) (DB.cons (DS.raise "Unlike")
  DB.nil) DB.nil)
  DB.nil)))
theorem w_check_bases {ds : List D} {S : Sto} {Q : QD} {X : XD} (h : c_check_bases ds S Q X) : ctOf N_check_bases.length b_check_bases ds S Q X := by
  obtain ⟨R, T, rfl, hr, ht, h⟩ := h
  unfold b_check_bases N_check_bases
  walk_at "wp"
  refine hr.chk (ht.chk ?_)
  walk_at "wp"
  simp only [List.length_map]
  by_cases e : R.length = T.length
  · simpa [e] using h
  · have : ¬ (R.length : Int) = T.length := by omega
    simpa [e, this] using h
theorem Bas.det {R : List (List Int)} {d : D} {S : Sto} {Q : QD} {X : XD} (h : Bas R) (hd : isM R d) (q : Q (.int (detL R)) S) : c_determinant [d] S Q X :=
  ⟨R, d, rfl, hd, h.sq.mono (by omega), q⟩
def c_volume : Ct := fun ds S Q _ => ∃ R : List (List Int), ds = [.tup (R.map VE)] ∧ Bas R ∧ Q (.int (detL R).natAbs) S
/-- volume -/
def N_volume : List Str := ["basis"]
def b_volume : DB := (DB.cons (DS.expr (DE.call "check_basis" c_check_basis (DA.cons (DE.var 0) DA.nil)))
  (DB.cons (DS.ret (DE.abs (DA.cons (DE.call "determinant" c_determinant (DA.cons (DE.var 0) DA.nil)) DA.nil)))
  DB.nil))
theorem w_volume {ds : List D} {S : Sto} {Q : QD} {X : XD} (h : c_volume ds S Q X) : ctOf N_volume.length b_volume ds S Q X := by
  obtain ⟨R, rfl, hr, h⟩ := h
  unfold b_volume N_volume
  walk_at "wp"
  refine hr.chk (hr.det (.inl rfl) ?_)
  walk_at "wp"
  exact h
def c_plus : Ct := fun ds S Q _ => ∃ u k v, ds = [VE u, .int k, VE v] ∧ u.length ≤ 1000 ∧ (∀ x ∈ v, IntMulOk k x) ∧ Q (VE (plusV u k v)) S
/-- plus -/
def N_plus : List Str := ["one", "factor", "other", "x", "y"]
def b_plus : DB := (DB.cons (DS.ret (DE.tuple (DA.cons (DE.lst (DL.comp [("x", 3), ("y", 4)] (DG.tp (DGs.cons 3 (DGs.cons 4 DGs.nil))) (DI.zip (DE.var 0) (DE.var 2)) DF.no (DE.op .Add (DE.var 3) (DE.op .Mult (DE.var 1) (DE.var 4))))) DA.nil)))
  DB.nil)
theorem w_plus {ds : List D} {S : Sto} {Q : QD} {X : XD} (h : c_plus ds S Q X) : ctOf N_plus.length b_plus ds S Q X := by
  obtain ⟨u, k, v, rfl, hl, hv, h⟩ := h
  unfold b_plus N_plus
  simp only [VE_eq]
  walk_at "wp"
  rw [zipD_map]
  refine ⟨by simp only [List.length_map, List.length_zip]; exact szLe (by omega), compGo_all0 _ (fun p => .int (p.1 + k * p.2)) (u.zip v) (fun a ha => ⟨_, rfl, fun Qd hq => ?_⟩) ?_⟩
  · walk_at "wp"
    exact ⟨hv _ (List.of_mem_zip ha).2, hq⟩
  · walk_at "wp"
    rw [show (u.zip v).map (fun p => D.int (p.1 + k * p.2)) = (plusV u k v).map .int by simp [plusV]]
    exact h
/-! #### FC -/
theorem ix_V {u : List Int} {p : Nat} (h : p < u.length) (S : Sto) (Q : QD) : oIx (VE u) (.int (p : Int)) S Q = Q (.int (gt u p)) S := by
  rw [VE_eq, oIx_t, atI_map, atI_some h, gt_lt h]
  simp
theorem ix_M {R : List (List Int)} {p : Nat} (h : p < R.length) (S : Sto) (Q : QD) : oIx (.tup (R.map VE)) (.int (p : Int)) S Q = Q (VE R[p]) S := by
  rw [oIx_t, atI_map, atI_some h]
  simp
theorem ix_Ml {R : List (List Int)} {p : Nat} (h : p < R.length) (S : Sto) (Q : QD) : oIx (.lst (R.map VE)) (.int (p : Int)) S Q = Q (VE R[p]) S := by
  rw [oIx_l, atI_map, atI_some h]
  simp
def bt (k : Nat) : Nat → Nat
  | 0 => k
  | p + 1 => 12 * bt k p + 8
theorem bt_up (k p : Nat) : 162 * (2 ^ bt k p) ^ 12 ≤ 2 ^ bt k (p + 1) := by
  show 162 * (2 ^ bt k p) ^ 12 ≤ 2 ^ (12 * bt k p + 8)
  rw [← Nat.pow_mul, Nat.pow_add, Nat.mul_comm (bt k p)]
  have : 2 ^ (12 * bt k p) * 162 ≤ 2 ^ (12 * bt k p) * 2 ^ 8 := Nat.mul_le_mul (Nat.le_refl _) (by decide)
  omega
theorem PInv.mono {m p : Nat} {R : List (List Int)} {E E' : Nat} {found left : List (List Int)} (h : PInv m p R E found left) (e : E ≤ E') : PInv m p R E' found left :=
  ⟨h.fd, h.lf, h.cl, fun u hu => (h.bf u hu).mono e⟩
theorem Bd.sm {b : Nat} {v : List Int} (h : Bd (2 ^ b) v) {x : Int} (hx : x ∈ v) : Sm (b + 1) x := by
  have := h x hx
  unfold Sm
  rw [Nat.pow_succ]
  have : 0 < 2 ^ b := Nat.pow_pos (by omega)
  omega
theorem Bd.smAt {b : Nat} {v : List Int} (h : Bd (2 ^ b) v) (i : Nat) : Sm (b + 1) (gt v i) := by
  have := h.at i
  unfold Sm
  rw [Nat.pow_succ]
  have : 0 < 2 ^ b := Nat.pow_pos (by omega)
  omega
/-- the first entries of the rows are small -/
def Pv (p : Nat) (F : List (List Int)) : Prop := ∀ u ∈ F, ∀ q, q < p → zb q u → gt u q ≠ 0 → Sm 8889 (gt u q)
theorem Pv.none {m p : Nat} {R : List (List Int)} {E : Nat} {F L : List (List Int)} (P : PInv m p R E F L) (h : Pv p F) : Pv (p + 1) F := fun u hu q hq hz hn => by
  by_cases e : q < p
  · exact h u hu q e hz hn
  · have e : q = p := by omega
    subst e
    obtain ⟨g, hg, he⟩ := P.fd
    rw [hg] at hu
    obtain ⟨r, hr, er⟩ := mem_rowsOf.mp hu
    have := ((he r hr).2 u er).2.2.2.1
    rw [hz r hr] at this
    omega
theorem Pv.some {m p : Nat} {R : List (List Int)} {E : Nat} {F L : List (List Int)} {f : List Int} (P : PInv m p R E F L) (h : Pv p F) (hl : f.length = m) (fz : zb p f) (fs : Sm 8889 (gt f p)) : Pv (p + 1) (F.map (red p f) ++ [f]) := fun u hu q hq hz hn => by
  rcases List.mem_append.mp hu with k | k
  · obtain ⟨w, hw, rfl⟩ := List.mem_map.mp k
    obtain ⟨g, hg, he⟩ := P.fd
    have hw' := hw
    rw [hg] at hw'
    obtain ⟨r, hr, er⟩ := mem_rowsOf.mp hw'
    obtain ⟨_, lw, _, pw, _⟩ := (he r hr).2 w er
    have same : ∀ i, i < p → gt (red p f w) i = gt w i := fun i hi => by rw [red_gt (by omega), fz i hi]; omega
    by_cases e : q < p
    · rw [same q e] at hn ⊢
      exact h w hw q e (fun i hi => by rw [← same i (by omega)]; exact hz i hi) hn
    · have e : q = p := by omega
      subst e
      have := hz r hr
      rw [same r hr] at this
      omega
  · have e0 : u = f := by simpa using k
    subst e0
    by_cases e : q < p
    · exact absurd (fz q e) hn
    · have e : q = p := by omega
      subst e
      exact fs
def c_sifted : Ct := fun ds S Q _ => ∃ (R : List (List Int)) (d : D) (m n k : Nat), ds = [d, .int n] ∧ isM R d ∧ Len m R ∧ n ≤ 3 ∧ n ≤ m ∧ m ≤ 1000 ∧ R.length ≤ 1000 ∧ k ≤ 61 ∧ (∀ u ∈ R, Bd (2 ^ k) u) ∧
  ∀ F Z, PInv m n R (2 ^ bt k n) F Z → (Z.length ≤ R.length ∧ Pv n F) → Q (.tup [.lst (F.map VE), .lst (Z.map VE)]) S
/-- sifted -/
def N_sifted : List Str := ["rows", "n", "left", "found", "place", "some", "rest", "first", "later", "pivot", "row", "entry"]
def b_sifted : DB := (DB.cons (DS.set 2 (DE.lst (DL.lof (DA.cons (DE.var 0) DA.nil))))
  (DB.cons (DS.set 3 (DE.lst (DL.dis DA.nil)))
  (DB.cons (DS.for (DG.nm 4) (DI.range1 (DE.var 1)) (DB.cons (DS.setC 5 [("row", 10)] (DG.nm 10) (DI.seq (DE.var 2)) (DF.one (DT.cmp .NotEq (DE.ix (DE.var 10) (DE.var 4)) (DE.con (.int 0)))) (DE.var 10))
  (DB.cons (DS.setC 6 [("row", 10)] (DG.nm 10) (DI.seq (DE.var 2)) (DF.one (DT.cmp .Eq (DE.ix (DE.var 10) (DE.var 4)) (DE.con (.int 0)))) (DE.var 10))
  (DB.cons (DS.while (DT.cmp .Gt (DE.len (DA.cons (DE.var 5) DA.nil)) (DE.con (.int 1))) (DB.cons (DS.set 5 (DE.lst (DL.srt 4 (DE.var 5))))
  (DB.cons (DS.set 7 (DE.ix (DE.var 5) (DE.con (.int 0))))
  (DB.cons (DS.setC 8 [("row", 10)] (DG.nm 10) (DI.seq (DE.sl (DE.var 5) (DO.so (DE.con (.int 1))) DO.no)) DF.no (DE.call "plus" c_plus (DA.cons (DE.var 10) (DA.cons (DE.neg (DE.op .FloorDiv (DE.ix (DE.var 10) (DE.var 4)) (DE.ix (DE.var 7) (DE.var 4)))) (DA.cons (DE.var 7) DA.nil)))))
  (DB.cons (DS.set 6 (DE.op .Add (DE.var 6) (DE.lst (DL.comp [("row", 10)] (DG.nm 10) (DI.seq (DE.var 8)) (DF.one (DT.cmp .Eq (DE.ix (DE.var 10) (DE.var 4)) (DE.con (.int 0)))) (DE.var 10)))))
  (DB.cons (DS.set 5 (DE.op .Add (DE.lst (DL.dis (DA.cons (DE.var 7) DA.nil))) (DE.lst (DL.comp [("row", 10)] (DG.nm 10) (DI.seq (DE.var 8)) (DF.one (DT.cmp .NotEq (DE.ix (DE.var 10) (DE.var 4)) (DE.con (.int 0)))) (DE.var 10)))))
  DB.nil))))))
  (DB.cons (DS.iff (DT.cmp .NotEq (DE.var 5) (DE.lst (DL.dis DA.nil))) (DB.cons (DS.set 9 (DE.ite (DT.cmp .Gt (DE.ix (DE.ix (DE.var 5) (DE.con (.int 0))) (DE.var 4)) (DE.con (.int 0))) (DE.ix (DE.var 5) (DE.con (.int 0))) (DE.tuple (DA.cons (DE.lst (DL.comp [("entry", 11)] (DG.nm 11) (DI.seq (DE.ix (DE.var 5) (DE.con (.int 0)))) DF.no (DE.neg (DE.var 11)))) DA.nil))))
  (DB.cons (DS.set 3 (DE.op .Add (DE.lst (DL.comp [("row", 10)] (DG.nm 10) (DI.seq (DE.var 3)) DF.no (DE.call "plus" c_plus (DA.cons (DE.var 10) (DA.cons (DE.neg (DE.op .FloorDiv (DE.ix (DE.var 10) (DE.var 4)) (DE.ix (DE.var 9) (DE.var 4)))) (DA.cons (DE.var 9) DA.nil)))))) (DE.lst (DL.dis (DA.cons (DE.var 9) DA.nil)))))
  DB.nil)) DB.nil)
  (DB.cons (DS.set 2 (DE.var 6))
  DB.nil))))))
  (DB.cons (DS.ret (DE.tup (DA.cons (DE.var 3) (DA.cons (DE.var 2) DA.nil))))
  DB.nil))))
theorem lof_M {R : List (List Int)} {d : D} (h : isM R d) (S : Sto) : seqOf S d = some (R.map VE) := by
  rcases h with rfl | rfl <;> rfl
theorem filt_len (p : Nat) (L : List (List Int)) : (L.filter fun u => gt u p != 0).length + (L.filter fun u => gt u p == 0).length = L.length := by
  induction L with
  | nil => rfl
  | cons a r ih =>
    rw [List.filter_cons, List.filter_cons]
    by_cases z : gt a p = 0
    · simp [z] at ih ⊢; omega
    · simp [z] at ih ⊢; omega
theorem gt_neg (v : List Int) (i : Nat) : gt (v.map (fun x => -x)) i = - gt v i := by
  by_cases h : i < v.length
  · rw [gt_lt (by simpa using h), gt_lt h]; simp
  · rw [gt_ge (by simpa using h), gt_ge (by omega)]; rfl
theorem red_ok2 {m p b : Nat} {R F L : List (List Int)} {f0 f u : List Int} {re : List (List Int)} (P : PInv m p R (2 ^ b) F L) (W : WInv m p R (2 ^ b) [f0] re) (hb : b ≤ 8888) (hf : (∀ i, gt f i = gt f0 i) ∨ (∀ i, gt f i = - gt f0 i)) (hu : u ∈ F) : IntDivOk (gt f p) ∧ ∀ x ∈ f, IntMulOk (-((gt u p).fdiv (gt f p))) x := by
  obtain ⟨E, M, b1, b2, b3, b4⟩ := W.bd
  have p2 : 0 < 2 ^ b := Nat.pow_pos (by omega)
  have fn := (W.s1 f0 (by simp)).2.2
  have f1 := b2 f0 (by simp)
  have u1 := (P.bf u (List.mem_append_left _ hu)).at p
  have e1 : (gt f p).natAbs = (gt f0 p).natAbs := by
    rcases hf with q | q
    · rw [q]
    · rw [q, Int.natAbs_neg]
  have fn' : gt f p ≠ 0 := by omega
  have s1 : Sm (b + 1) (gt f p) := by unfold Sm; rw [Nat.pow_succ]; omega
  refine ⟨s1.div fn' (by omega), fun x hx => ?_⟩
  have q : Sm (b + 2) ((gt u p).fdiv (gt f p)) := by
    have := fd_le2 (gt u p) fn'
    unfold Sm; rw [Nat.pow_succ, Nat.pow_succ]; omega
  have sx : Sm (6 * b + 5) x := by
    obtain ⟨i, hi, rfl⟩ := List.getElem_of_mem hx
    have h1 := (W.fin p2 f0 (by simp)).at i
    have h2 := pow9 b
    have e2 : (f[i]).natAbs = (gt f0 i).natAbs := by
      rw [← gt_lt hi]
      rcases hf with q | q
      · rw [q]
      · rw [q, Int.natAbs_neg]
    unfold Sm; rw [Nat.pow_succ (m := 6 * b + 4), e2]
    have : 0 < 2 ^ (6 * b + 4) := Nat.pow_pos (by omega)
    omega
  exact q.neg.ok sx (by omega)
theorem sort_V {p : Nat} {l : List (List Int)} (h : ∀ u ∈ l, p < u.length) : sortD (p : Int) (l.map VE) = (sortV p l).map VE := by
  unfold sortD sortV
  refine (List.map_mergeSort fun a ha b hb => ?_).symm
  have key : ∀ u ∈ l, keyD (p : Int) (VE u) = ((gt u p).natAbs : Int) := fun u hu => by
    show (match atI (u.map D.int) (p : Int) with | some (.int k) => (k.natAbs : Int) | _ => 0) = _
    rw [atI_map, atI_some (h u hu), gt_lt (h u hu)]
    rfl
  rw [key a ha, key b hb]
  simp
theorem bt_le {k p : Nat} (hk : k ≤ 61) (hp : p < 3) : bt k p ≤ 8888 := by
  have : p = 0 ∨ p = 1 ∨ p = 2 := by omega
  rcases this with rfl | rfl | rfl
  · show k ≤ _; omega
  · show 12 * k + 8 ≤ _; omega
  · show 12 * (12 * k + 8) + 8 ≤ _; omega
theorem red_ok {m p b : Nat} {R : List (List Int)} {so re : List (List Int)} (W : WInv m p R (2 ^ b) so re) (hb : b ≤ 8888) {f u : List Int} (hf : f ∈ so) (hu : u ∈ so) : IntDivOk (gt f p) ∧ ∀ x ∈ f, IntMulOk (-((gt u p).fdiv (gt f p))) x := by
  obtain ⟨E, M, b1, b2, b3, b4⟩ := W.bd
  have p2 : 0 < 2 ^ b := Nat.pow_pos (by omega)
  have fn := (W.s1 f hf).2.2
  have f1 := b2 f hf
  have u1 := b2 u hu
  have s1 : Sm (b + 1) (gt f p) := by unfold Sm; rw [Nat.pow_succ]; omega
  refine ⟨s1.div fn (by omega), fun x hx => ?_⟩
  have q : Sm (b + 2) ((gt u p).fdiv (gt f p)) := by
    have := fd_le2 (gt u p) fn
    unfold Sm; rw [Nat.pow_succ, Nat.pow_succ]; omega
  have sx : Sm (6 * b + 5) x := by
    have h1 := W.fin p2 f (List.mem_append_left _ hf) x hx
    have h2 := pow9 b
    unfold Sm; rw [Nat.pow_succ (m := 6 * b + 4)]
    have : 0 < 2 ^ (6 * b + 4) := Nat.pow_pos (by omega)
    omega
  exact q.neg.ok sx (by omega)
theorem w_sifted {ds : List D} {S : Sto} {Q : QD} {X : XD} (h : c_sifted ds S Q X) : ctOf N_sifted.length b_sifted ds S Q X := by
  obtain ⟨R, d, m, n, k, rfl, hd, hR, hn3, hnm, hm, hRl, hk, hB, h⟩ := h
  unfold b_sifted N_sifted
  walk_at "wp"
  refine ⟨_, lof_M hd S, by omega, by omega, ?_⟩
  refine forGo_inv (fun ds env S' => S' = S ∧ ∃ (p : Nat) (F L : List (List Int)) (a4 a5 a6 a7 a8 a9 a10 a11 : Option D), p ≤ n ∧ ds = ((List.range n).drop p).map (fun i => .int (i : Nat)) ∧
    env = [some d, some (.int n), some (.lst (L.map VE)), some (.lst (F.map VE)), a4, a5, a6, a7, a8, a9, a10, a11] ∧ PInv m p R (2 ^ bt k p) F L ∧ (L.length ≤ R.length ∧ Pv p F)) ?_ ?_ _ _ _ ?_
  · rintro d1 ds1 env1 S1 ⟨rfl, p, F, L, a4, a5, a6, a7, a8, a9, a10, a11, hp, hds, rfl, P, hL, hV⟩
    have hpn : p < n := by
      by_cases e : p < n
      · exact e
      · rw [List.drop_eq_nil_of_le (by simpa using e)] at hds; cases hds
    rw [List.drop_eq_getElem_cons (by simpa using hpn)] at hds
    simp only [List.getElem_range, List.map_cons, List.cons.injEq] at hds
    obtain ⟨rfl, rfl⟩ := hds
    refine ⟨trivial, _, rfl, fun nx hnx => ?_⟩
    walk_at "wp"
    have hpm : p < m := by omega
    have lenL : ∀ u ∈ L, p < u.length := fun u hu => by rw [(P.lf u hu).1.len hR]; exact hpm
    refine ⟨by rw [List.length_map]; exact szLe (by omega), compGo_map0 VE (fun u => gt u p != 0) VE L (fun u hu => ⟨_, rfl, fun Qb hq => ?_, fun _ Qd hq => ?_⟩) ?_⟩
    · walk_at "wp"
      rw [ix_V (lenL u hu)]
      walk_at "wp"
      exact hq
    · walk_at "wp"
      exact hq
    walk_at "wp"
    refine ⟨by rw [List.length_map]; exact szLe (by omega), compGo_map0 VE (fun u => gt u p == 0) VE L (fun u hu => ⟨_, rfl, fun Qb hq => ?_, fun _ Qd hq => ?_⟩) ?_⟩
    · walk_at "wp"
      rw [ix_V (lenL u hu)]
      walk_at "wp"
      exact hq
    · walk_at "wp"
      exact hq
    walk_at "wp"
    refine while_inv (fun z env S' => S' = S1 ∧ ∃ (so re : List (List Int)) (a7 a8 a9 a10 a11 : Option D),
      env = [some d, some (.int n), some (.lst (L.map VE)), some (.lst (F.map VE)), some (.int (p : Nat)), some (.lst (so.map VE)), some (.lst (re.map VE)), a7, a8, a9, a10, a11] ∧ WInv m p R (2 ^ bt k p) so re ∧ wsum p so = z ∧ so.length + re.length ≤ R.length) ?_ ⟨rfl, _, _, a7, a8, a9, a10, a11, rfl, P.into hR, rfl, ?_⟩
    rotate_left
    · have e1 := filt_len p L
      omega
    rintro z env2 S2 ⟨rfl, so, re, a7, a8, a9, a10, a11, rfl, W, hz, hl⟩ nx2 hnx2
    walk_at "wp"
    have lenS : ∀ u ∈ so, p < u.length := fun u hu => by rw [(W.s1 u hu).1.len hR]; exact hpm
    have hb := bt_le hk (show p < 3 by omega)
    rw [List.length_map]
    by_cases hgo : (1 : Int) < so.length
    · rw [if_pos hgo]
      refine ⟨.lst (so.map VE), rfl, so.map VE, (p : Int), rfl, rfl, ?_, ?_⟩
      · intro e he
        obtain ⟨u, hu, rfl⟩ := List.mem_map.mp he
        exact ⟨_, gt u p, rfl, by rw [atI_map, atI_some (lenS u hu), gt_lt (lenS u hu)]; rfl⟩
      rw [sort_V lenS]
      have hperm := sortV_perm p so
      have W' := W.perm hR hperm
      have hhd := @sortV_head p so
      revert hperm W' hhd
      generalize sortV p so = sv
      intro hperm W' hhd
      have hlen := hperm.length_eq
      match sv, hlen with
      | [], hlen => simp at hlen; omega
      | [_], hlen => simp at hlen; omega
      | f :: g :: tl, hlen =>
        have lenS' : ∀ u ∈ f :: g :: tl, p < u.length := fun u hu => lenS u (hperm.mem_iff.mp hu)
        have lenE : ∀ u ∈ f :: g :: tl, u.length = m := fun u hu => (W'.s1 u hu).1.len hR
        have hst := W'.step hR (by simp) (hhd rfl)
        simp only [List.length_cons] at hlen
        refine ⟨VE f, atI_0 _ _, ?_, ?_⟩
        · simp only [List.map_cons, List.drop_succ_cons, List.drop_zero, List.length_cons, List.length_map]
          exact szLe (by omega)
        rw [show List.drop 1 (List.map VE (f :: g :: tl)) = (g :: tl).map VE from rfl]
        refine compGo_all0 VE (fun u => VE (red p f u)) (g :: tl) (fun u hu => ⟨_, rfl, fun Qd hq => ?_⟩) ?_
        · walk_at "wp"
          have hu' : u ∈ f :: g :: tl := List.mem_cons_of_mem _ hu
          have ok := red_ok W' hb (f := f) (u := u) (by simp) hu'
          rw [ix_V (lenS' u hu')]
          rw [ix_V (lenS' f (by simp))]
          walk_at "wp"
          exact ⟨ok.1, u, _, f, rfl, by rw [lenE u hu']; omega, ok.2, hq⟩
        rw [show (g :: tl).map (fun u => VE (red p f u)) = ((g :: tl).map (red p f)).map VE by simp]
        have lenR : ∀ u ∈ (g :: tl).map (red p f), p < u.length := fun u hu => by
          obtain ⟨w, hw, rfl⟩ := List.mem_map.mp hu
          have hw' : w ∈ f :: g :: tl := List.mem_cons_of_mem _ hw
          rw [red_len (by rw [lenE w hw', lenE f (by simp)]), lenE w hw']; exact hpm
        have hlR : ((g :: tl).map (red p f)).length = tl.length + 1 := by simp
        have hcount := filt_len p ((g :: tl).map (red p f))
        rw [hlR] at hcount
        revert hst lenR hlR hcount
        generalize (g :: tl).map (red p f) = L'
        intro hst lenR hlR hcount
        refine ⟨by rw [List.length_map]; exact szLe (by omega), compGo_map0 VE (fun u => gt u p == 0) VE L' (fun u hu => ⟨_, rfl, fun Qb hq => ?_, fun _ Qd hq => ?_⟩) ?_⟩
        · walk_at "wp"
          rw [ix_V (lenR u hu)]
          walk_at "wp"
          exact hq
        · walk_at "wp"
          exact hq
        refine ⟨by rw [List.length_map, List.length_map]; exact szLe (by omega), by rw [List.length_map]; exact szLe (by omega), compGo_map0 VE (fun u => gt u p != 0) VE L' (fun u hu => ⟨_, rfl, fun Qb hq => ?_, fun _ Qd hq => ?_⟩) ?_⟩
        · walk_at "wp"
          rw [ix_V (lenR u hu)]
          walk_at "wp"
          exact hq
        · walk_at "wp"
          exact hq
        refine ⟨by rw [List.length_map]; exact szLe (by omega), hnx2 _ ?_ _ _ ⟨rfl, _, _, some (VE f), some (.lst (L'.map VE)), a9, a10, a11, by rw [List.map_append]; rfl, hst.1, rfl, ?_⟩⟩
        · rw [← hz, ← wsum_perm hperm]; exact hst.2
        · simp only [List.length_cons, List.length_append]
          omega
    · rw [if_neg hgo]
      have h2 : 1 ≤ 2 ^ bt k p := Nat.pow_pos (by omega)
      have hFl : F.length ≤ p := by
        obtain ⟨g, hg, _⟩ := P.fd
        rw [hg]
        unfold rowsOf
        refine Nat.le_trans (List.length_filterMap_le _ _) ?_
        simp
      have lenF : ∀ u ∈ F, u.length = m := fun u hu => by
        obtain ⟨g, hg, he⟩ := P.fd
        rw [hg] at hu
        obtain ⟨q, hq, hgq⟩ := mem_rowsOf.mp hu
        exact ((he q hq).2 u hgq).2.1
      refine oNe_Ml so [] _ _ ⟨_, rfl, ?_⟩
      match so, hgo with
      | [], _ =>
        simp only [decide_true, Bool.not_true, Bool.false_eq_true, if_false]
        refine hnx _ _ ⟨rfl, p + 1, F, re, _, _, _, _, _, _, _, _, by omega, rfl, rfl, (PInv.none hR h2 P W).mono (bt_up k p), by simpa using hl, Pv.none P hV⟩
      | _ :: _ :: _, hgo => exact absurd hgo (by simp only [List.length_cons]; omega)
      | [f0], _ =>
        have hf0 := lenS f0 (by simp)
        have hlf0 : f0.length = m := (W.s1 f0 (by simp)).1.len hR
        have hne : f0 :: ([] : List (List Int)) ≠ [] := by simp
        simp only [List.map_cons, List.map_nil, atI_0, Option.some.injEq, exists_eq_left', hne, decide_false, Bool.not_false, if_true]
        rw [ix_V hf0]
        walk_at "wp"
        have fin : ∀ (f : List Int) (aa bb cc dd ee ff gg : Option D) (hfl : f.length = m) (hfp : 0 < gt f p) (hf : (∀ i, gt f i = gt f0 i) ∨ (∀ i, gt f i = - gt f0 i)) , nx [some d, some (D.int ↑n), some (D.lst (List.map VE re)), some (D.lst (F.map (fun u => VE (red p f u)) ++ [VE f])), aa, bb, some (D.lst (List.map VE re)), cc, dd, ee, ff, gg] S2 := fun f aa bb cc dd ee ff gg hfl hfp hf =>
          hnx _ _ ⟨rfl, p + 1, F.map (red p f) ++ [f], re, _, _, _, _, _, _, _, _, by omega, rfl, by simp; exact ⟨rfl, rfl, rfl, rfl, rfl, rfl, rfl, rfl⟩, (PInv.some hR h2 P W hfl hfp hf).mono (bt_up k p), by simp only [List.length_cons, List.length_nil] at hl; omega, Pv.some P hV hfl (fun i hi => by
            have z := (W.s1 f0 (by simp)).2.1 i hi
            rcases hf with q | q
            · rw [q, z]
            · rw [q, z]; rfl) (by
            obtain ⟨E, M, b1, b2, b3, b4⟩ := W.bd
            have f1 := b2 f0 (by simp)
            have e1 : (gt f p).natAbs = (gt f0 p).natAbs := by
              rcases hf with q | q
              · rw [q]
              · rw [q, Int.natAbs_neg]
            have s1 : Sm (bt k p + 1) (gt f p) := by
              unfold Sm; rw [Nat.pow_succ]; omega
            exact s1.mono (by omega))⟩
        by_cases hpos : 0 < gt f0 p
        · rw [if_pos hpos]
          refine ⟨by rw [List.length_map]; exact szLe (by omega), compGo_all0 VE (fun u => VE (red p f0 u)) F (fun u hu => ⟨_, rfl, fun Qd hq => ?_⟩) ?_⟩
          · walk_at "wp"
            have ok := red_ok2 P W hb (f := f0) (.inl fun _ => rfl) hu
            rw [ix_V (by rw [lenF u hu]; exact hpm), ix_V hf0]
            walk_at "wp"
            exact ⟨ok.1, u, _, f0, rfl, by rw [lenF u hu]; omega, ok.2, hq⟩
          · exact ⟨by simp only [List.length_map]; exact szLe (by omega), fin f0 _ _ _ _ _ _ _ hlf0 hpos (.inl fun _ => rfl)⟩
        · rw [if_neg hpos]
          refine ⟨_, rfl, by rw [List.length_map]; exact szLe (by omega), compGo_all0 D.int (fun x => D.int (-x)) f0 (fun x hx => ⟨_, rfl, fun Qd hq => ?_⟩) ?_⟩
          · walk_at "wp"
            exact hq
          rw [show f0.map (fun x => D.int (-x)) = (f0.map (fun x => -x)).map D.int by simp]
          have hfn : ∀ i, gt (f0.map (fun x => -x)) i = - gt f0 i := gt_neg f0
          have hln : (f0.map (fun x => -x)).length = m := by simpa using hlf0
          have hpn' : 0 < gt (f0.map (fun x => -x)) p := by
            rw [hfn]
            have := (W.s1 f0 (by simp)).2.2
            omega
          revert hfn hln hpn'
          generalize f0.map (fun x => -x) = f
          intro hfn hln hpn'
          refine ⟨by rw [List.length_map]; exact szLe (by omega), compGo_all0 VE (fun u => VE (red p f u)) F (fun u hu => ⟨_, rfl, fun Qd hq => ?_⟩) ?_⟩
          · walk_at "wp"
            have ok := red_ok2 P W hb (f := f) (.inr hfn) hu
            have hpf : p < f.length := by rw [hln]; exact hpm
            rw [← VE_eq, ix_V (by rw [lenF u hu]; exact hpm)]
            refine ⟨.int (gt f p), by rw [atI_map, atI_some hpf, gt_lt hpf]; rfl, ?_⟩
            walk_at "wp"
            exact ⟨ok.1, u, _, f, rfl, by rw [lenF u hu]; omega, ok.2, hq⟩
          · exact ⟨by simp only [List.length_map]; exact szLe (by omega), fin f _ _ _ _ _ _ _ hln hpn' (.inr hfn)⟩
  · rintro env1 S1 ⟨rfl, p, F, L, a4, a5, a6, a7, a8, a9, a10, a11, hp, hds, rfl, P, hL⟩
    have hpn : p = n := by
      by_cases e : p < n
      · rw [List.drop_eq_getElem_cons (by simpa using e)] at hds
        cases hds
      · omega
    subst hpn
    refine ⟨trivial, ?_⟩
    walk_at "wp"
    exact h F L P hL
  · refine ⟨rfl, 0, [], R, none, none, none, none, none, none, none, none, by omega, ?_, rfl, PInv.start hR hB, Nat.le_refl _, fun u hu => by simp at hu⟩
    simp [rangeD]
/-! #### FD -/
theorem st_get (S : Sto) (o : O) : (S ++ [o])[S.length]? = some o := by simp
theorem st_set (S : Sto) (o o' : O) : (S ++ [o]).set S.length o' = S ++ [o'] := by simp
theorem st_rec (S : Sto) (ds : List D) : recD (S ++ [.lst ds]) "list" (.han S.length) = true := by
  unfold recD
  simp
theorem st_app (S : Sto) (ds : List D) (y : D) (Q : QD) (h : ds.length < sizeLine) (q : Q .non (S ++ [.lst (ds ++ [y])])) : oAppend (.han S.length) [y] (S ++ [.lst ds]) Q :=
  ⟨ds, st_get _ _, h, by rw [st_set]; exact q⟩
def c_echelon : Ct := fun ds S Q _ => ∃ (R : List (List Int)) (d : D) (m k : Nat), ds = [d, .int m] ∧ isM R d ∧ Len m R ∧ m ≤ 3 ∧ R.length ≤ 1000 ∧ k ≤ 61 ∧ (∀ u ∈ R, Bd (2 ^ k) u) ∧
  ∀ F, IsNF m R F → ((∀ u ∈ F, Bd (2 ^ bt k m) u) ∧ Pv m F) → Q (.tup (F.map VE)) S
/-- echelon -/
def N_echelon : List Str := ["rows", "n"]
def b_echelon : DB := (DB.cons (DS.ret (DE.tuple (DA.cons (DE.ix (DE.call "sifted" c_sifted (DA.cons (DE.var 0) (DA.cons (DE.var 1) DA.nil))) (DE.con (.int 0))) DA.nil)))
  DB.nil)
theorem w_echelon {ds : List D} {S : Sto} {Q : QD} {X : XD} (h : c_echelon ds S Q X) : ctOf N_echelon.length b_echelon ds S Q X := by
  obtain ⟨R, d, m, k, rfl, hd, hR, hm, hl, hk, hB, h⟩ := h
  unfold b_echelon N_echelon
  walk_at "wp"
  refine ⟨R, d, m, m, k, rfl, hd, hR, hm, Nat.le_refl _, by omega, hl, hk, hB, fun F Z P hz => ?_⟩
  walk_at "wp"
  exact h F P.fd ⟨fun u hu => P.bf u (List.mem_append_left _ hu), hz.2⟩
theorem bas_bd {R : List (List Int)} (h : Bas R) : ∀ u ∈ R, Bd (2 ^ 20) u := fun u hu x hx => Nat.le_trans ((h.2.2.1 u hu).2 x hx) (by decide)
theorem bas_ech {R : List (List Int)} (h : Bas R) {d : D} {n : Int} {S : Sto} {Q : QD} {X : XD} (hd : isM R d) (hn : n = R.length) (q : ∀ F, IsNF R.length R F → Q (.tup (F.map VE)) S) : c_echelon [d, .int n] S Q X :=
  ⟨R, d, R.length, 20, by rw [hn], hd, fun r hr => (h.2.2.1 r hr).1, h.2.1, by have := h.2.1; omega, by omega, bas_bd h, fun F hF _ => q F hF⟩
def c_normal_basis : Ct := fun ds S Q _ => ∃ R : List (List Int), ds = [.tup (R.map VE)] ∧ Bas R ∧ ∀ F, IsNF R.length R F → Q (.tup (F.map VE)) S
/-- normal_basis -/
def N_normal_basis : List Str := ["basis"]
def b_normal_basis : DB := (DB.cons (DS.expr (DE.call "check_basis" c_check_basis (DA.cons (DE.var 0) DA.nil)))
  (DB.cons (DS.ret (DE.call "echelon" c_echelon (DA.cons (DE.var 0) (DA.cons (DE.len (DA.cons (DE.var 0) DA.nil)) DA.nil))))
  DB.nil))
theorem w_normal_basis {ds : List D} {S : Sto} {Q : QD} {X : XD} (h : c_normal_basis ds S Q X) : ctOf N_normal_basis.length b_normal_basis ds S Q X := by
  obtain ⟨R, rfl, hb, h⟩ := h
  unfold b_normal_basis N_normal_basis
  walk_at "wp"
  refine hb.chk (bas_ech hb (.inl rfl) (by rw [List.length_map]) h)
def c_is_same : Ct := fun ds S Q _ => ∃ R T : List (List Int), ds = [.tup (R.map VE), .tup (T.map VE)] ∧ Bas R ∧ Bas T ∧ R.length = T.length ∧ ∀ F G, IsNF R.length R F → IsNF T.length T G → Q (.bl (decide (F = G))) S
/-- is_same -/
def N_is_same : List Str := ["one", "other"]
def b_is_same : DB := (DB.cons (DS.expr (DE.call "check_bases" c_check_bases (DA.cons (DE.var 0) (DA.cons (DE.var 1) DA.nil))))
  (DB.cons (DS.ret (DE.cmp .Eq (DE.call "echelon" c_echelon (DA.cons (DE.var 0) (DA.cons (DE.len (DA.cons (DE.var 0) DA.nil)) DA.nil))) (DE.call "echelon" c_echelon (DA.cons (DE.var 1) (DA.cons (DE.len (DA.cons (DE.var 1) DA.nil)) DA.nil)))))
  DB.nil))
theorem w_is_same {ds : List D} {S : Sto} {Q : QD} {X : XD} (h : c_is_same ds S Q X) : ctOf N_is_same.length b_is_same ds S Q X := by
  obtain ⟨R, T, rfl, hb, ht, hl, h⟩ := h
  unfold b_is_same N_is_same
  walk_at "wp"
  refine ⟨R, T, rfl, hb, ht, ?_⟩
  rw [if_pos hl]
  refine bas_ech hb (.inl rfl) (by rw [List.length_map]) fun F hF => bas_ech ht (.inl rfl) (by rw [List.length_map]) fun G hG => ?_
  exact oEq_M _ _ _ _ (h F G hF hG)
def VecOk (k n : Nat) (v : List Int) : Prop := v.length = n ∧ ∀ x ∈ v, Sm k x
theorem sq_set {b : Nat} {R : List (List Int)} {v : List Int} (h : SqM b R) (hv : VecOk b R.length v) (k : Nat) : SqM b (R.set k v) := by
  refine ⟨by simpa using h.1, by simpa using h.2.1, fun u hu => ?_⟩
  rw [List.length_set]
  rcases List.mem_or_eq_of_mem_set hu with q | rfl
  · exact h.2.2 u q
  · exact hv
theorem zip_set (R : List (List Int)) (v : List Int) (k : Nat) : (R.zipIdx.map fun p => if p.2 = k then v else p.1) = R.set k v := by
  apply List.ext_getElem
  · simp
  · intro i h1 h2
    simp only [List.getElem_map, List.getElem_zipIdx, List.getElem_set]
    by_cases e : k = i
    · subst e; simp
    · have : ¬ i = k := by omega
      simp [e, this]
theorem enum_map (R : List (List Int)) : enumD (R.map VE) = R.zipIdx.map fun p => .tup [.int (p.2 : Nat), VE p.1] := by
  unfold enumD
  rw [List.zipIdx_map]
  simp
def Gr (S S' : Sto) : Prop := ∃ J, S' = S ++ J
theorem Gr.refl (S : Sto) : Gr S S := ⟨[], by simp⟩
theorem Gr.trans {S T U : Sto} (h : Gr S T) (g : Gr T U) : Gr S U := by
  obtain ⟨J, rfl⟩ := h
  obtain ⟨K, rfl⟩ := g
  exact ⟨J ++ K, by simp⟩
def c_solved : Ct := fun ds S Q _ => ∃ (R : List (List Int)) (v : List Int), ds = [.tup (R.map VE), VE v] ∧ SqM 2000 R ∧ VecOk 2000 R.length v ∧ ∀ S', Gr S S' → Q (.lst ((sol R v).map .int)) S'
/-- solved -/
def N_solved : List Str := ["basis", "vector", "found", "place", "rows", "other", "row"]
def b_solved : DB := (DB.cons (DS.set 2 (DE.thw (DL.dis DA.nil)))
  (DB.cons (DS.for (DG.nm 3) (DI.range1 (DE.len (DA.cons (DE.var 0) DA.nil))) (DB.cons (DS.setC 4 [("other", 5), ("row", 6)] (DG.tp (DGs.cons 5 (DGs.cons 6 DGs.nil))) (DI.enum (DE.var 0)) DF.no (DE.ite (DT.cmp .Eq (DE.var 5) (DE.var 3)) (DE.var 1) (DE.var 6)))
  (DB.cons (DS.expr (DE.append (DE.var 2) (DE.call "determinant" c_determinant (DA.cons (DE.var 4) DA.nil))))
  DB.nil)))
  (DB.cons (DS.ret (DE.frz 2))
  DB.nil)))
theorem w_solved {ds : List D} {S : Sto} {Q : QD} {X : XD} (h : c_solved ds S Q X) : ctOf N_solved.length b_solved ds S Q X := by
  obtain ⟨R, v, rfl, hs, hv, h⟩ := h
  have hl := hs.2.1
  unfold b_solved N_solved
  walk_at "wp"
  rw [List.length_map]
  refine ⟨by omega, by omega, ?_⟩
  refine forGo_inv (fun ds env S' => ∃ (p : Nat) (a3 a4 a5 a6 : Option D), p ≤ R.length ∧ ds = ((List.range R.length).drop p).map (fun i => .int (i : Nat)) ∧
    env = [some (.tup (R.map VE)), some (VE v), some (.han S.length), a3, a4, a5, a6] ∧ S' = S ++ [.lst (((List.range p).map fun k => detL (R.set k v)).map .int)]) ?_ ?_ _ _ _ ?_
  · rintro d1 ds1 env1 S1 ⟨p, a3, a4, a5, a6, hp, hds, rfl, rfl⟩
    have hpn : p < R.length := by
      by_cases e : p < R.length
      · exact e
      · rw [List.drop_eq_nil_of_le (by simpa using e)] at hds; cases hds
    rw [List.drop_eq_getElem_cons (by simpa using hpn)] at hds
    simp only [List.getElem_range, List.map_cons, List.cons.injEq] at hds
    obtain ⟨rfl, rfl⟩ := hds
    refine ⟨trivial, _, rfl, fun nx hnx => ?_⟩
    walk_at "wp"
    rw [enum_map]
    refine ⟨by simp only [List.length_map, List.length_zipIdx]; exact szLe (by omega), compGo_all0 _ (fun q => if q.2 = p then VE v else VE q.1) R.zipIdx (fun q hq => ⟨_, rfl, fun Qd hq => ?_⟩) ?_⟩
    · walk_at "wp"
      by_cases e : q.2 = p
      · rw [if_pos e] at hq
        rw [if_pos (by omega)]
        exact hq
      · rw [if_neg e] at hq
        rw [if_neg (by omega)]
        exact hq
    have e1 : (R.zipIdx.map fun q => if q.2 = p then VE v else VE q.1) = (R.set p v).map VE := by
      rw [← zip_set, List.map_map]
      apply List.map_congr_left
      intro q _
      simp only [Function.comp_apply]
      split <;> rfl
    rw [e1]
    walk_at "wp"
    refine ⟨st_rec _ _, R.set p v, _, rfl, .inr rfl, (sq_set hs hv p).mono (by omega), ?_⟩
    refine st_app _ _ _ _ (by simp only [List.length_map, List.length_range]; have : R.length < sizeLine := Nat.lt_of_lt_of_le (by omega : R.length < 4) (szLe (by omega))
                              omega) ?_
    refine hnx _ _ ⟨p + 1, _, _, _, _, by omega, rfl, rfl, ?_⟩
    rw [List.range_succ]
    simp
  · rintro env1 S1 ⟨p, a3, a4, a5, a6, hp, hds, rfl, rfl⟩
    have hpn : p = R.length := by
      by_cases e : p < R.length
      · rw [List.drop_eq_getElem_cons (by simpa using e)] at hds
        cases hds
      · omega
    subst hpn
    refine ⟨trivial, ?_⟩
    walk_at "wp"
    refine ⟨_, rfl, _, st_get _ _, ?_⟩
    rw [st_set]
    exact h _ ⟨_, rfl⟩
  · exact ⟨0, none, none, none, none, by omega, by simp [rangeD], rfl, rfl⟩
theorem compGo_gr {α : Type} {bd : D → Env → Sto → Option Env} {e : WE} {env : Env} {Q : QL} (enc : α → D) (g : α → D) : ∀ (L : List α) (acc : List D) (S : Sto),
    (∀ a ∈ L, ∀ S', Gr S S' → ∃ env', bd (enc a) env S' = some env' ∧ (∀ Qd : QD, (∀ S'', Gr S' S'' → Qd (g a) S'') → e env' S' Qd noX)) →
    (∀ S', Gr S S' → Q (acc ++ L.map g) S') → compGo bd wYes e env [] (L.map enc) S acc Q
  | [], acc, S, _, hq => ⟨True.intro, by simpa using hq S (Gr.refl S)⟩
  | a :: L, acc, S, h, hq => by
    obtain ⟨env', hb, he⟩ := h a List.mem_cons_self S (Gr.refl S)
    refine ⟨True.intro, env', hb, ?_⟩
    show if true = true then e env' S (fun x S2 => compGo bd wYes e env [] (List.map enc L) S2 (acc ++ [x]) Q) noX else compGo bd wYes e env [] (List.map enc L) S acc Q
    rw [if_pos rfl]
    refine he _ fun S'' g2 => compGo_gr enc g L _ S'' (fun x hx S' g3 => h x (List.mem_cons_of_mem _ hx) S' (g2.trans g3)) fun S' g3 => ?_
    simpa using hq S' (g2.trans g3)
theorem sm_detL {k : Nat} {R : List (List Int)} (h : SqM k R) : Sm (3 * k + 4) (detL R) := by
  rcases sq_cases h with ⟨a, rfl, sa⟩ | ⟨a, b, c, e, rfl, sa, sb, sc, se⟩ | ⟨a, b, c, d, e, f, g, h', i, rfl, sa, sb, sc, sd, se, sf, sg, sh, si⟩
  · exact sa.mono (by omega)
  · exact (sm_det2 sa sb sc se).mono (by omega)
  · have h1 := sa.mul (sm_det2 se sf sh si)
    have h2 := sb.mul (sm_det2 sd sf sg si)
    have h3 := sc.mul (sm_det2 sd se sg sh)
    exact ((h1.sub h2).add h3).mono (by omega)
def c_whole_coefficients : Ct := fun ds S Q _ => ∃ (R : List (List Int)) (v : List Int), ds = [.tup (R.map VE), VE v] ∧ SqM 2000 R ∧ VecOk 2000 R.length v ∧ detL R ≠ 0 ∧ ∀ S', Gr S S' → Q (if Whole R v then VE (wc R v) else .non) S'
/-- whole_coefficients -/
def N_whole_coefficients : List Str := ["basis", "vector", "whole", "found", "entry"]
def b_whole_coefficients : DB := (DB.cons (DS.set 2 (DE.call "determinant" c_determinant (DA.cons (DE.var 0) DA.nil)))
  (DB.cons (DS.set 3 (DE.call "solved" c_solved (DA.cons (DE.var 0) (DA.cons (DE.var 1) DA.nil))))
  (DB.cons (DS.iff (DT.val (DE.any (DA.cons (DE.lst (DL.comp [("entry", 4)] (DG.nm 4) (DI.seq (DE.var 3)) DF.no (DE.cmp .NotEq (DE.op .Mod (DE.var 4) (DE.var 2)) (DE.con (.int 0))))) DA.nil))) (DB.cons (DS.ret (DE.con .non))
  DB.nil) DB.nil)
  (DB.cons (DS.ret (DE.tuple (DA.cons (DE.lst (DL.comp [("entry", 4)] (DG.nm 4) (DI.seq (DE.var 3)) DF.no (DE.op .FloorDiv (DE.var 4) (DE.var 2)))) DA.nil)))
  DB.nil))))
theorem w_whole_coefficients {ds : List D} {S : Sto} {Q : QD} {X : XD} (h : c_whole_coefficients ds S Q X) : ctOf N_whole_coefficients.length b_whole_coefficients ds S Q X := by
  obtain ⟨R, v, rfl, hs, hv, hd, h⟩ := h
  have hl := hs.2.1
  have hsl : (sol R v).length = R.length := by simp [sol]
  unfold b_whole_coefficients N_whole_coefficients
  walk_at "wp"
  refine ⟨R, _, rfl, .inl rfl, hs.mono (by omega), R, v, rfl, hs, hv, fun S' hS => ?_⟩
  walk_at "wp"
  refine ⟨by rw [List.length_map]; exact szLe (by omega), compGo_all0 D.int (fun x => .bl (!decide (x.fmod (detL R) = 0))) (sol R v) (fun x hx => ⟨_, rfl, fun Qd hq => ?_⟩) ?_⟩
  · walk_at "wp"
    exact ⟨hd, hq⟩
  rw [show (sol R v).map (fun x => D.bl (!decide (x.fmod (detL R) = 0))) = ((sol R v).map (fun x => !decide (x.fmod (detL R) = 0))).map D.bl by simp]
  refine oAny_l _ _ _ ⟨_, rfl, ?_⟩
  have hh := h S' hS
  by_cases w : Whole R v
  · rw [if_pos w] at hh
    have : ¬ ((sol R v).map (fun x => !decide (x.fmod (detL R) = 0))).any id = true := by
      simp only [List.any_map, List.any_eq_true, not_exists, not_and]
      intro x hx
      simp [w x hx]
    rw [if_neg this]
    refine ⟨by rw [List.length_map]; exact szLe (by omega), compGo_all0 D.int (fun x => .int (x.fdiv (detL R))) (sol R v) (fun x hx => ⟨_, rfl, fun Qd hq => ?_⟩) ?_⟩
    · walk_at "wp"
      exact ⟨(sm_detL hs).div hd (by omega), hq⟩
    · walk_at "wp"
      rw [show (sol R v).map (fun x => D.int (x.fdiv (detL R))) = (wc R v).map D.int by simp [wc]]
      exact hh
  · rw [if_neg w] at hh
    have : ((sol R v).map (fun x => !decide (x.fmod (detL R) = 0))).any id = true := by
      unfold Whole at w
      simp only [Classical.not_forall] at w
      obtain ⟨x, hx, w⟩ := w
      simp only [List.any_map, List.any_eq_true]
      exact ⟨x, hx, by simp [w]⟩
    rw [if_pos this]
    exact hh
theorem bas_vec {R T : List (List Int)} (ht : Bas T) (e : R.length = T.length) {v : List Int} (hv : v ∈ T) : VecOk 2000 R.length v :=
  ⟨by rw [(ht.2.2.1 v hv).1, e], fun x hx => (lim_sm ((ht.2.2.1 v hv).2 x hx)).mono (by omega)⟩
def c_change : Ct := fun ds S Q _ => ∃ R T : List (List Int), ds = [.tup (R.map VE), .tup (T.map VE)] ∧ Bas R ∧ Bas T ∧ R.length = T.length ∧ ∀ F G, IsNF R.length R F → IsNF T.length T G →
  if F = G then (∀ S', Gr S S' → Q (.tup (T.map fun v => if Whole R v then VE (wc R v) else .non)) S') else Q .non S
/-- change -/
def N_change : List Str := ["one", "other", "vector"]
def b_change : DB := (DB.cons (DS.expr (DE.call "check_bases" c_check_bases (DA.cons (DE.var 0) (DA.cons (DE.var 1) DA.nil))))
  (DB.cons (DS.iff (DT.cmp .NotEq (DE.call "echelon" c_echelon (DA.cons (DE.var 0) (DA.cons (DE.len (DA.cons (DE.var 0) DA.nil)) DA.nil))) (DE.call "echelon" c_echelon (DA.cons (DE.var 1) (DA.cons (DE.len (DA.cons (DE.var 1) DA.nil)) DA.nil)))) (DB.cons (DS.ret (DE.con .non))
  DB.nil) DB.nil)
  (DB.cons (DS.ret (DE.tuple (DA.cons (DE.lst (DL.comp [("vector", 2)] (DG.nm 2) (DI.seq (DE.var 1)) DF.no (DE.call "whole_coefficients" c_whole_coefficients (DA.cons (DE.var 0) (DA.cons (DE.var 2) DA.nil))))) DA.nil)))
  DB.nil)))
theorem w_change {ds : List D} {S : Sto} {Q : QD} {X : XD} (h : c_change ds S Q X) : ctOf N_change.length b_change ds S Q X := by
  obtain ⟨R, T, rfl, hb, ht, hl, h⟩ := h
  unfold b_change N_change
  walk_at "wp"
  refine ⟨R, T, rfl, hb, ht, ?_⟩
  rw [if_pos hl]
  refine bas_ech hb (.inl rfl) (by rw [List.length_map]) fun F hF => bas_ech ht (.inl rfl) (by rw [List.length_map]) fun G hG => ?_
  refine oNe_M _ _ _ _ ⟨_, rfl, ?_⟩
  have hh := h F G hF hG
  by_cases e : F = G
  · rw [if_pos e] at hh
    simp only [e, decide_true, Bool.not_true, Bool.false_eq_true, if_false]
    refine ⟨by rw [List.length_map]; exact szLe (by have := ht.2.1; omega), compGo_gr VE (fun v => if Whole R v then VE (wc R v) else .non) T [] _ (fun v hv S' hS => ⟨_, rfl, fun Qd hq => ?_⟩) fun S' hS => ?_⟩
    · walk_at "wp"
      exact ⟨R, v, rfl, hb.sq.mono (by omega), bas_vec ht hl hv, hb.2.2.2, hq⟩
    · walk_at "wp"
      exact hh S' hS
  · rw [if_neg e] at hh
    simp only [e, decide_false, Bool.not_false, if_true]
    exact hh
/-! #### FE -/
def c__law_town : Ct := fun ds S Q _ => ∃ ns : List Int, ds = [.scr (ns.map .int)] ∧ ns.length ≤ 63 ∧ S = [] ∧ Q (.han 0) [.lst (.int 0 :: ns.map .int)]
/-- _law_town -/
def N__law_town : List Str := ["script"]
def b__law_town : DB := (DB.cons (DS.ret (DE.thw (DL.cat (DE.lst (DL.dis (DA.cons (DE.con (.int 0)) DA.nil))) (DE.lst (DL.lof (DA.cons (DE.var 0) DA.nil))))))
  DB.nil)
theorem w__law_town {ds : List D} {S : Sto} {Q : QD} {X : XD} (h : c__law_town ds S Q X) : ctOf N__law_town.length b__law_town ds S Q X := by
  obtain ⟨ns, rfl, hl, rfl, h⟩ := h
  unfold b__law_town N__law_town
  walk_at "wp"
  simp only [List.length_map]
  exact ⟨szLe (by omega), h⟩
/-- the store with the town first -/
abbrev tw (c : Nat) (ts : List Int) (J : Sto) : Sto := .lst (.int (c : Nat) :: ts.map .int) :: J
def c__law_draw : Ct := fun ds S Q _ => ∃ (ns ts : List Int) (c : Nat) (J : Sto) (limit : Int), ds = [.scr (ns.map .int), .han 0, .int limit] ∧ S = tw c ts J ∧ ns.length ≤ 63 ∧ ts.length = ns.length ∧ c < 1000000 ∧ 0 < limit ∧ limit ≤ 1000000000 ∧
  ∀ (r : Int) (ts' : List Int), 0 ≤ r → r < limit → ts'.length = ns.length → Q (.int r) (tw (c + 1) ts' J)
/-- _law_draw -/
def N__law_draw : List Str := ["script", "town", "limit", "at", "left", "number"]
def b__law_draw : DB := (DB.cons (DS.sub (DE.var 1) (DE.con (.int 0)) (DE.op .Add (DE.ix (DE.var 1) (DE.con (.int 0))) (DE.con (.int 1))))
  (DB.cons (DS.iff (DT.cmp .Eq (DE.var 0) (DE.lst (DL.dis DA.nil))) (DB.cons (DS.ret (DE.op .Mod (DE.op .FloorDiv (DE.op .Mult (DE.op .Mult (DE.ix (DE.var 1) (DE.con (.int 0))) (DE.ix (DE.var 1) (DE.con (.int 0)))) (DE.con (.int 7))) (DE.con (.int 3))) (DE.var 2)))
  DB.nil) DB.nil)
  (DB.cons (DS.set 3 (DE.op .Mod (DE.ix (DE.var 1) (DE.con (.int 0))) (DE.len (DA.cons (DE.var 0) DA.nil))))
  (DB.cons (DS.set 4 (DE.ix (DE.var 1) (DE.op .Add (DE.con (.int 1)) (DE.var 3))))
  (DB.cons (DS.iff (DT.bool (DW.cons (DT.cmp .GtE (DE.ix (DE.var 0) (DE.var 3)) (DE.op .Pow (DE.con (.int 10)) (DE.con (.int 18)))) (DW.one .And (DT.cmp .Gt (DE.var 4) (DE.con (.int 0)))))) (DB.cons (DS.sub (DE.var 1) (DE.op .Add (DE.con (.int 1)) (DE.var 3)) (DE.op .FloorDiv (DE.var 4) (DE.var 2)))
  (DB.cons (DS.ret (DE.op .Mod (DE.var 4) (DE.var 2)))
  DB.nil)) DB.nil)
  (DB.cons (DS.set 5 (DE.op .Mod (DE.op .Add (DE.ix (DE.var 0) (DE.var 3)) (DE.op .Mult (DE.con (.int 104729)) (DE.ix (DE.var 1) (DE.con (.int 0))))) (DE.con (.int 4294967291))))
  (DB.cons (DS.set 5 (DE.op .Mod (DE.op .Pow (DE.var 5) (DE.con (.int 5))) (DE.con (.int 4294967279))))
  (DB.cons (DS.ret (DE.op .Mod (DE.op .FloorDiv (DE.op .Mod (DE.op .Add (DE.op .Mult (DE.op .FloorDiv (DE.var 5) (DE.con (.int 64))) (DE.con (.int 69621))) (DE.var 5)) (DE.con (.int 4294967231))) (DE.con (.int 8))) (DE.var 2)))
  DB.nil))))))))
theorem seq_h0 (l : List D) (J : Sto) : seqOf (.lst l :: J) (.han 0) = some l := rfl
theorem oIx_h0 (l : List D) (J : Sto) (i : Int) (Q : QD) : oIx (.han 0) (.int i) (.lst l :: J) Q = ∃ d, atI l i = some d ∧ Q d (.lst l :: J) := by simp [oIx, seq_h0]
theorem ix0 {n : Nat} (h : 0 < n) : ixN n 0 = some 0 := by
  unfold ixN
  rw [if_pos (by omega), if_pos (by omega)]; rfl
theorem oEq_scr (ns : List Int) (S : Sto) (Q : QD) (h : Q (.bl (decide (ns = []))) S) : oEq (.scr (ns.map .int)) (.lst []) S Q := by
  refine ⟨.list (ns.map .int), .list [], ?_, rfl, ?_, rfl, ?_⟩
  · show (pyDs (ns.map D.int)).map PyData.list = _
    rw [show pyDs (ns.map D.int) = some (ns.map PyData.int) from eI.hps ns]; rfl
  · unfold SeqAt.shaped
    have h1 : PyData.canLay0 (.list (ns.map .int)) = true := (eL eI).lay ns
    have h2 : PyData.depth (.list (ns.map .int)) ≤ 1 := (eL eI).dp ns
    rw [h1]; simp; omega
  · rw [show PyData.eqv (.list (ns.map .int)) (.list []) = decide (ns = []) from (eL eI).eq ns []]; exact h
theorem sm_nat {c : Nat} (k : Nat) (h : c < 2 ^ k) : Sm k (c : Int) := by unfold Sm; simpa using h
theorem sm_rng {a : Int} (k : Nat) (h0 : 0 ≤ a) (h : a < 2 ^ k) : Sm k a := by
  unfold Sm
  have e : ((2 ^ k : Nat) : Int) = (2 : Int) ^ k := by simp
  omega
theorem divOk_lit {j : Int} (h0 : 0 < j) (h : j < 2 ^ 40) : IntDivOk j := (sm_rng 40 (by omega) h).div (by omega) (by omega)
theorem w__law_draw {ds : List D} {S : Sto} {Q : QD} {X : XD} (h : c__law_draw ds S Q X) : ctOf N__law_draw.length b__law_draw ds S Q X := by
  obtain ⟨ns, ts, c, J, limit, rfl, rfl, hl, ht, hc, h0, hm, h⟩ := h
  unfold b__law_draw N__law_draw
  walk_at "wp"
  simp only [oIx_h0, atI_0]
  walk_at "wp"
  refine ⟨0, rfl, 0, _, rfl, ix0 (by simp), oEq_scr _ _ _ ⟨_, rfl, ?_⟩⟩
  have ec : (c : Int) + 1 = ((c + 1 : Nat) : Int) := by omega
  have sc : Sm 20 ((c + 1 : Nat) : Int) := sm_nat 20 (by omega)
  simp only [List.set_cons_zero, ec, oIx_h0, atI_0]
  have fin : ∀ (x : Int) (ts' : List Int), ts'.length = ns.length → limit ≠ 0 ∧ Q (.int (x.fmod limit)) (tw (c + 1) ts' J) := fun x ts' hts =>
    ⟨by omega, h _ _ (Int.fmod_nonneg_of_pos _ h0) (Int.fmod_lt_of_pos _ h0) hts⟩
  by_cases hns : ns = []
  · simp only [hns, decide_true, if_true]
    walk_at "wp"
    refine ⟨sc.ok sc (by omega), (sc.mul sc).ok (sm_lit 7 (by decide)) (by omega), divOk_lit (by decide) (by decide), fin _ _ ht⟩
  · simp only [hns, decide_false, Bool.false_eq_true, if_false]
    have hpos : 0 < ns.length := by cases ns with | nil => exact absurd rfl hns | cons a r => simp
    walk_at "wp"
    simp only [List.length_map]
    refine ⟨by omega, ?_⟩
    obtain ⟨a, ha⟩ : ∃ a : Nat, ((c + 1 : Nat) : Int).fmod (ns.length : Int) = (a : Int) := ⟨(((c + 1 : Nat) : Int).fmod (ns.length : Int)).toNat, by
      have := Int.fmod_nonneg_of_pos ((c + 1 : Nat) : Int) (b := (ns.length : Int)) (by omega)
      omega⟩
    have hal : a < ns.length := by
      have := Int.fmod_lt_of_pos ((c + 1 : Nat) : Int) (b := (ns.length : Int)) (by omega)
      omega
    have e1 : (1 : Int) + (a : Int) = ((a + 1 : Nat) : Int) := by omega
    have hts : a + 1 < (D.int ((c + 1 : Nat) : Int) :: ts.map D.int).length := by simp; omega
    have g1 : (D.int ((c + 1 : Nat) : Int) :: ts.map D.int)[a + 1] = D.int (gt ts a) := by
      rw [List.getElem_cons_succ, List.getElem_map, gt_lt (by omega)]
    simp only [ha, e1, oIx_h0, atI_some hts, g1]
    walk_at "wp"
    have hns' : a < (ns.map D.int).length := by simpa using hal
    have g2 : (ns.map D.int)[a] = D.int (gt ns a) := by rw [List.getElem_map, gt_lt hal]
    simp only [atI_some hns', g2]
    walk_at "wp"
    refine ⟨by decide, ?_⟩
    have k1 : IntMulOk 104729 ((c + 1 : Nat) : Int) := (sm_rng 20 (a := 104729) (by decide) (by decide)).ok sc (by omega)
    have k2 : ((gt ns a + 104729 * ((c + 1 : Nat) : Int)).fmod 4294967291).natAbs < 2 ^ 64 := by
      have h1 := Int.fmod_nonneg_of_pos (gt ns a + 104729 * ((c + 1 : Nat) : Int)) (b := 4294967291) (by decide)
      have h2 := Int.fmod_lt_of_pos (gt ns a + 104729 * ((c + 1 : Nat) : Int)) (b := 4294967291) (by decide)
      omega
    have k3 : ∀ y : Int, IntMulOk ((y.fmod 4294967279).fdiv 64) 69621 := fun y => by
      have h1 := Int.fmod_nonneg_of_pos y (b := 4294967279) (by decide)
      have h2 := Int.fmod_lt_of_pos y (b := 4294967279) (by decide)
      generalize y.fmod 4294967279 = z at h1 h2 ⊢
      have h3 := fd_le z (b := 64) (by decide)
      exact (Sm.of 33 (a := z.fdiv 64) (B := 4294967279) (by omega) (by decide)).ok (sm_rng 20 (a := 69621) (by decide) (by decide)) (by omega)
    have d64 : IntDivOk 64 := divOk_lit (by decide) (by decide)
    have d8 : IntDivOk 8 := divOk_lit (by decide) (by decide)
    have dl : IntDivOk limit := divOk_lit h0 (by omega)
    split
    · split
      · refine ⟨dl, 0, rfl, _, _, rfl, by unfold ixN; rw [if_pos (by omega), if_pos (by omega)], ?_⟩
        rw [show ((a + 1 : Nat) : Int).toNat = a + 1 by omega]
        simp only [List.set_cons_zero, List.set_cons_succ]
        rw [show (ts.map D.int).set a (D.int ((gt ts a).fdiv limit)) = (ts.set a ((gt ts a).fdiv limit)).map D.int by rw [List.map_set]]
        exact fin _ _ (by rw [List.length_set]; exact ht)
      · simp only [oIx_h0, atI_0]
        walk_at "wp"
        exact ⟨k1, by decide, k2, by decide, d64, k3 _, by decide, d8, fin _ _ ht⟩
    · simp only [oIx_h0, atI_0]
      walk_at "wp"
      exact ⟨k1, by decide, k2, by decide, d64, k3 _, by decide, d8, fin _ _ ht⟩
/-! #### FF -/
theorem oLen_seq {d : D} {S : Sto} {l : List D} (h : seqOf S d = some l) (Q : QD) : oLen [d] S Q = Q (.int l.length) S := by
  cases d <;> simp [oLen, h]
  cases h
theorem oIx_seq {d : D} {S : Sto} {l : List D} (h : seqOf S d = some l) (i : Int) (Q : QD) : oIx d (.int i) S Q = ∃ x, atI l i = some x ∧ Q x S := by simp [oIx, h]
theorem oTuple_seq {d : D} {S : Sto} {l : List D} (h : seqOf S d = some l) (Q : QD) : oTuple [d] S Q = Q (.tup l) S := by
  cases d <;> simp [oTuple, h]
def Tn (ns ts : List Int) (c : Nat) : Prop := ns.length ≤ 63 ∧ ts.length = ns.length ∧ c < 1000000
theorem draw_call {ns ts : List Int} {c : Nat} {J : Sto} {limit : Int} {Q : QD} {X : XD} (t : Tn ns ts c) (h0 : 0 < limit) (hl : limit ≤ 1000000000) (q : ∀ (r : Int) (ts' : List Int), 0 ≤ r → r < limit → ts'.length = ns.length → Q (.int r) (tw (c + 1) ts' J)) : c__law_draw [.scr (ns.map .int), .han 0, .int limit] (tw c ts J) Q X :=
  ⟨ns, ts, c, J, limit, rfl, rfl, t.1, t.2.1, t.2.2, h0, hl, q⟩
def c__law_pick : Ct := fun ds S Q _ => ∃ (ns ts : List Int) (c : Nat) (J : Sto) (xs : List D), ds = [.scr (ns.map .int), .han 0, .lst xs] ∧ S = tw c ts J ∧ Tn ns ts c ∧ 0 < xs.length ∧ xs.length ≤ 1000 ∧
  ∀ x ∈ xs, ∀ ts' : List Int, ts'.length = ns.length → Q x (tw (c + 1) ts' J)
/-- _law_pick -/
def N__law_pick : List Str := ["script", "town", "choices"]
def b__law_pick : DB := (DB.cons (DS.ret (DE.ix (DE.var 2) (DE.call "_law_draw" c__law_draw (DA.cons (DE.var 0) (DA.cons (DE.var 1) (DA.cons (DE.len (DA.cons (DE.var 2) DA.nil)) DA.nil))))))
  DB.nil)
theorem w__law_pick {ds : List D} {S : Sto} {Q : QD} {X : XD} (h : c__law_pick ds S Q X) : ctOf N__law_pick.length b__law_pick ds S Q X := by
  obtain ⟨ns, ts, c, J, xs, rfl, rfl, t, h0, h1, h⟩ := h
  unfold b__law_pick N__law_pick
  walk_at "wp"
  refine draw_call t (by omega) (by omega) fun r ts' r0 r1 hts => ?_
  walk_at "wp"
  obtain ⟨i, rfl⟩ := Int.eq_ofNat_of_zero_le r0
  have hi : i < xs.length := by omega
  exact ⟨xs[i], atI_some hi, h _ (List.getElem_mem hi) _ hts⟩
def c__law_det : Ct := fun ds S Q _ => ∃ R d, ds = [d] ∧ seqOf S d = some (R.map VE) ∧ SqM 200000 R ∧ Q (.int (detL R)) S
/-- _law_det -/
def N__law_det : List Str := ["rows", "one", "two", "three", "found"]
def b__law_det : DB := (DB.cons (DS.iff (DT.cmp .Eq (DE.len (DA.cons (DE.var 0) DA.nil)) (DE.con (.int 1))) (DB.cons (DS.ret (DE.ix (DE.ix (DE.var 0) (DE.con (.int 0))) (DE.con (.int 0))))
  DB.nil) DB.nil)
  (DB.cons (DS.iff (DT.cmp .Eq (DE.len (DA.cons (DE.var 0) DA.nil)) (DE.con (.int 2))) (DB.cons (DS.ret (DE.op .Sub (DE.op .Mult (DE.ix (DE.ix (DE.var 0) (DE.con (.int 0))) (DE.con (.int 0))) (DE.ix (DE.ix (DE.var 0) (DE.con (.int 1))) (DE.con (.int 1)))) (DE.op .Mult (DE.ix (DE.ix (DE.var 0) (DE.con (.int 0))) (DE.con (.int 1))) (DE.ix (DE.ix (DE.var 0) (DE.con (.int 1))) (DE.con (.int 0))))))
  DB.nil) DB.nil)
  (DB.cons (DS.asg (DG.tp (DGs.cons 1 (DGs.cons 2 (DGs.cons 3 DGs.nil)))) (DE.var 0))
  (DB.cons (DS.set 4 (DE.op .Mult (DE.ix (DE.var 1) (DE.con (.int 0))) (DE.op .Sub (DE.op .Mult (DE.ix (DE.var 2) (DE.con (.int 1))) (DE.ix (DE.var 3) (DE.con (.int 2)))) (DE.op .Mult (DE.ix (DE.var 2) (DE.con (.int 2))) (DE.ix (DE.var 3) (DE.con (.int 1)))))))
  (DB.cons (DS.set 4 (DE.op .Sub (DE.var 4) (DE.op .Mult (DE.ix (DE.var 1) (DE.con (.int 1))) (DE.op .Sub (DE.op .Mult (DE.ix (DE.var 2) (DE.con (.int 0))) (DE.ix (DE.var 3) (DE.con (.int 2)))) (DE.op .Mult (DE.ix (DE.var 2) (DE.con (.int 2))) (DE.ix (DE.var 3) (DE.con (.int 0))))))))
  (DB.cons (DS.ret (DE.op .Add (DE.var 4) (DE.op .Mult (DE.ix (DE.var 1) (DE.con (.int 2))) (DE.op .Sub (DE.op .Mult (DE.ix (DE.var 2) (DE.con (.int 0))) (DE.ix (DE.var 3) (DE.con (.int 1)))) (DE.op .Mult (DE.ix (DE.var 2) (DE.con (.int 1))) (DE.ix (DE.var 3) (DE.con (.int 0))))))))
  DB.nil))))))
theorem w__law_det {ds : List D} {S : Sto} {Q : QD} {X : XD} (h : c__law_det ds S Q X) : ctOf N__law_det.length b__law_det ds S Q X := by
  obtain ⟨R, d, rfl, hd, hs, h⟩ := h
  unfold b__law_det N__law_det
  rcases sq_cases hs with ⟨a, rfl, sa⟩ | ⟨a, b, c, e, rfl, sa, sb, sc, se⟩ | ⟨a, b, c, d', e, f, g, h', i, rfl, sa, sb, sc, sd, se, sf, sg, sh, si⟩
  · simp only [List.map_cons, List.map_nil, VE_eq] at hd
    have h1 := oLen_seq hd
    have h2 := oIx_seq hd
    clear hs
    revert h
    intro h
    walk_at "wps"
    exact h
  · simp only [List.map_cons, List.map_nil, VE_eq] at hd
    have h1 := oLen_seq hd
    have h2 := oIx_seq hd
    walk_at "wps"
    exact ⟨sa.ok se (by omega), sb.ok sc (by omega), h⟩
  · simp only [List.map_cons, List.map_nil, VE_eq] at hd
    have h1 := oLen_seq hd
    have h2 := oIx_seq hd
    walk_at "wps"
    have e1 : a * (e * i - f * h') - b * (d' * i - f * g) + c * (d' * h' - e * g) = detL [[a, b, c], [d', e, f], [g, h', i]] := by simp only [detL]
    rw [e1]
    have q1 := sm_det2 se sf sh si
    have q2 := sm_det2 sd sf sg si
    have q3 := sm_det2 sd se sg sh
    exact ⟨se.ok si (by omega), sf.ok sh (by omega), sa.ok q1 (by omega), sd.ok si (by omega), sf.ok sg (by omega), sb.ok q2 (by omega), sd.ok sh (by omega), se.ok sg (by omega), sc.ok q3 (by omega), h⟩
/-! #### FG -/
local macro_rules | `(tactic| walk_at "wp") => `(tactic| try simp only [z0, z1, z2, z3, z4, z5, z6, z7, z8, z9, z10, z11, z12, z13, z14, z15, z16, z17, z18, z19, z20, z21, z22, z23, z24, z25, z26, z27, z28, z29, z30, z31, z32, z33, z34, z35, z36, z37, z38, z39, z40, z41, z42, z43, z44, z45, z46, z47, z48, z49, z50, z51, z52, z53, z54, z55, z56, z57, z58, z59, z60, z61, z62, z63, z64, z65, z66, z67, z68, z69, z70, z71, z72, z73, z74, z75, z76, z77, z78, z79, z80, z81, z82, z83, zg0, zg1, y0, y1, y2, y3, y4, y5, y6, y7, y8, y9, y10, y11, y12, y13, y14, sg0, sg1, sg2, sg3, sg4, sn0, sn1, sn2, sn3, sn4, sn5, sn6, sn7, sn8, sn9, sp1, sp4, si0, si1, si2, si3, si4, sl0, sl1, sl2, sl3, sl4, wVar, wFrz, wC, wNil, wCons, w1, w2, w3, wAp, opD, cmD, oNeg, wB, wNotT, boolW, wAndT, wOrT, wNotV, boolV, wAndV, wOrV, wIte, wNo, wSo, wSl, wTup, wLst, wThw, wLof, wCat, wRep, wIsi, wM0, wM1, wIseq, wR1, wR2, wChr, wZip_eq, wEnum, wYes, wComp, wSkip, wSeq, wExpr, wRet, wCont, wSet, wAsg, wPar, wSub, wIf, wFor, wRaise, wCall, wCall0, wTry, wIsX, wIsVE, wLofS, wFld, wSetF, wMet, wMet0, wMake, wLenO, seqOf_tup, seqOf_lst, seqOf_scr, lstOf_lst, lstOf_scr, lstX_lst, tupOf_tup, srcOf_tup, srcOf_lst, srcOf_scr, srcOf_han, srcOk_nil, srcOk_cons, oAdd_ii, oAdd_ss, oAdd_tt, oAdd_ll, oSub_ii, oMul_ii, oMul_ti, oMul_si, oDiv_ii, oMod_ii, oPow_ii, oNeg_i, oEq_ii, oNe_ii, oEq_ss, oNe_ss, oI_ii, oIs_n, oIsNot_n, oIs_b, oIsNot_b, isNon_n, isNon_b, isNon_i, isNon_s, isNon_t, isNon_l, isNon_h, oIx_t, oIx_l, oIx_s, oLen_t, oLen_l, oLen_s, oLen_str, oAbs_i, oTuple_l, oTuple_t, oSl_t, oSl_l, oInt_i, oInt_b, compGo_nil, compGo_cons, forGo_nil, forGo_cons, wipeD_nil, wipeD_cons, range_3, range_2, range_1, enumD_nil, enumD_1, enumD_2, enumD_3, zipD_nil, zipD_cons, oMin_ii, ctOf, startD, List.map_cons, List.map_nil, List.length_cons, List.length_nil, List.cons_append, List.nil_append, List.append_nil, List.replicate, Nat.reduceAdd, Nat.reduceSub, Nat.sub_self, Nat.zero_add, List.getElem?_cons_zero, List.getElem?_cons_succ, List.getElem?_nil, List.set_cons_zero, List.set_cons_succ, ex_eq, ex_and, Option.some.injEq, exists_eq_left', exists_eq_left, exists_eq_right, D.bl.injEq, D.int.injEq, D.str.injEq, D.tup.injEq, D.lst.injEq, D.han.injEq, O.ins.injEq, O.lst.injEq, atI_0, atI_1, atI_2, reduceIte, zip_tt, zip_ll, ty_n, ty_b, ty_i, ty_s, ty_t, ty_l, ty_f, kit_ii, kit_ib, kit_bb, kit_bi, kit_it, kit_tt, kit_ti, kit_tb, kit_lt, kit_li, kit_st, kit_si, kit_ss, kit_nt, kit_ni, kit_fi, kit_ft, kit_is, kit_ns, kit_bt, oLen_V, Int.toNat_natCast, cut_t0, cut_t1, cut_t2, cut_f1, cut_f2, cut_f3, m2_0, m2_1, m2_2, List.take_succ_cons, List.take_zero, List.drop_succ_cons, List.drop_zero, List.take_nil, List.drop_nil, decide_true, decide_false, Bool.not_true, Bool.not_false, if_true, if_false, Bool.false_eq_true, Int.cast_ofNat_Int, Int.reduceEq, Int.reduceLT, Int.reduceLE, Int.reduceToNat, Int.reduceNeg, Nat.reduceEqDiff, decide_eq_true_eq, true_and, and_true, List.cons.injEq, and_self, Int.reduceSub, Int.reduceAdd, Int.reduceMul])
local macro_rules | `(tactic| walk_at "wps") => `(tactic| simp only [z0, z1, z2, z3, z4, z5, z6, z7, z8, z9, z10, z11, z12, z13, z14, z15, z16, z17, z18, z19, z20, z21, z22, z23, z24, z25, z26, z27, z28, z29, z30, z31, z32, z33, z34, z35, z36, z37, z38, z39, z40, z41, z42, z43, z44, z45, z46, z47, z48, z49, z50, z51, z52, z53, z54, z55, z56, z57, z58, z59, z60, z61, z62, z63, z64, z65, z66, z67, z68, z69, z70, z71, z72, z73, z74, z75, z76, z77, z78, z79, z80, z81, z82, z83, zg0, zg1, y0, y1, y2, y3, y4, y5, y6, y7, y8, y9, y10, y11, y12, y13, y14, sg0, sg1, sg2, sg3, sg4, sn0, sn1, sn2, sn3, sn4, sn5, sn6, sn7, sn8, sn9, sp1, sp4, si0, si1, si2, si3, si4, sl0, sl1, sl2, sl3, sl4, wVar, wFrz, wC, wNil, wCons, w1, w2, w3, wAp, opD, cmD, oNeg, wB, wNotT, boolW, wAndT, wOrT, wNotV, boolV, wAndV, wOrV, wIte, wNo, wSo, wSl, wTup, wLst, wThw, wLof, wCat, wRep, wIsi, wM0, wM1, wIseq, wR1, wR2, wChr, wZip_eq, wEnum, wYes, wComp, wSkip, wSeq, wExpr, wRet, wCont, wSet, wAsg, wPar, wSub, wIf, wFor, wRaise, wCall, wCall0, wTry, wIsX, wIsVE, wLofS, wFld, wSetF, wMet, wMet0, wMake, wLenO, seqOf_tup, seqOf_lst, seqOf_scr, lstOf_lst, lstOf_scr, lstX_lst, tupOf_tup, srcOf_tup, srcOf_lst, srcOf_scr, srcOf_han, srcOk_nil, srcOk_cons, oAdd_ii, oAdd_ss, oAdd_tt, oAdd_ll, oSub_ii, oMul_ii, oMul_ti, oMul_si, oDiv_ii, oMod_ii, oPow_ii, oNeg_i, oEq_ii, oNe_ii, oEq_ss, oNe_ss, oI_ii, oIs_n, oIsNot_n, oIs_b, oIsNot_b, isNon_n, isNon_b, isNon_i, isNon_s, isNon_t, isNon_l, isNon_h, oIx_t, oIx_l, oIx_s, oLen_t, oLen_l, oLen_s, oLen_str, oAbs_i, oTuple_l, oTuple_t, oSl_t, oSl_l, oInt_i, oInt_b, compGo_nil, compGo_cons, forGo_nil, forGo_cons, wipeD_nil, wipeD_cons, range_3, range_2, range_1, enumD_nil, enumD_1, enumD_2, enumD_3, zipD_nil, zipD_cons, oMin_ii, ctOf, startD, List.map_cons, List.map_nil, List.length_cons, List.length_nil, List.cons_append, List.nil_append, List.append_nil, List.replicate, Nat.reduceAdd, Nat.reduceSub, Nat.sub_self, Nat.zero_add, List.getElem?_cons_zero, List.getElem?_cons_succ, List.getElem?_nil, List.set_cons_zero, List.set_cons_succ, ex_eq, ex_and, Option.some.injEq, exists_eq_left', exists_eq_left, exists_eq_right, D.bl.injEq, D.int.injEq, D.str.injEq, D.tup.injEq, D.lst.injEq, D.han.injEq, O.ins.injEq, O.lst.injEq, atI_0, atI_1, atI_2, reduceIte, zip_tt, zip_ll, ty_n, ty_b, ty_i, ty_s, ty_t, ty_l, ty_f, kit_ii, kit_ib, kit_bb, kit_bi, kit_it, kit_tt, kit_ti, kit_tb, kit_lt, kit_li, kit_st, kit_si, kit_ss, kit_nt, kit_ni, kit_fi, kit_ft, kit_is, kit_ns, kit_bt, oLen_V, Int.toNat_natCast, cut_t0, cut_t1, cut_t2, cut_f1, cut_f2, cut_f3, m2_0, m2_1, m2_2, List.take_succ_cons, List.take_zero, List.drop_succ_cons, List.drop_zero, List.take_nil, List.drop_nil, decide_true, decide_false, Bool.not_true, Bool.not_false, if_true, if_false, Bool.false_eq_true, Int.cast_ofNat_Int, Int.reduceEq, Int.reduceLT, Int.reduceLE, Int.reduceToNat, Int.reduceNeg, Nat.reduceEqDiff, decide_eq_true_eq, true_and, and_true, List.cons.injEq, and_self, Int.reduceSub, Int.reduceAdd, Int.reduceMul, *])
local macro_rules | `(tactic| walk_at "wpf") => `(tactic| try simp only [z0, z1, z2, z3, z4, z5, z6, z7, z8, z9, z10, z11, z12, z13, z14, z15, z16, z17, z18, z19, z20, z21, z22, z23, z24, z25, z26, z27, z28, z29, z30, z31, z32, z33, z34, z35, z36, z37, z38, z39, z40, z41, z42, z43, z44, z45, z46, z47, z48, z49, z50, z51, z52, z53, z54, z55, z56, z57, z58, z59, z60, z61, z62, z63, z64, z65, z66, z67, z68, z69, z70, z71, z72, z73, z74, z75, z76, z77, z78, z79, z80, z81, z82, z83, zg0, zg1, y0, y1, y2, y3, y4, y5, y6, y7, y8, y9, y10, y11, y12, y13, y14, sg0, sg1, sg2, sg3, sg4, sn0, sn1, sn2, sn3, sn4, sn5, sn6, sn7, sn8, sn9, sp1, sp4, si0, si1, si2, si3, si4, sl0, sl1, sl2, sl3, sl4, wVar, wFrz, wC, wNil, wCons, w1, w2, w3, wAp, opD, cmD, oNeg, wB, wNotT, boolW, wAndT, wOrT, wNotV, boolV, wAndV, wOrV, wIte, wNo, wSo, wSl, wTup, wLst, wThw, wLof, wCat, wRep, wIsi, wM0, wM1, wIseq, wR1, wR2, wChr, wZip_eq, wEnum, wYes, wComp, wSkip, wSeq, wExpr, wRet, wCont, wSet, wAsg, wPar, wSub, wIf, wFor, wRaise, wCall, wCall0, wTry, wIsX, wIsVE, wLofS, wFld, wSetF, wMet, wMet0, wMake, wLenO, seqOf_tup, seqOf_lst, seqOf_scr, lstOf_lst, lstOf_scr, lstX_lst, tupOf_tup, srcOf_tup, srcOf_lst, srcOf_scr, srcOf_han, srcOk_nil, srcOk_cons, oAdd_ii, oAdd_ss, oAdd_tt, oAdd_ll, oSub_ii, oMul_ii, oMul_ti, oMul_si, oDiv_ii, oMod_ii, oPow_ii, oNeg_i, oEq_ii, oNe_ii, oEq_ss, oNe_ss, oI_ii, oIs_n, oIsNot_n, oIs_b, oIsNot_b, isNon_n, isNon_b, isNon_i, isNon_s, isNon_t, isNon_l, isNon_h, oIx_t, oIx_l, oIx_s, oLen_t, oLen_l, oLen_s, oLen_str, oAbs_i, oTuple_l, oTuple_t, oSl_t, oSl_l, oInt_i, oInt_b, compGo_nil, compGo_cons, wipeD_nil, wipeD_cons, range_3, range_2, range_1, enumD_nil, enumD_1, enumD_2, enumD_3, zipD_nil, zipD_cons, oMin_ii, ctOf, startD, List.map_cons, List.map_nil, List.length_cons, List.length_nil, List.cons_append, List.nil_append, List.append_nil, List.replicate, Nat.reduceAdd, Nat.reduceSub, Nat.sub_self, Nat.zero_add, List.getElem?_cons_zero, List.getElem?_cons_succ, List.getElem?_nil, List.set_cons_zero, List.set_cons_succ, ex_eq, ex_and, Option.some.injEq, exists_eq_left', exists_eq_left, exists_eq_right, D.bl.injEq, D.int.injEq, D.str.injEq, D.tup.injEq, D.lst.injEq, D.han.injEq, O.ins.injEq, O.lst.injEq, atI_0, atI_1, atI_2, reduceIte, zip_tt, zip_ll, ty_n, ty_b, ty_i, ty_s, ty_t, ty_l, ty_f, kit_ii, kit_ib, kit_bb, kit_bi, kit_it, kit_tt, kit_ti, kit_tb, kit_lt, kit_li, kit_st, kit_si, kit_ss, kit_nt, kit_ni, kit_fi, kit_ft, kit_is, kit_ns, kit_bt, oLen_V, Int.toNat_natCast, cut_t0, cut_t1, cut_t2, cut_f1, cut_f2, cut_f3, m2_0, m2_1, m2_2, List.take_succ_cons, List.take_zero, List.drop_succ_cons, List.drop_zero, List.take_nil, List.drop_nil, decide_true, decide_false, Bool.not_true, Bool.not_false, if_true, if_false, Bool.false_eq_true, Int.cast_ofNat_Int, Int.reduceEq, Int.reduceLT, Int.reduceLE, Int.reduceToNat, Int.reduceNeg, Nat.reduceEqDiff, decide_eq_true_eq, true_and, and_true, List.cons.injEq, and_self, Int.reduceSub, Int.reduceAdd, Int.reduceMul])
local macro_rules | `(tactic| walk_at "wpe") => `(tactic| simp only [z0, z1, z2, z3, z4, z5, z6, z7, z8, z9, z10, z11, z12, z13, z14, z15, z16, z17, z18, z19, z20, z21, z22, z23, z24, z25, z26, z27, z28, z29, z30, z31, z32, z33, z34, z35, z36, z37, z38, z39, z40, z41, z42, z43, z44, z45, z46, z47, z48, z49, z50, z51, z52, z53, z54, z55, z56, z57, z58, z59, z60, z61, z62, z63, z64, z65, z66, z67, z68, z69, z70, z71, z72, z73, z74, z75, z76, z77, z78, z79, z80, z81, z82, z83, zg0, zg1, y0, y1, y2, y3, y4, y5, y6, y7, y8, y9, y10, y11, y12, y13, y14, sg0, sg1, sg2, sg3, sg4, sn0, sn1, sn2, sn3, sn4, sn5, sn6, sn7, sn8, sn9, sp1, sp4, si0, si1, si2, si3, si4, sl0, sl1, sl2, sl3, sl4, wVar, wFrz, wC, wNil, wCons, w1, w2, w3, wAp, opD, cmD, oNeg, wB, wNotT, boolW, wAndT, wOrT, wNotV, boolV, wAndV, wOrV, wIte, wNo, wSo, wSl, wTup, wLst, wThw, wLof, wCat, wRep, wIsi, wM0, wM1, wIseq, wR1, wR2, wChr, wZip_eq, wEnum, wYes, wComp, wSkip, wSeq, wExpr, wRet, wCont, wSet, wAsg, wPar, wSub, wIf, wFor, wRaise, wCall, wCall0, wTry, wIsX, wIsVE, wLofS, wFld, wSetF, wMet, wMet0, wMake, wLenO, seqOf_tup, seqOf_lst, seqOf_scr, lstOf_lst, lstOf_scr, lstX_lst, tupOf_tup, srcOf_tup, srcOf_lst, srcOf_scr, srcOf_han, srcOk_nil, srcOk_cons, oAdd_ii, oAdd_ss, oAdd_tt, oAdd_ll, oSub_ii, oMul_ii, oMul_ti, oMul_si, oDiv_ii, oMod_ii, oPow_ii, oNeg_i, oEq_ii, oNe_ii, oEq_ss, oNe_ss, oI_ii, oIs_n, oIsNot_n, oIs_b, oIsNot_b, isNon_n, isNon_b, isNon_i, isNon_s, isNon_t, isNon_l, isNon_h, oIx_t, oIx_l, oIx_s, oLen_t, oLen_l, oLen_s, oLen_str, oAbs_i, oTuple_l, oTuple_t, oSl_t, oSl_l, oInt_i, oInt_b, compGo_nil, compGo_cons, wipeD_nil, wipeD_cons, range_3, range_2, range_1, enumD_nil, enumD_1, enumD_2, enumD_3, zipD_nil, zipD_cons, oMin_ii, ctOf, startD, List.map_cons, List.map_nil, List.length_cons, List.length_nil, List.cons_append, List.nil_append, List.append_nil, List.replicate, Nat.reduceAdd, Nat.reduceSub, Nat.sub_self, Nat.zero_add, List.getElem?_cons_zero, List.getElem?_cons_succ, List.getElem?_nil, List.set_cons_zero, List.set_cons_succ, ex_eq, ex_and, Option.some.injEq, exists_eq_left', exists_eq_left, exists_eq_right, D.bl.injEq, D.int.injEq, D.str.injEq, D.tup.injEq, D.lst.injEq, D.han.injEq, O.ins.injEq, O.lst.injEq, atI_0, atI_1, atI_2, reduceIte, zip_tt, zip_ll, ty_n, ty_b, ty_i, ty_s, ty_t, ty_l, ty_f, kit_ii, kit_ib, kit_bb, kit_bi, kit_it, kit_tt, kit_ti, kit_tb, kit_lt, kit_li, kit_st, kit_si, kit_ss, kit_nt, kit_ni, kit_fi, kit_ft, kit_is, kit_ns, kit_bt, oLen_V, Int.toNat_natCast, cut_t0, cut_t1, cut_t2, cut_f1, cut_f2, cut_f3, m2_0, m2_1, m2_2, List.take_succ_cons, List.take_zero, List.drop_succ_cons, List.drop_zero, List.take_nil, List.drop_nil, decide_true, decide_false, Bool.not_true, Bool.not_false, if_true, if_false, Bool.false_eq_true, Int.cast_ofNat_Int, Int.reduceEq, Int.reduceLT, Int.reduceLE, Int.reduceToNat, Int.reduceNeg, Nat.reduceEqDiff, decide_eq_true_eq, true_and, and_true, List.cons.injEq, and_self, Int.reduceSub, Int.reduceAdd, Int.reduceMul])
theorem range_map (n : Nat) : rangeD 0 n = (List.range n).map fun i => .int (i : Nat) := by simp [rangeD]
def isVd (f : List Int) (d : D) : Prop := d = VE f ∨ d = .lst (f.map .int)
theorem ix_Vd {f : List Int} {d : D} (h : isVd f d) {k : Nat} (hk : k < f.length) (S : Sto) (Q : QD) : oIx d (.int (k : Nat)) S Q = Q (.int (gt f k)) S := by
  rcases h with rfl | rfl
  · exact ix_V hk S Q
  · rw [oIx_seq (l := f.map .int) rfl, atI_map, atI_some hk, gt_lt hk]
    simp
def c__law_mix : Ct := fun ds S Q _ => ∃ (f : List Int) (R : List (List Int)) (d : D), ds = [d, .tup (R.map VE)] ∧ isVd f d ∧ VecOk 7000 R.length f ∧ SqM 2000 R ∧ Q (VE (mixV f R)) S
/-- _law_mix -/
def N__law_mix : List Str := ["factors", "rows", "j", "k"]
def b__law_mix : DB := (DB.cons (DS.ret (DE.tuple (DA.cons (DE.lst (DL.comp [("j", 2)] (DG.nm 2) (DI.range1 (DE.len (DA.cons (DE.ix (DE.var 1) (DE.con (.int 0))) DA.nil))) DF.no (DE.sum (DA.cons (DE.lst (DL.comp [("k", 3)] (DG.nm 3) (DI.range1 (DE.len (DA.cons (DE.var 1) DA.nil))) DF.no (DE.op .Mult (DE.ix (DE.var 0) (DE.var 3)) (DE.ix (DE.ix (DE.var 1) (DE.var 3)) (DE.var 2))))) DA.nil)))) DA.nil)))
  DB.nil)
theorem w__law_mix {ds : List D} {S : Sto} {Q : QD} {X : XD} (h : c__law_mix ds S Q X) : ctOf N__law_mix.length b__law_mix ds S Q X := by
  obtain ⟨f, R, d, rfl, hdv, hf, hs, h⟩ := h
  have h1 := hs.1
  have h3 := hs.2.1
  have h0 : 0 < R.length := h1
  have r0 := hs.2.2 R[0] (List.getElem_mem h0)
  unfold b__law_mix N__law_mix
  walk_at "wp"
  rw [show (0 : Int) = ((0 : Nat) : Int) from rfl, atI_map, atI_some h0]
  refine ⟨_, rfl, ?_⟩
  walk_at "wp"
  rw [r0.1, range_map]
  refine ⟨by omega, by omega, by simp only [List.length_map, List.length_range]; exact szLe (by omega), compGo_all0 _ (fun j => .int ((List.range R.length).map fun k => gt f k * gt (row R k) j).sum) (List.range R.length) (fun j hj => ⟨_, rfl, fun Qd hq => ?_⟩) ?_⟩
  · walk_at "wp"
    simp only [List.length_map, range_map, List.length_range]
    refine ⟨by omega, by omega, szLe (by omega), compGo_all0 _ (fun k => .int (gt f k * gt (row R k) j)) (List.range R.length) (fun k hk => ⟨_, rfl, fun Qd2 hq2 => ?_⟩) ?_⟩
    · have hk' : k < R.length := List.mem_range.mp hk
      have hj' : j < R.length := List.mem_range.mp hj
      have rk := hs.2.2 R[k] (List.getElem_mem hk')
      walk_at "wp"
      rw [ix_Vd hdv (by rw [hf.1]; exact hk'), atI_map, atI_some hk']
      refine ⟨_, rfl, ?_⟩
      rw [ix_V (by rw [rk.1]; exact hj')]
      walk_at "wp"
      rw [row_lt hk'] at hq2
      have l1 : k < f.length := by rw [hf.1]; exact hk'
      have l2 : j < R[k].length := by rw [rk.1]; exact hj'
      refine ⟨?_, hq2⟩
      rw [gt_lt l1, gt_lt l2]
      exact (hf.2 _ (List.getElem_mem l1)).ok (rk.2 _ (List.getElem_mem l2)) (by omega)
    · walk_at "wp"
      rw [show (List.range R.length).map (fun k => D.int (gt f k * gt (row R k) j)) = ((List.range R.length).map fun k => gt f k * gt (row R k) j).map D.int by simp]
      exact oSum_l _ _ _ hq
  · walk_at "wp"
    rw [show (List.range R.length).map (fun j => D.int ((List.range R.length).map fun k => gt f k * gt (row R k) j).sum) = (mixV f R).map D.int by simp [mixV]]
    exact h
theorem set_take {R : List (List Int)} {k : Nat} (h : k < R.length) (v : List Int) : R.take k ++ [v] ++ R.drop (k + 1) = R.set k v := by
  rw [List.set_eq_take_append_cons_drop]
  simp [h]
def c__law_has : Ct := fun ds S Q _ => ∃ (R : List (List Int)) (v : List Int), ds = [.tup (R.map VE), VE v] ∧ SqM 2000 R ∧ VecOk 2000 R.length v ∧ detL R ≠ 0 ∧ Q (.bl (decide (Whole R v))) S
/-- _law_has -/
def N__law_has : List Str := ["basis", "vector", "whole", "k", "rows"]
def b__law_has : DB := (DB.cons (DS.set 2 (DE.call "_law_det" c__law_det (DA.cons (DE.var 0) DA.nil)))
  (DB.cons (DS.for (DG.nm 3) (DI.range1 (DE.len (DA.cons (DE.var 0) DA.nil))) (DB.cons (DS.set 4 (DE.op .Add (DE.lst (DL.lof (DA.cons (DE.sl (DE.var 0) DO.no (DO.so (DE.var 3))) DA.nil))) (DE.lst (DL.dis (DA.cons (DE.var 1) DA.nil)))))
  (DB.cons (DS.iff (DT.cmp .NotEq (DE.op .Mod (DE.call "_law_det" c__law_det (DA.cons (DE.op .Add (DE.var 4) (DE.lst (DL.lof (DA.cons (DE.sl (DE.var 0) (DO.so (DE.op .Add (DE.var 3) (DE.con (.int 1)))) DO.no) DA.nil)))) DA.nil)) (DE.var 2)) (DE.con (.int 0))) (DB.cons (DS.ret (DE.con (.bl false)))
  DB.nil) DB.nil)
  DB.nil)))
  (DB.cons (DS.ret (DE.con (.bl true)))
  DB.nil)))
theorem w__law_has {ds : List D} {S : Sto} {Q : QD} {X : XD} (h : c__law_has ds S Q X) : ctOf N__law_has.length b__law_has ds S Q X := by
  obtain ⟨R, v, rfl, hs, hv, hd, h⟩ := h
  have h3 := hs.2.1
  unfold b__law_has N__law_has
  walk_at "wp"
  refine ⟨R, _, rfl, rfl, hs.mono (by omega), ?_⟩
  simp only [List.length_map]
  refine ⟨by omega, by omega, ?_⟩
  rw [range_map]
  refine forGo_inv (fun ds env S' => S' = S ∧ ∃ (p : Nat) (a3 a4 : Option D), p ≤ R.length ∧ ds = ((List.range R.length).drop p).map (fun i => .int (i : Nat)) ∧
    env = [some (.tup (R.map VE)), some (VE v), some (.int (detL R)), a3, a4] ∧ ∀ k, k < p → (detL (R.set k v)).fmod (detL R) = 0) ?_ ?_ _ _ _ ⟨rfl, 0, none, none, by omega, by simp, rfl, fun k hk => by omega⟩
  · rintro d1 ds1 env1 S1 ⟨rfl, p, a3, a4, hp, hds, rfl, hI⟩
    have hpn : p < R.length := by
      by_cases e : p < R.length
      · exact e
      · rw [List.drop_eq_nil_of_le (by simpa using e)] at hds; cases hds
    rw [List.drop_eq_getElem_cons (by simpa using hpn)] at hds
    simp only [List.getElem_range, List.map_cons, List.cons.injEq] at hds
    obtain ⟨rfl, rfl⟩ := hds
    refine ⟨trivial, _, rfl, fun nx hnx => ?_⟩
    walk_at "wp"
    rw [show (p : Int) + 1 = ((p + 1 : Nat) : Int) by omega, cut_to, cut_from, ← List.map_take, ← List.map_drop]
    refine ⟨by simp only [List.length_map, List.length_take]; exact szLe (by omega), by simp only [List.length_map, List.length_take, List.length_append, List.length_drop, List.length_cons, List.length_nil]; exact szLe (by omega), ?_⟩
    refine ⟨R.set p v, _, rfl, ?_, (sq_set hs hv p).mono (by omega), ?_⟩
    · rw [← set_take hpn v]
      simp [seqOf_lst]
    walk_at "wp"
    refine ⟨hd, ?_⟩
    by_cases e : (detL (R.set p v)).fmod (detL R) = 0
    · simp only [e, not_true, if_false, decide_true, Bool.not_true, Bool.false_eq_true]
      refine hnx _ _ ⟨rfl, p + 1, _, _, by omega, rfl, rfl, fun k hk => ?_⟩
      by_cases ek : k < p
      · exact hI k ek
      · rw [show k = p by omega]; exact e
    · have : ¬ Whole R v := fun w => e (w _ (by unfold sol; exact List.mem_map.mpr ⟨p, List.mem_range.mpr hpn, rfl⟩))
      simp only [e, not_false_eq_true, if_true, decide_false, Bool.not_false]
      simpa [this] using h
  · rintro env1 S1 ⟨rfl, p, a3, a4, hp, hds, rfl, hI⟩
    have hpn : p = R.length := by
      by_cases e : p < R.length
      · rw [List.drop_eq_getElem_cons (by simpa using e)] at hds
        cases hds
      · omega
    subst hpn
    refine ⟨trivial, ?_⟩
    walk_at "wp"
    have : Whole R v := fun x hx => by
      unfold sol at hx
      obtain ⟨k, hk, rfl⟩ := List.mem_map.mp hx
      exact hI k (List.mem_range.mp hk)
    simpa [this] using h
/-! #### FH -/
local macro_rules | `(tactic| walk_at "wp") => `(tactic| try simp only [z0, z1, z2, z3, z4, z5, z6, z7, z8, z9, z10, z11, z12, z13, z14, z15, z16, z17, z18, z19, z20, z21, z22, z23, z24, z25, z26, z27, z28, z29, z30, z31, z32, z33, z34, z35, z36, z37, z38, z39, z40, z41, z42, z43, z44, z45, z46, z47, z48, z49, z50, z51, z52, z53, z54, z55, z56, z57, z58, z59, z60, z61, z62, z63, z64, z65, z66, z67, z68, z69, z70, z71, z72, z73, z74, z75, z76, z77, z78, z79, z80, z81, z82, z83, zg0, zg1, wVar, wFrz, wC, wNil, wCons, w1, w2, w3, wAp, opD, cmD, oNeg, wB, wNotT, boolW, wAndT, wOrT, wNotV, boolV, wAndV, wOrV, wIte, wNo, wSo, wSl, wTup, wLst, wThw, wLof, wCat, wRep, wIsi, wM0, wM1, wIseq, wR1, wR2, wChr, wZip_eq, wEnum, wYes, wComp, wSkip, wSeq, wExpr, wRet, wCont, wSet, wAsg, wPar, wSub, wIf, wFor, wRaise, wCall, wCall0, seqOf_tup, seqOf_lst, seqOf_scr, lstOf_lst, lstOf_scr, lstX_lst, tupOf_tup, srcOf_tup, srcOf_lst, srcOf_scr, srcOf_han, srcOk_nil, srcOk_cons, oAdd_ii, oAdd_ss, oAdd_tt, oAdd_ll, oSub_ii, oMul_ii, oMul_ti, oDiv_ii, oMod_ii, oPow_ii, oNeg_i, oEq_ii, oNe_ii, oEq_ss, oNe_ss, oI_ii, oIs_n, oIsNot_n, oIs_b, oIsNot_b, isNon_n, isNon_b, isNon_i, isNon_s, isNon_t, isNon_l, isNon_h, oIx_t, oIx_l, oIx_s, oLen_t, oLen_l, oLen_s, oLen_str, oAbs_i, oTuple_l, oTuple_t, oSl_t, oSl_l, oInt_i, oInt_b, compGo_nil, compGo_cons, forGo_nil, forGo_cons, wipeD_nil, wipeD_cons, range_3, range_2, range_1, enumD_nil, enumD_1, enumD_2, enumD_3, zipD_nil, zipD_cons, ctOf, startD, List.map_cons, List.map_nil, List.length_cons, List.length_nil, List.cons_append, List.nil_append, List.append_nil, List.replicate, Nat.reduceAdd, Nat.reduceSub, Nat.sub_self, Nat.zero_add, List.getElem?_cons_zero, List.getElem?_cons_succ, List.getElem?_nil, List.set_cons_zero, List.set_cons_succ, ex_eq, ex_and, Option.some.injEq, exists_eq_left', exists_eq_left, exists_eq_right, D.bl.injEq, D.int.injEq, D.str.injEq, D.tup.injEq, D.lst.injEq, atI_0, atI_1, atI_2, reduceIte, zip_tt, zip_ll, ty_n, ty_b, ty_i, ty_s, ty_t, ty_l, ty_f, kit_ii, kit_ib, kit_bb, kit_bi, kit_it, kit_tt, kit_ti, kit_tb, kit_lt, kit_li, kit_st, kit_si, kit_ss, kit_nt, kit_ni, kit_fi, kit_ft, kit_is, kit_ns, kit_bt, oLen_V, Int.toNat_natCast, cut_t0, cut_t1, cut_t2, cut_f1, cut_f2, cut_f3, m2_0, m2_1, m2_2, List.take_succ_cons, List.take_zero, List.drop_succ_cons, List.drop_zero, List.take_nil, List.drop_nil, decide_true, decide_false, Bool.not_true, Bool.not_false, if_true, if_false, Bool.false_eq_true, Int.cast_ofNat_Int, Int.reduceEq, Int.reduceLT, Int.reduceLE, Int.reduceToNat, Int.reduceNeg, Nat.reduceEqDiff, decide_eq_true_eq, true_and, and_true, List.cons.injEq, and_self, Int.reduceSub, Int.reduceAdd, Int.reduceMul])
local macro_rules | `(tactic| walk_at "wps") => `(tactic| simp only [z0, z1, z2, z3, z4, z5, z6, z7, z8, z9, z10, z11, z12, z13, z14, z15, z16, z17, z18, z19, z20, z21, z22, z23, z24, z25, z26, z27, z28, z29, z30, z31, z32, z33, z34, z35, z36, z37, z38, z39, z40, z41, z42, z43, z44, z45, z46, z47, z48, z49, z50, z51, z52, z53, z54, z55, z56, z57, z58, z59, z60, z61, z62, z63, z64, z65, z66, z67, z68, z69, z70, z71, z72, z73, z74, z75, z76, z77, z78, z79, z80, z81, z82, z83, zg0, zg1, wVar, wFrz, wC, wNil, wCons, w1, w2, w3, wAp, opD, cmD, oNeg, wB, wNotT, boolW, wAndT, wOrT, wNotV, boolV, wAndV, wOrV, wIte, wNo, wSo, wSl, wTup, wLst, wThw, wLof, wCat, wRep, wIsi, wM0, wM1, wIseq, wR1, wR2, wChr, wZip_eq, wEnum, wYes, wComp, wSkip, wSeq, wExpr, wRet, wCont, wSet, wAsg, wPar, wSub, wIf, wFor, wRaise, wCall, wCall0, seqOf_tup, seqOf_lst, seqOf_scr, lstOf_lst, lstOf_scr, lstX_lst, tupOf_tup, srcOf_tup, srcOf_lst, srcOf_scr, srcOf_han, srcOk_nil, srcOk_cons, oAdd_ii, oAdd_ss, oAdd_tt, oAdd_ll, oSub_ii, oMul_ii, oMul_ti, oDiv_ii, oMod_ii, oPow_ii, oNeg_i, oEq_ii, oNe_ii, oEq_ss, oNe_ss, oI_ii, oIs_n, oIsNot_n, oIs_b, oIsNot_b, isNon_n, isNon_b, isNon_i, isNon_s, isNon_t, isNon_l, isNon_h, oIx_t, oIx_l, oIx_s, oLen_t, oLen_l, oLen_s, oLen_str, oAbs_i, oTuple_l, oTuple_t, oSl_t, oSl_l, oInt_i, oInt_b, compGo_nil, compGo_cons, forGo_nil, forGo_cons, wipeD_nil, wipeD_cons, range_3, range_2, range_1, enumD_nil, enumD_1, enumD_2, enumD_3, zipD_nil, zipD_cons, ctOf, startD, List.map_cons, List.map_nil, List.length_cons, List.length_nil, List.cons_append, List.nil_append, List.append_nil, List.replicate, Nat.reduceAdd, Nat.reduceSub, Nat.sub_self, Nat.zero_add, List.getElem?_cons_zero, List.getElem?_cons_succ, List.getElem?_nil, List.set_cons_zero, List.set_cons_succ, ex_eq, ex_and, Option.some.injEq, exists_eq_left', exists_eq_left, exists_eq_right, D.bl.injEq, D.int.injEq, D.str.injEq, D.tup.injEq, D.lst.injEq, atI_0, atI_1, atI_2, reduceIte, zip_tt, zip_ll, ty_n, ty_b, ty_i, ty_s, ty_t, ty_l, ty_f, kit_ii, kit_ib, kit_bb, kit_bi, kit_it, kit_tt, kit_ti, kit_tb, kit_lt, kit_li, kit_st, kit_si, kit_ss, kit_nt, kit_ni, kit_fi, kit_ft, kit_is, kit_ns, kit_bt, oLen_V, Int.toNat_natCast, cut_t0, cut_t1, cut_t2, cut_f1, cut_f2, cut_f3, m2_0, m2_1, m2_2, List.take_succ_cons, List.take_zero, List.drop_succ_cons, List.drop_zero, List.take_nil, List.drop_nil, decide_true, decide_false, Bool.not_true, Bool.not_false, if_true, if_false, Bool.false_eq_true, Int.cast_ofNat_Int, Int.reduceEq, Int.reduceLT, Int.reduceLE, Int.reduceToNat, Int.reduceNeg, Nat.reduceEqDiff, decide_eq_true_eq, true_and, and_true, List.cons.injEq, and_self, Int.reduceSub, Int.reduceAdd, Int.reduceMul, *])
def c__law_spans : Ct := fun ds S Q _ => ∃ (R T : List (List Int)), ds = [.tup (R.map VE), .tup (T.map VE)] ∧ SqM 2000 R ∧ SqM 2000 T ∧ T.length = R.length ∧ detL R ≠ 0 ∧ Q (.bl (decide (Spans R T))) S
/-- _law_spans -/
def N__law_spans : List Str := ["basis", "rows", "row"]
def b__law_spans : DB := (DB.cons (DS.iff (DT.bool (DW.cons (DT.cmp .NotEq (DE.len (DA.cons (DE.var 1) DA.nil)) (DE.len (DA.cons (DE.var 0) DA.nil))) (DW.one .Or (DT.cmp .NotEq (DE.lst (DL.comp [("row", 2)] (DG.nm 2) (DI.seq (DE.var 1)) (DF.one (DT.cmp .NotEq (DE.len (DA.cons (DE.var 2) DA.nil)) (DE.len (DA.cons (DE.var 0) DA.nil)))) (DE.var 2))) (DE.lst (DL.dis DA.nil)))))) (DB.cons (DS.ret (DE.con (.bl false)))
  DB.nil) DB.nil)
  (DB.cons (DS.ret (DE.bool (DV.cons (DE.cmp .Eq (DE.abs (DA.cons (DE.call "_law_det" c__law_det (DA.cons (DE.var 1) DA.nil)) DA.nil)) (DE.abs (DA.cons (DE.call "_law_det" c__law_det (DA.cons (DE.var 0) DA.nil)) DA.nil))) (DV.one .And (DE.cmp .Eq (DE.lst (DL.comp [("row", 2)] (DG.nm 2) (DI.seq (DE.var 1)) (DF.one (DT.not (DT.val (DE.call "_law_has" c__law_has (DA.cons (DE.var 0) (DA.cons (DE.var 2) DA.nil)))))) (DE.var 2))) (DE.lst (DL.dis DA.nil)))))))
  DB.nil))
theorem w__law_spans {ds : List D} {S : Sto} {Q : QD} {X : XD} (h : c__law_spans ds S Q X) : ctOf N__law_spans.length b__law_spans ds S Q X := by
  obtain ⟨R, T, rfl, hs, ht, hl, hd, h⟩ := h
  have h3 := hs.2.1
  unfold b__law_spans N__law_spans
  walk_at "wp"
  simp only [List.length_map, hl]
  walk_at "wp"
  refine ⟨szLe (by omega), compGo_map0 VE (fun _ => false) VE T (fun v hv => ⟨_, rfl, fun Qb hq => ?_, fun e => (by cases e)⟩) ?_⟩
  · have lv := (ht.2.2 v hv).1
    walk_at "wp"
    simp only [List.length_map, lv, hl, decide_true, Bool.not_true]
    exact hq
  rw [show T.filter (fun _ => false) = [] by simp]
  refine oNe_Ml [] [] _ _ ⟨_, rfl, ?_⟩
  simp only [decide_true, Bool.not_true, Bool.false_eq_true, if_false]
  refine ⟨T, _, rfl, rfl, ht.mono (by omega), ?_⟩
  walk_at "wp"
  refine ⟨R, _, rfl, rfl, hs.mono (by omega), ?_⟩
  walk_at "wp"
  by_cases e : (detL T).natAbs = (detL R).natAbs
  · rw [if_pos (by omega)]
    refine ⟨szLe (by omega), compGo_map0 VE (fun v => !decide (Whole R v)) VE T (fun v hv => ⟨_, rfl, fun Qb hq => ?_, fun _ Qd hq => ?_⟩) ?_⟩
    · walk_at "wp"
      refine ⟨R, v, rfl, hs, ?_, hd, ?_⟩
      · have := ht.2.2 v hv
        exact ⟨by omega, this.2⟩
      · walk_at "wp"
        exact hq
    · walk_at "wp"
      exact hq
    · refine oEq_Ml _ [] _ _ ?_
      have : (T.filter (fun v => !decide (Whole R v)) = []) ↔ Spans R T := by
        rw [List.filter_eq_nil_iff]
        constructor
        · intro q
          refine ⟨e, fun v hv => ?_⟩
          simpa using q v hv
        · intro q v hv
          simpa using q.2 v hv
      simpa [this] using h
  · rw [if_neg (by omega)]
    have : ¬ Spans R T := fun q => e q.1
    simpa [this] using h
def c__law_is_normal : Ct := fun ds S Q _ => ∃ (F : List (List Int)), ds = [.tup (F.map VE)] ∧ F.length ≤ 1000 ∧ Len F.length F ∧ NFs F ∧ Q (.bl true) S
/-- _law_is_normal -/
def N__law_is_normal : List Str := ["rows", "i", "entry", "row"]
def b__law_is_normal : DB := (DB.cons (DS.for (DG.nm 1) (DI.range1 (DE.len (DA.cons (DE.var 0) DA.nil))) (DB.cons (DS.iff (DT.bool (DW.cons (DT.cmp .NotEq (DE.lst (DL.comp [("entry", 2)] (DG.nm 2) (DI.seq (DE.sl (DE.ix (DE.var 0) (DE.var 1)) DO.no (DO.so (DE.var 1)))) (DF.one (DT.cmp .NotEq (DE.var 2) (DE.con (.int 0)))) (DE.var 2))) (DE.lst (DL.dis DA.nil))) (DW.one .Or (DT.cmp .Lt (DE.ix (DE.ix (DE.var 0) (DE.var 1)) (DE.var 1)) (DE.con (.int 1)))))) (DB.cons (DS.ret (DE.con (.bl false)))
  DB.nil) DB.nil)
  (DB.cons (DS.iff (DT.cmp .NotEq (DE.lst (DL.comp [("row", 3)] (DG.nm 3) (DI.seq (DE.sl (DE.var 0) DO.no (DO.so (DE.var 1)))) (DF.one (DT.not (DT.chn .LtE .Lt (DE.con (.int 0)) (DE.ix (DE.var 3) (DE.var 1)) (DE.ix (DE.ix (DE.var 0) (DE.var 1)) (DE.var 1))))) (DE.var 3))) (DE.lst (DL.dis DA.nil))) (DB.cons (DS.ret (DE.con (.bl false)))
  DB.nil) DB.nil)
  DB.nil)))
  (DB.cons (DS.ret (DE.con (.bl true)))
  DB.nil))
theorem w__law_is_normal {ds : List D} {S : Sto} {Q : QD} {X : XD} (h : c__law_is_normal ds S Q X) : ctOf N__law_is_normal.length b__law_is_normal ds S Q X := by
  obtain ⟨F, rfl, hl, hL, hN, h⟩ := h
  unfold b__law_is_normal N__law_is_normal
  walk_at "wp"
  simp only [List.length_map]
  refine ⟨by omega, by omega, ?_⟩
  rw [range_map]
  refine forGo_inv (fun ds env S' => S' = S ∧ ∃ (p : Nat) (a1 a2 a3 : Option D), p ≤ F.length ∧ ds = ((List.range F.length).drop p).map (fun i => .int (i : Nat)) ∧
    env = [some (.tup (F.map VE)), a1, a2, a3]) ?_ ?_ _ _ _ ⟨rfl, 0, none, none, none, by omega, by simp, rfl⟩
  · rintro d1 ds1 env1 S1 ⟨rfl, p, a1, a2, a3, hp, hds, rfl⟩
    have hpn : p < F.length := by
      by_cases e : p < F.length
      · exact e
      · rw [List.drop_eq_nil_of_le (by simpa using e)] at hds; cases hds
    rw [List.drop_eq_getElem_cons (by simpa using hpn)] at hds
    simp only [List.getElem_range, List.map_cons, List.cons.injEq] at hds
    obtain ⟨rfl, rfl⟩ := hds
    obtain ⟨n1, n2, n3⟩ := hN p hpn
    rw [row_lt hpn] at n1 n2 n3
    have lp : F[p].length = F.length := hL _ (List.getElem_mem hpn)
    refine ⟨trivial, _, rfl, fun nx hnx => ?_⟩
    walk_at "wp"
    simp only [atI_map, atI_some hpn]
    refine ⟨_, rfl, ?_⟩
    simp only [VE_eq]
    walk_at "wp"
    rw [cut_to, ← List.map_take]
    refine ⟨by simp only [List.length_map, List.length_take]; exact szLe (by omega), compGo_map0 D.int (fun _ => false) D.int (F[p].take p) (fun x hx => ⟨_, rfl, fun Qb hq => ?_, fun e => (by cases e)⟩) ?_⟩
    · walk_at "wp"
      have : x = 0 := by
        obtain ⟨i, hi, rfl⟩ := List.getElem_of_mem hx
        have hi' : i < p := by simp at hi; omega
        rw [List.getElem_take, ← gt_lt]
        exact n1 i hi'
      simp only [this, decide_true, Bool.not_true]
      exact hq
    rw [show (F[p].take p).filter (fun _ => false) = [] by simp]
    refine oNe_Ml [] [] _ _ ⟨_, rfl, ?_⟩
    simp only [decide_true, Bool.not_true, Bool.false_eq_true, if_false]
    refine ⟨VE F[p], rfl, ?_⟩
    rw [ix_V (by rw [lp]; exact hpn)]
    walk_at "wp"
    rw [if_neg (by omega), cut_to, ← List.map_take]
    refine ⟨by simp only [List.length_map, List.length_take]; exact szLe (by omega), compGo_map0 VE (fun _ => false) VE (F.take p) (fun x hx => ⟨_, rfl, fun Qb hq => ?_, fun e => (by cases e)⟩) ?_⟩
    · obtain ⟨r, hr, rfl⟩ := List.getElem_of_mem hx
      have hr' : r < p := by simp at hr; omega
      have n4 := n3 r hr'
      rw [row_lt (by omega)] at n4
      have lr : F[r].length = F.length := hL _ (List.getElem_mem _)
      rw [List.getElem_take]
      walk_at "wp"
      rw [ix_V (by rw [lr]; exact hpn)]
      walk_at "wp"
      simp only [n4.1, decide_true, if_true, atI_map, atI_some hpn]
      walk_at "wp"
      simp only [Option.map_some, Option.some.injEq, exists_eq_left']
      rw [ix_V (by rw [lp]; exact hpn)]
      walk_at "wp"
      simp only [n4.2, decide_true, Bool.not_true]
      exact hq
    rw [show (F.take p).filter (fun _ => false) = [] by simp]
    refine oNe_Ml [] [] _ _ ⟨_, rfl, ?_⟩
    simp only [decide_true, Bool.not_true, Bool.false_eq_true, if_false]
    exact hnx _ _ ⟨rfl, p + 1, _, _, _, by omega, rfl, rfl⟩
  · rintro env1 S1 ⟨rfl, p, a1, a2, a3, hp, hds, rfl⟩
    refine ⟨trivial, ?_⟩
    walk_at "wp"
    exact h
/-! #### FI -/
theorem rec_e (l0 l : List D) (J : Sto) : recD (.lst l0 :: (J ++ [.lst l])) "list" (.han (J.length + 1)) = true := by
  unfold recD
  simp
theorem get_e (l0 l : List D) (J : Sto) : (O.lst l0 :: (J ++ [O.lst l]))[J.length + 1]? = some (.lst l) := by simp
theorem seq_e (l0 l : List D) (J : Sto) : seqOf (.lst l0 :: (J ++ [.lst l])) (.han (J.length + 1)) = some l := by
  unfold seqOf tupOf lstOf
  simp
theorem app_e {l0 l : List D} {J : Sto} {y : D} {Q : QD} (hl : l.length < sizeLine) (q : Q .non (.lst l0 :: (J ++ [.lst (l ++ [y])]))) : oAppend (.han (J.length + 1)) [y] (.lst l0 :: (J ++ [.lst l])) Q :=
  ⟨l, get_e _ _ _, hl, by
    have : (O.lst l0 :: (J ++ [O.lst l])).set (J.length + 1) (.lst (l ++ [y])) = .lst l0 :: (J ++ [.lst (l ++ [y])]) := by simp
    rw [this]; exact q⟩
theorem set_e (l0 l l' : List D) (J : Sto) : (O.lst l0 :: (J ++ [O.lst l])).set (J.length + 1) (.lst l') = .lst l0 :: (J ++ [.lst l']) := by simp
theorem seq_m (l0 l l' : List D) (J : Sto) : seqOf (.lst l0 :: (J ++ [.lst l] ++ [.lst l'])) (.han (J.length + 1)) = some l := by
  unfold seqOf tupOf lstOf
  simp
theorem szLt {n : Nat} (h : n < 16777216) : n < sizeLine := by rw [sizeLine_eq]; omega
/-- rows of length n, entries up to B -/
def Mat (n : Nat) (B : Nat) (R : List (List Int)) : Prop := R.length = n ∧ ∀ v ∈ R, v.length = n ∧ Bd B v
theorem Mat.sq {n B k : Nat} {R : List (List Int)} (h : Mat n B R) (h1 : 1 ≤ n) (h3 : n ≤ 3) (hB : B < 2 ^ k) : SqM k R :=
  ⟨by rw [h.1]; exact h1, by rw [h.1]; exact h3, fun v hv => ⟨by rw [(h.2 v hv).1, h.1], fun x hx => Sm.of k ((h.2 v hv).2 x hx) hB⟩⟩
def triV (v : List Int) (i : Nat) : List Int := List.replicate i 0 ++ [if gt v i ≠ 0 then gt v i else 1] ++ v.drop (i + 1)
theorem gt_tri {v : List Int} {i : Nat} (h : i < v.length) : (triV v i).length = v.length ∧ zb i (triV v i) ∧ gt (triV v i) i ≠ 0 := by
  unfold triV
  refine ⟨by simp; omega, fun j hj => ?_, ?_⟩
  · unfold gt
    rw [List.append_assoc, List.getD_eq_getElem?_getD, List.getElem?_append_left (by simpa using hj)]
    simp [hj]
  · unfold gt
    rw [List.append_assoc, List.getD_eq_getElem?_getD, List.getElem?_append_right (by simp)]
    simp
    split <;> simp_all
theorem bd_tri {v : List Int} {i B : Nat} (h : i < v.length) (hb : Bd B v) (h1 : 1 ≤ B) : Bd B (triV v i) := by
  intro x hx
  unfold triV at hx
  simp only [List.mem_append, List.mem_replicate, List.mem_singleton] at hx
  rcases hx with (⟨_, rfl⟩ | rfl) | q
  · simp
  · split
    · exact hb.at i
    · simpa using h1
  · exact hb x (List.mem_of_mem_drop q)
theorem det_tri {R : List (List Int)} (h1 : 1 ≤ R.length) (h3 : R.length ≤ 3) (hl : Len R.length R) (hz : ∀ i, i < R.length → zb i (row R i) ∧ gt (row R i) i ≠ 0) : detL R ≠ 0 := by
  have : R.length = 1 ∨ R.length = 2 ∨ R.length = 3 := by omega
  rcases this with q | q | q
  · obtain ⟨v, rfl⟩ := len1 q
    obtain ⟨a, rfl⟩ := len1 (hl v (by simp))
    have := (hz 0 (by simp)).2
    simpa [row, gt, detL] using this
  · obtain ⟨v, w, rfl⟩ := len2 q
    obtain ⟨a, b, rfl⟩ := len2 (hl v (by simp))
    obtain ⟨c, d, rfl⟩ := len2 (hl w (by simp))
    have k0 := (hz 0 (by simp)).2
    have k1 := hz 1 (by simp)
    have k2 := k1.1 0 (by omega)
    have k3 := k1.2
    simp only [row, gt, List.getD_cons_zero, List.getD_cons_succ] at k0 k2 k3
    subst k2
    simp only [detL]
    intro e
    have : a * d = 0 := by omega
    rcases Int.mul_eq_zero.mp this with q | q
    · exact k0 q
    · exact k3 q
  · obtain ⟨u, v, w, rfl⟩ := len3 q
    obtain ⟨a, b, c, rfl⟩ := len3 (hl u (by simp))
    obtain ⟨d, e, f, rfl⟩ := len3 (hl v (by simp))
    obtain ⟨g, h, i, rfl⟩ := len3 (hl w (by simp))
    have h0 := (hz 0 (by simp)).2
    have h1 := hz 1 (by simp)
    have h2 := hz 2 (by simp)
    have k1 := h1.1 0 (by omega)
    have k2 := h2.1 0 (by omega)
    have k3 := h2.1 1 (by omega)
    have k4 := h1.2
    have k5 := h2.2
    simp only [row, gt, List.getD_cons_zero, List.getD_cons_succ] at h0 k1 k2 k3 k4 k5
    subst k1 k2 k3
    simp only [detL]
    intro z
    have : a * (e * i) = 0 := by grind
    rcases Int.mul_eq_zero.mp this with q | q
    · exact h0 q
    · rcases Int.mul_eq_zero.mp q with q | q
      · exact k4 q
      · exact k5 q
def c__law_basis_in : Ct := fun ds S Q _ => ∃ (ns ts : List Int) (c : Nat) (J : Sto) (n most : Nat), ds = [.scr (ns.map .int), .han 0, .int n, .int most] ∧ S = tw c ts J ∧ Tn ns ts (c + 20) ∧ 1 ≤ n ∧ n ≤ 3 ∧ 1 ≤ most ∧ most ≤ 1000000 ∧
  ∀ (R : List (List Int)) (c' : Nat) (ts' : List Int) (J' : Sto), Mat n most R → detL R ≠ 0 → c' ≤ c + 9 → ts'.length = ns.length → Q (.tup (R.map VE)) (tw c' ts' (J ++ J'))
/-- _law_basis_in -/
def N__law_basis_in : List Str := ["script", "town", "n", "most", "rows", "i", "found", "row", "j"]
def b__law_basis_in : DB := (DB.cons (DS.set 4 (DE.thw (DL.dis DA.nil)))
  (DB.cons (DS.for (DG.nm 5) (DI.range1 (DE.var 2)) (DB.cons (DS.expr (DE.append (DE.var 4) (DE.tuple (DA.cons (DE.lst (DL.comp [("j", 8)] (DG.nm 8) (DI.range1 (DE.var 2)) DF.no (DE.op .Sub (DE.call "_law_draw" c__law_draw (DA.cons (DE.var 0) (DA.cons (DE.var 1) (DA.cons (DE.op .Add (DE.op .Mult (DE.con (.int 2)) (DE.var 3)) (DE.con (.int 1))) DA.nil)))) (DE.var 3)))) DA.nil))))
  DB.nil))
  (DB.cons (DS.iff (DT.cmp .NotEq (DE.call "_law_det" c__law_det (DA.cons (DE.var 4) DA.nil)) (DE.con (.int 0))) (DB.cons (DS.ret (DE.tuple (DA.cons (DE.var 4) DA.nil)))
  DB.nil) DB.nil)
  (DB.cons (DS.set 6 (DE.thw (DL.dis DA.nil)))
  (DB.cons (DS.for (DG.tp (DGs.cons 5 (DGs.cons 7 DGs.nil))) (DI.enum (DE.var 4)) (DB.cons (DS.expr (DE.append (DE.var 6) (DE.op .Add (DE.op .Add (DE.op .Mult (DE.tup (DA.cons (DE.con (.int 0)) DA.nil)) (DE.var 5)) (DE.tup (DA.cons (DE.ite (DT.cmp .NotEq (DE.ix (DE.var 7) (DE.var 5)) (DE.con (.int 0))) (DE.ix (DE.var 7) (DE.var 5)) (DE.con (.int 1))) DA.nil))) (DE.sl (DE.var 7) (DO.so (DE.op .Add (DE.var 5) (DE.con (.int 1)))) DO.no))))
  DB.nil))
  (DB.cons (DS.ret (DE.tuple (DA.cons (DE.var 6) DA.nil)))
  DB.nil))))))
theorem w__law_basis_in {ds : List D} {S : Sto} {Q : QD} {X : XD} (h : c__law_basis_in ds S Q X) : ctOf N__law_basis_in.length b__law_basis_in ds S Q X := by
  obtain ⟨ns, ts, c, J, n, most, rfl, rfl, t, hn1, hn3, hm1, hm, h⟩ := h
  unfold b__law_basis_in N__law_basis_in
  walk_at "wp"
  refine ⟨by omega, by omega, ?_⟩
  rw [range_map]
  refine forGo_inv (fun ds env S' => ∃ (p : Nat) (R : List (List Int)) (c' : Nat) (ts' : List Int) (a5 a6 a7 a8 : Option D), p ≤ n ∧ ds = ((List.range n).drop p).map (fun i => .int (i : Nat)) ∧
    env = [some (.scr (ns.map .int)), some (.han 0), some (.int n), some (.int most), some (.han (J.length + 1)), a5, a6, a7, a8] ∧ R.length = p ∧ (∀ v ∈ R, v.length = n ∧ Bd most v) ∧ c' = c + p * n ∧ ts'.length = ns.length ∧ S' = tw c' ts' (J ++ [.lst (R.map VE)])) ?_ ?_ _ _ _ ⟨0, [], c, ts, none, none, none, none, by omega, by simp, rfl, rfl, by simp, by simp, t.2.1, rfl⟩
  · rintro d1 ds1 env1 S1 ⟨p, R, c', ts', a5, a6, a7, a8, hp, hds, rfl, hR, hB, hc, hts, rfl⟩
    have hpn : p < n := by
      by_cases e : p < n
      · exact e
      · rw [List.drop_eq_nil_of_le (by simpa using e)] at hds; cases hds
    rw [List.drop_eq_getElem_cons (by simpa using hpn)] at hds
    simp only [List.getElem_range, List.map_cons, List.cons.injEq] at hds
    obtain ⟨rfl, rfl⟩ := hds
    have hpn2 : p * n ≤ 6 := by
      have : p * n ≤ 2 * 3 := Nat.mul_le_mul (by omega) hn3
      omega
    refine ⟨trivial, _, rfl, fun nx hnx => ?_⟩
    walk_at "wp"
    refine ⟨rec_e _ _ _, by omega, by omega, ?_⟩
    rw [range_map]
    refine ⟨by simp only [List.length_map, List.length_range]; exact szLe (by omega), ?_⟩
    refine compGo_inv (fun ds acc S => ∃ (xs : List Int) (c2 : Nat) (ts2 : List Int), acc = xs.map .int ∧ xs.length + ds.length = n ∧ Bd most xs ∧ c2 = c' + xs.length ∧ ts2.length = ns.length ∧ S = tw c2 ts2 (J ++ [.lst (R.map VE)])) ?_ ?_ _ _ _ ⟨[], c', ts', rfl, by simp, by simp [Bd], by simp, hts, rfl⟩
    · rintro d ds2 acc S2 ⟨xs, c2, ts2, rfl, hl, hb, rfl, hts2, rfl⟩
      refine ⟨trivial, _, rfl, fun Qt Qf hQt hQf => ?_⟩
      walk_at "wp"
      simp only [List.length_cons] at hl
      refine ⟨(sm_lit 2 (by decide)).ok (sm_nat 20 (c := most) (by omega)) (by omega), draw_call ⟨t.1, hts2, by have := t.2.2; omega⟩ (by omega) (by omega) fun r ts3 r0 r1 hts3 => ?_⟩
      walk_at "wp"
      refine hQt _ _ ⟨xs ++ [r - most], _, ts3, by simp, by simp; omega, fun x hx => ?_, by simp; omega, hts3, rfl⟩
      rcases List.mem_append.mp hx with q | q
      · exact hb x q
      · have : x = r - most := by simpa using q
        omega
    · rintro acc S2 ⟨xs, c2, ts2, rfl, hl, hb, rfl, hts2, rfl⟩
      refine ⟨trivial, ?_⟩
      walk_at "wp"
      simp only [List.length_nil, Nat.add_zero] at hl
      refine app_e (by rw [List.length_map, hR]; exact szLt (by omega)) (hnx _ _ ⟨p + 1, R ++ [xs], c' + xs.length, ts2, _, _, _, _, by omega, rfl, rfl, by simp [hR], fun v hv => ?_, by rw [hc, hl, Nat.add_mul, Nat.one_mul]; omega, hts2, by rw [List.map_append]; rfl⟩)
      rcases List.mem_append.mp hv with q | q
      · exact hB v q
      · have : v = xs := by simpa using q
        subst this
        exact ⟨hl, hb⟩
  · rintro env1 S1 ⟨p, R, c', ts', a5, a6, a7, a8, hp, hds, rfl, hR, hB, hc, hts, rfl⟩
    have hpn : p = n := by
      by_cases e : p < n
      · rw [List.drop_eq_getElem_cons (by simpa using e)] at hds
        cases hds
      · omega
    subst hpn
    have hc9 : c' ≤ c + 9 := by
      have : p * p ≤ 3 * 3 := Nat.mul_le_mul hn3 hn3
      omega
    have M : Mat p most R := ⟨hR, hB⟩
    refine ⟨trivial, ?_⟩
    walk_at "wp"
    refine ⟨R, _, rfl, seq_e _ _ _, (M.sq (k := 20) hn1 hn3 (by omega)).mono (by omega), ?_⟩
    walk_at "wp"
    by_cases hd : detL R = 0
    rotate_left
    · simp only [hd, decide_false, Bool.not_false, if_true]
      rw [oTuple_seq (seq_e _ _ _)]
      exact h R c' ts' _ M hd hc9 hts
    · simp only [hd, decide_true, Bool.not_true, Bool.false_eq_true, if_false]
      refine ⟨_, seq_m _ _ _ _, ?_⟩
      rw [enum_map]
      refine forGo_inv (fun ds env S' => ∃ (q : Nat) (a5 a7 : Option D), q ≤ p ∧ ds = (R.zipIdx.drop q).map (fun x => .tup [.int (x.2 : Nat), VE x.1]) ∧
        env = [some (D.scr (List.map D.int ns)), some (D.han 0), some (D.int ↑p), some (D.int ↑most), some (D.han (List.length J + 1)), a5, some (D.han (List.length (J ++ [O.lst (List.map VE R)]) + 1)), a7, a8] ∧
        S' = tw c' ts' (J ++ [O.lst (List.map VE R)] ++ [.lst (((R.zipIdx.take q).map fun x => triV x.1 x.2).map VE)])) ?_ ?_ _ _ _ ⟨0, a5, a7, by omega, by simp, rfl, rfl⟩
      · rintro d1 ds1 env1 S1 ⟨q, a5, a7, hq, hds, rfl, rfl⟩
        have hqn : q < R.length := by
          by_cases e : q < R.length
          · exact e
          · rw [List.drop_eq_nil_of_le (by simpa using e)] at hds; cases hds
        have hqz : q < R.zipIdx.length := by simpa using hqn
        rw [List.drop_eq_getElem_cons hqz] at hds
        simp only [List.getElem_zipIdx, List.map_cons, List.cons.injEq, Nat.zero_add] at hds
        obtain ⟨rfl, rfl⟩ := hds
        have lq := hB R[q] (List.getElem_mem hqn)
        have hql : q < R[q].length := by rw [lq.1, ← hR]; exact hqn
        have so : srcOk [(J.length + 1, R.map VE)] (tw c' ts' (J ++ [O.lst (List.map VE R)] ++ [.lst (((R.zipIdx.take q).map fun x => triV x.1 x.2).map VE)])) := ⟨by simp, trivial⟩
        refine ⟨so, _, rfl, fun nx hnx => ?_⟩
        walk_at "wp"
        refine ⟨rec_e _ _ _, by simp, by omega, by omega, by omega, ?_⟩
        have es : ((q : Int)).toNat = q := by omega
        have er : (List.replicate q [D.int 0]).flatten = (List.replicate q (0 : Int)).map D.int := by simp
        have tail : ∀ x : Int, (if gt R[q] q ≠ 0 then gt R[q] q else 1) = x → D.tup ((List.replicate q (0 : Int)).map D.int ++ [D.int x] ++ (R[q].drop (q + 1)).map D.int) = VE (triV R[q] q) := fun x hx => by
          rw [VE_eq, triV, hx]; simp
        have size : ((List.replicate q (0 : Int)).map D.int).length + 1 ≤ sizeLine ∧ ((List.replicate q (0 : Int)).map D.int).length + 1 + ((R[q].drop (q + 1)).map D.int).length ≤ sizeLine := by
          simp only [List.length_map, List.length_replicate, List.length_drop, lq.1]
          exact ⟨szLe (by omega), szLe (by omega)⟩
        have fin : ∀ x : Int, (if gt R[q] q ≠ 0 then gt R[q] q else 1) = x → oAdd (D.tup ((List.replicate q (0 : Int)).map D.int ++ [D.int x])) (D.tup ((R[q].drop (q + 1)).map D.int)) (tw c' ts' (J ++ [O.lst (List.map VE R)] ++ [.lst (((R.zipIdx.take q).map fun x => triV x.1 x.2).map VE)])) (fun y S2 => oAppend (D.han (List.length (J ++ [O.lst (List.map VE R)]) + 1)) [y] S2 fun x S1 => nx [some (D.scr (List.map D.int ns)), some (D.han 0), some (D.int ↑p), some (D.int ↑most), some (D.han (List.length J + 1)), some (D.int ↑q), some (D.han (List.length (J ++ [O.lst (List.map VE R)]) + 1)), some (VE R[q]), a8] S1) := by
          intro x hx
          rw [oAdd_tt, tail x hx]
          refine ⟨by simpa using size.2, app_e (by simp only [List.length_map, List.length_take, List.length_zipIdx]; exact szLt (by omega)) (hnx _ _ ⟨q + 1, _, _, by omega, rfl, rfl, ?_⟩)⟩
          rw [List.take_succ_eq_append_getElem hqz]
          simp
        have sl : ∀ (S : Sto) (Q : QD), oSl (some ((q : Int) + 1)) none (VE R[q]) S Q = Q (.tup ((R[q].drop (q + 1)).map .int)) S := fun S Q => by
          rw [VE_eq, oSl_t, show (q : Int) + 1 = ((q + 1 : Nat) : Int) by omega, cut_from, List.map_drop]
        rw [er, ix_V hql]
        walk_at "wp"
        by_cases z : gt R[q] q = 0
        · simp only [z, decide_true, Bool.not_true, Bool.false_eq_true, if_false, sl]
          exact ⟨size.1, fin 1 (by simp [z])⟩
        · simp only [z, decide_false, Bool.not_false, if_true, ix_V hql, sl]
          exact ⟨size.1, fin _ (by simp [z])⟩
      · rintro env1 S1 ⟨q, a5, a7, hq, hds, rfl, rfl⟩
        have hqn : ¬ q < R.length := fun e => by
          rw [List.drop_eq_getElem_cons (by simpa using e)] at hds
          cases hds
        have so : srcOk [(J.length + 1, R.map VE)] (tw c' ts' (J ++ [O.lst (List.map VE R)] ++ [.lst (((R.zipIdx.take q).map fun x => triV x.1 x.2).map VE)])) := ⟨by simp, trivial⟩
        refine ⟨so, ?_⟩
        walk_at "wp"
        rw [oTuple_seq (seq_e _ _ _), List.take_of_length_le (by simp; omega)]
        have key : ∀ i, i < R.length → row (R.zipIdx.map fun x => triV x.1 x.2) i = triV (row R i) i := fun i hi => by
          rw [row_lt (by simpa using hi), row_lt hi]; simp
        have M2 : Mat p most (R.zipIdx.map fun x => triV x.1 x.2) := by
          refine ⟨by simp [hR], fun v hv => ?_⟩
          obtain ⟨i, hi, rfl⟩ := List.getElem_of_mem hv
          have hi' : i < R.length := by simpa using hi
          have li := hB R[i] (List.getElem_mem hi')
          simp only [List.getElem_map, List.getElem_zipIdx, Nat.zero_add]
          have hil : i < R[i].length := by rw [li.1, ← hR]; exact hi'
          exact ⟨by rw [(gt_tri hil).1, li.1], bd_tri hil li.2 hm1⟩
        refine (List.append_assoc J _ _ ▸ h _ c' ts' _ M2 (det_tri (by rw [M2.1]; exact hn1) (by rw [M2.1]; exact hn3) (fun r hr => by rw [M2.1]; exact (M2.2 r hr).1) fun i hi => ?_) hc9 hts)
        rw [M2.1, ← hR] at hi
        have li := hB R[i] (List.getElem_mem hi)
        have hil : i < R[i].length := by rw [li.1, ← hR]; exact hi
        rw [key i hi, row_lt hi]
        exact (gt_tri hil).2
def c__law_basis : Ct := fun ds S Q _ => ∃ (ns ts : List Int) (c : Nat) (J : Sto) (most : Nat), ds = [.scr (ns.map .int), .han 0, .int most] ∧ S = tw c ts J ∧ Tn ns ts (c + 30) ∧ 1 ≤ most ∧ most ≤ 1000000 ∧
  ∀ (n : Nat) (R : List (List Int)) (c' : Nat) (ts' : List Int) (J' : Sto), 1 ≤ n → n ≤ 3 → Mat n most R → detL R ≠ 0 → c' ≤ c + 10 → ts'.length = ns.length → Q (.tup (R.map VE)) (tw c' ts' (J ++ J'))
/-- _law_basis -/
def N__law_basis : List Str := ["script", "town", "most"]
def b__law_basis : DB := (DB.cons (DS.ret (DE.call "_law_basis_in" c__law_basis_in (DA.cons (DE.var 0) (DA.cons (DE.var 1) (DA.cons (DE.op .Add (DE.con (.int 1)) (DE.call "_law_draw" c__law_draw (DA.cons (DE.var 0) (DA.cons (DE.var 1) (DA.cons (DE.con (.int 3)) DA.nil))))) (DA.cons (DE.var 2) DA.nil))))))
  DB.nil)
theorem w__law_basis {ds : List D} {S : Sto} {Q : QD} {X : XD} (h : c__law_basis ds S Q X) : ctOf N__law_basis.length b__law_basis ds S Q X := by
  obtain ⟨ns, ts, c, J, most, rfl, rfl, t, hm1, hm, h⟩ := h
  have t3 := t.2.2
  unfold b__law_basis N__law_basis
  walk_at "wp"
  refine draw_call ⟨t.1, t.2.1, by omega⟩ (by omega) (by omega) fun r ts' r0 r1 hts => ?_
  walk_at "wp"
  obtain ⟨i, rfl⟩ := Int.eq_ofNat_of_zero_le r0
  exact ⟨ns, ts', c + 1, J, i + 1, most, by rw [show (1 : Int) + (i : Int) = ((i + 1 : Nat) : Int) by omega], rfl, ⟨t.1, hts, by omega⟩, by omega, by omega, hm1, hm, fun R c' ts2 J' M hd hc hts2 => h (i + 1) R c' ts2 J' (by omega) (by omega) M hd (by omega) hts2⟩
/-! #### FJ -/
def c__law_other : Ct := fun ds S Q _ => ∃ (ns ts : List Int) (c : Nat) (J : Sto) (n B : Nat) (R : List (List Int)), ds = [.scr (ns.map .int), .han 0, .tup (R.map VE)] ∧ S = tw c ts J ∧ Tn ns ts (c + 60) ∧ 1 ≤ n ∧ n ≤ 3 ∧ Mat n B R ∧ B ≤ 1000 ∧
  ∀ (T : List (List Int)) (c' : Nat) (ts' : List Int) (J' : Sto), Mat n (729 * B) T → SameL n R T → c' ≤ c + 25 → ts'.length = ns.length → Q (.tup (T.map VE)) (tw c' ts' (J ++ J'))
/-- _law_other -/
def N__law_other : List Str := ["script", "town", "basis", "rows", "k", "i", "j", "factor", "entry", "x", "y"]
def b__law_other : DB := (DB.cons (DS.set 3 (DE.thw (DL.lof (DA.cons (DE.var 2) DA.nil))))
  (DB.cons (DS.for (DG.nm 4) (DI.range1 (DE.call "_law_draw" c__law_draw (DA.cons (DE.var 0) (DA.cons (DE.var 1) (DA.cons (DE.con (.int 7)) DA.nil))))) (DB.cons (DS.par 5 6 (DE.call "_law_draw" c__law_draw (DA.cons (DE.var 0) (DA.cons (DE.var 1) (DA.cons (DE.len (DA.cons (DE.var 3) DA.nil)) DA.nil)))) (DE.call "_law_draw" c__law_draw (DA.cons (DE.var 0) (DA.cons (DE.var 1) (DA.cons (DE.len (DA.cons (DE.var 3) DA.nil)) DA.nil)))))
  (DB.cons (DS.iff (DT.cmp .Eq (DE.var 5) (DE.var 6)) (DB.cons (DS.sub (DE.var 3) (DE.var 5) (DE.tuple (DA.cons (DE.lst (DL.comp [("entry", 8)] (DG.nm 8) (DI.seq (DE.ix (DE.var 3) (DE.var 5))) DF.no (DE.neg (DE.var 8)))) DA.nil)))
  DB.nil) (DB.cons (DS.set 7 (DE.op .Sub (DE.call "_law_draw" c__law_draw (DA.cons (DE.var 0) (DA.cons (DE.var 1) (DA.cons (DE.con (.int 5)) DA.nil)))) (DE.con (.int 2))))
  (DB.cons (DS.sub (DE.var 3) (DE.var 5) (DE.tuple (DA.cons (DE.lst (DL.comp [("x", 9), ("y", 10)] (DG.tp (DGs.cons 9 (DGs.cons 10 DGs.nil))) (DI.zip (DE.ix (DE.var 3) (DE.var 5)) (DE.ix (DE.var 3) (DE.var 6))) DF.no (DE.op .Add (DE.var 9) (DE.op .Mult (DE.var 7) (DE.var 10))))) DA.nil)))
  DB.nil)))
  DB.nil)))
  (DB.cons (DS.ret (DE.tuple (DA.cons (DE.var 3) DA.nil)))
  DB.nil)))
theorem Mat.len {n B : Nat} {T : List (List Int)} (h : Mat n B T) : Len n T := fun r hr => (h.2 r hr).1
theorem Mat.set {n B : Nat} {T : List (List Int)} (h : Mat n B T) {w : List Int} (hw : w.length = n ∧ Bd B w) (i : Nat) : Mat n B (T.set i w) :=
  ⟨by rw [List.length_set, h.1], fun v hv => by
    rcases List.mem_or_eq_of_mem_set hv with q | rfl
    · exact h.2 v q
    · exact hw⟩
theorem Mat.mono {n B B' : Nat} {T : List (List Int)} (h : Mat n B T) (e : B ≤ B') : Mat n B' T := ⟨h.1, fun v hv => ⟨(h.2 v hv).1, (h.2 v hv).2.mono e⟩⟩
theorem ixN_nat {n i : Nat} (h : i < n) : ixN n (i : Int) = some i := by
  unfold ixN
  rw [if_pos (by omega), if_pos (by omega)]; simp
theorem w__law_other {ds : List D} {S : Sto} {Q : QD} {X : XD} (h : c__law_other ds S Q X) : ctOf N__law_other.length b__law_other ds S Q X := by
  obtain ⟨ns, ts, c, J, n, B, R, rfl, rfl, t, hn1, hn3, M, hB, h⟩ := h
  have t3 := t.2.2
  unfold b__law_other N__law_other
  walk_at "wp"
  refine draw_call ⟨t.1, t.2.1, by omega⟩ (by omega) (by omega) fun r ts1 r0 r1 hts1 => ?_
  walk_at "wp"
  obtain ⟨z, rfl⟩ := Int.eq_ofNat_of_zero_le r0
  refine ⟨by omega, by omega, ?_⟩
  rw [show ((z : Int)).toNat = z by omega, range_map]
  refine forGo_inv (fun ds env S' => ∃ (q : Nat) (T : List (List Int)) (c' : Nat) (ts' : List Int) (a4 a5 a6 a7 a8 a9 a10 : Option D), q ≤ z ∧ ds = ((List.range z).drop q).map (fun i => .int (i : Nat)) ∧
    env = [some (.scr (ns.map .int)), some (.han 0), some (.tup (R.map VE)), some (.han (J.length + 1)), a4, a5, a6, a7, a8, a9, a10] ∧ Mat n (3 ^ q * B) T ∧ SameL n R T ∧ c' ≤ c + 1 + 3 * q ∧ ts'.length = ns.length ∧ S' = tw c' ts' (J ++ [.lst (T.map VE)])) ?_ ?_ _ _ _ ⟨0, R, c + 1, ts1, _, _, _, _, _, _, _, by omega, by simp, rfl, by simpa using M, SameL.refl _ _, by omega, hts1, rfl⟩
  · rintro d1 ds1 env1 S1 ⟨q, T, c', ts', a4, a5, a6, a7, a8, a9, a10, hq, hds, rfl, MT, hL, hc, hts, rfl⟩
    have hqn : q < z := by
      by_cases e : q < z
      · exact e
      · rw [List.drop_eq_nil_of_le (by simpa using e)] at hds; cases hds
    rw [List.drop_eq_getElem_cons (by simpa using hqn)] at hds
    simp only [List.getElem_range, List.map_cons, List.cons.injEq] at hds
    obtain ⟨rfl, rfl⟩ := hds
    have hTl := MT.1
    have p3 : 3 ^ q * B ≤ 3 ^ (q + 1) * B := Nat.mul_le_mul (Nat.pow_le_pow_right (by omega) (by omega)) (Nat.le_refl _)
    refine ⟨trivial, _, rfl, fun nx hnx => ?_⟩
    walk_at "wp"
    rw [oLen_seq (seq_e _ _ _)]
    simp only [List.length_map]
    refine draw_call ⟨t.1, hts, by omega⟩ (by omega) (by omega) fun ri ts2 i0 i1 hts2 => ?_
    rw [oLen_seq (seq_e _ _ _)]
    simp only [List.length_map]
    refine draw_call ⟨t.1, hts2, by omega⟩ (by omega) (by omega) fun rj ts3 j0 j1 hts3 => ?_
    obtain ⟨i, rfl⟩ := Int.eq_ofNat_of_zero_le i0
    obtain ⟨j, rfl⟩ := Int.eq_ofNat_of_zero_le j0
    have hi : i < T.length := by omega
    have hj : j < T.length := by omega
    have li := MT.2 _ (List.getElem_mem hi)
    have lj := MT.2 _ (List.getElem_mem hj)
    walk_at "wp"
    by_cases e : i = j
    · have e' : (i : Int) = (j : Int) := by omega
      simp only [e', if_true, decide_true]
      rw [oIx_seq (seq_e _ _ _), atI_map, atI_some hj]
      refine ⟨_, rfl, ?_⟩
      simp only [VE_eq]
      walk_at "wp"
      refine ⟨by rw [List.length_map, lj.1]; exact szLe (by omega), compGo_all0 D.int (fun x => D.int (-x)) T[j] (fun x hx => ⟨_, rfl, fun Qd hq => ?_⟩) ?_⟩
      · walk_at "wp"
        exact hq
      walk_at "wp"
      refine ⟨_, rfl, _, _, get_e _ _ _, ixN_nat (by simpa using hj), ?_⟩
      rw [set_e]
      rw [show T[j].map (fun x => D.int (-x)) = (negV T[j]).map D.int by simp [negV], ← VE_eq, ← List.map_set]
      refine hnx _ _ ⟨q + 1, T.set j (negV T[j]), _, ts3, _, _, _, _, _, _, _, by omega, rfl, rfl, ?_, hL.trans (same_neg MT.len hj), ?_, hts3, rfl⟩
      · refine (MT.mono p3).set ⟨by rw [negV_len]; exact lj.1, fun x hx => ?_⟩ j
        unfold negV at hx
        obtain ⟨y, hy, rfl⟩ := List.mem_map.mp hx
        rw [Int.natAbs_neg]
        exact Nat.le_trans (lj.2 y hy) p3
      · omega
    · have e' : ¬ (i : Int) = (j : Int) := by omega
      simp only [e', if_false, decide_false, Bool.false_eq_true]
      refine draw_call ⟨t.1, hts3, by omega⟩ (by omega) (by omega) fun rf ts4 f0 f1 hts4 => ?_
      walk_at "wp"
      rw [oIx_seq (seq_e _ _ _), atI_map, atI_some hi]
      refine ⟨_, rfl, ?_⟩
      rw [oIx_seq (seq_e _ _ _), atI_map, atI_some hj]
      refine ⟨_, rfl, ?_⟩
      simp only [VE_eq]
      walk_at "wp"
      rw [zipD_map]
      refine ⟨by simp only [List.length_map, List.length_zip, li.1]; exact szLe (by omega), compGo_all0 _ (fun p => .int (p.1 + (rf - 2) * p.2)) (T[i].zip T[j]) (fun a ha => ⟨_, rfl, fun Qd hq => ?_⟩) ?_⟩
      · walk_at "wp"
        refine ⟨(Sm.of 6 (a := rf - 2) (B := 2) (by omega) (by decide)).ok (k := 30) ?_ (by omega), hq⟩
        have := lj.2 _ (List.of_mem_zip ha).2
        refine Sm.of 30 this ?_
        have h1 : 3 ^ q * B ≤ 3 ^ 6 * 1000 := Nat.mul_le_mul (Nat.pow_le_pow_right (by omega) (by omega)) hB
        omega
      walk_at "wp"
      refine ⟨_, rfl, _, _, get_e _ _ _, ixN_nat (by simpa using hi), ?_⟩
      rw [set_e]
      rw [show (T[i].zip T[j]).map (fun p => D.int (p.1 + (rf - 2) * p.2)) = (plusV T[i] (rf - 2) T[j]).map D.int by simp [plusV], ← VE_eq, ← List.map_set]
      refine hnx _ _ ⟨q + 1, T.set i (plusV T[i] (rf - 2) T[j]), _, ts4, _, _, _, _, _, _, _, by omega, rfl, rfl, ?_, hL.trans (same_add MT.len hi hj e _), ?_, hts4, rfl⟩
      · refine (MT.mono p3).set ⟨(plus_len (by omega)).trans li.1, (li.2.plus lj.2).mono ?_⟩ i
        rw [Nat.pow_succ]
        have h1 : 1 + (rf - 2).natAbs ≤ 3 := by omega
        calc _ ≤ 3 ^ q * B * 3 := Nat.mul_le_mul (Nat.le_refl _) h1
          _ = _ := by rw [Nat.mul_right_comm]
      · omega
  · rintro env1 S1 ⟨q, T, c', ts', a4, a5, a6, a7, a8, a9, a10, hq, hds, rfl, MT, hL, hc, hts, rfl⟩
    refine ⟨trivial, ?_⟩
    walk_at "wp"
    rw [oTuple_seq (seq_e _ _ _)]
    refine h T c' ts' _ (MT.mono (Nat.mul_le_mul ?_ (Nat.le_refl _))) hL (by omega) hts
    have : 3 ^ q ≤ 3 ^ 6 := Nat.pow_le_pow_right (by omega) (by omega)
    omega
/-! #### FL -/
local macro_rules | `(tactic| walk_at "wp") => `(tactic| try simp only [z0, z1, z2, z3, z4, z5, z6, z7, z8, z9, z10, z11, z12, z13, z14, z15, z16, z17, z18, z19, z20, z21, z22, z23, z24, z25, z26, z27, z28, z29, z30, z31, z32, z33, z34, z35, z36, z37, z38, z39, z40, z41, z42, z43, z44, z45, z46, z47, z48, z49, z50, z51, z52, z53, z54, z55, z56, z57, z58, z59, z60, z61, z62, z63, z64, z65, z66, z67, z68, z69, z70, z71, z72, z73, z74, z75, z76, z77, z78, z79, z80, z81, z82, z83, zg0, zg1, y0, y1, y2, y3, y4, y5, y6, y7, y8, y9, y10, y11, y12, y13, y14, sg0, sg1, sg2, sg3, sg4, sn0, sn1, sn2, sn3, sn4, sn5, sn6, sn7, sn8, sn9, sp1, sp4, si0, si1, si2, si3, si4, sl0, sl1, sl2, sl3, sl4, wVar, wFrz, wC, wNil, wCons, w1, w2, w3, wAp, opD, cmD, oNeg, wB, wNotT, boolW, wAndT, wOrT, wNotV, boolV, wAndV, wOrV, wIte, wNo, wSo, wSl, wTup, wLst, wThw, wLof, wCat, wRep, wIsi, wM0, wM1, wIseq, wR1, wR2, wChr, wZip_eq, wEnum, wYes, wComp, wSkip, wSeq, wExpr, wRet, wCont, wSet, wAsg, wPar, wSub, wIf, wFor, wRaise, wCall, wCall0, wTry, wIsX, wIsVE, wLofS, wFld, wSetF, wMet, wMet0, wMake, wLenO, seqOf_tup, seqOf_lst, seqOf_scr, lstOf_lst, lstOf_scr, lstX_lst, tupOf_tup, srcOf_tup, srcOf_lst, srcOf_scr, srcOf_han, srcOk_nil, srcOk_cons, oAdd_ii, oAdd_ss, oAdd_tt, oAdd_ll, oSub_ii, oMul_ii, oMul_ti, oMul_si, oDiv_ii, oMod_ii, oPow_ii, oNeg_i, oEq_ii, oNe_ii, oEq_ss, oNe_ss, oI_ii, oIs_n, oIsNot_n, oIs_b, oIsNot_b, isNon_n, isNon_b, isNon_i, isNon_s, isNon_t, isNon_l, isNon_h, oIx_t, oIx_l, oIx_s, oLen_t, oLen_l, oLen_s, oLen_str, oAbs_i, oTuple_l, oTuple_t, oSl_t, oSl_l, oInt_i, oInt_b, compGo_nil, compGo_cons, forGo_nil, forGo_cons, wipeD_nil, wipeD_cons, range_3, range_2, range_1, enumD_nil, enumD_1, enumD_2, enumD_3, zipD_nil, zipD_cons, oMin_ii, ctOf, startD, List.map_cons, List.map_nil, List.length_cons, List.length_nil, List.cons_append, List.nil_append, List.append_nil, List.replicate, Nat.reduceAdd, Nat.reduceSub, Nat.sub_self, Nat.zero_add, List.getElem?_cons_zero, List.getElem?_cons_succ, List.getElem?_nil, List.set_cons_zero, List.set_cons_succ, ex_eq, ex_and, Option.some.injEq, exists_eq_left', exists_eq_left, exists_eq_right, D.bl.injEq, D.int.injEq, D.str.injEq, D.tup.injEq, D.lst.injEq, D.han.injEq, O.ins.injEq, O.lst.injEq, atI_0, atI_1, atI_2, reduceIte, zip_tt, zip_ll, ty_n, ty_b, ty_i, ty_s, ty_t, ty_l, ty_f, kit_ii, kit_ib, kit_bb, kit_bi, kit_it, kit_tt, kit_ti, kit_tb, kit_lt, kit_li, kit_st, kit_si, kit_ss, kit_nt, kit_ni, kit_fi, kit_ft, kit_is, kit_ns, kit_bt, oLen_V, Int.toNat_natCast, cut_t0, cut_t1, cut_t2, cut_f1, cut_f2, cut_f3, m2_0, m2_1, m2_2, List.take_succ_cons, List.take_zero, List.drop_succ_cons, List.drop_zero, List.take_nil, List.drop_nil, decide_true, decide_false, Bool.not_true, Bool.not_false, if_true, if_false, Bool.false_eq_true, Int.cast_ofNat_Int, Int.reduceEq, Int.reduceLT, Int.reduceLE, Int.reduceToNat, Int.reduceNeg, Nat.reduceEqDiff, decide_eq_true_eq, true_and, and_true, List.cons.injEq, and_self, Int.reduceSub, Int.reduceAdd, Int.reduceMul])
local macro_rules | `(tactic| walk_at "wps") => `(tactic| simp only [z0, z1, z2, z3, z4, z5, z6, z7, z8, z9, z10, z11, z12, z13, z14, z15, z16, z17, z18, z19, z20, z21, z22, z23, z24, z25, z26, z27, z28, z29, z30, z31, z32, z33, z34, z35, z36, z37, z38, z39, z40, z41, z42, z43, z44, z45, z46, z47, z48, z49, z50, z51, z52, z53, z54, z55, z56, z57, z58, z59, z60, z61, z62, z63, z64, z65, z66, z67, z68, z69, z70, z71, z72, z73, z74, z75, z76, z77, z78, z79, z80, z81, z82, z83, zg0, zg1, y0, y1, y2, y3, y4, y5, y6, y7, y8, y9, y10, y11, y12, y13, y14, sg0, sg1, sg2, sg3, sg4, sn0, sn1, sn2, sn3, sn4, sn5, sn6, sn7, sn8, sn9, sp1, sp4, si0, si1, si2, si3, si4, sl0, sl1, sl2, sl3, sl4, wVar, wFrz, wC, wNil, wCons, w1, w2, w3, wAp, opD, cmD, oNeg, wB, wNotT, boolW, wAndT, wOrT, wNotV, boolV, wAndV, wOrV, wIte, wNo, wSo, wSl, wTup, wLst, wThw, wLof, wCat, wRep, wIsi, wM0, wM1, wIseq, wR1, wR2, wChr, wZip_eq, wEnum, wYes, wComp, wSkip, wSeq, wExpr, wRet, wCont, wSet, wAsg, wPar, wSub, wIf, wFor, wRaise, wCall, wCall0, wTry, wIsX, wIsVE, wLofS, wFld, wSetF, wMet, wMet0, wMake, wLenO, seqOf_tup, seqOf_lst, seqOf_scr, lstOf_lst, lstOf_scr, lstX_lst, tupOf_tup, srcOf_tup, srcOf_lst, srcOf_scr, srcOf_han, srcOk_nil, srcOk_cons, oAdd_ii, oAdd_ss, oAdd_tt, oAdd_ll, oSub_ii, oMul_ii, oMul_ti, oMul_si, oDiv_ii, oMod_ii, oPow_ii, oNeg_i, oEq_ii, oNe_ii, oEq_ss, oNe_ss, oI_ii, oIs_n, oIsNot_n, oIs_b, oIsNot_b, isNon_n, isNon_b, isNon_i, isNon_s, isNon_t, isNon_l, isNon_h, oIx_t, oIx_l, oIx_s, oLen_t, oLen_l, oLen_s, oLen_str, oAbs_i, oTuple_l, oTuple_t, oSl_t, oSl_l, oInt_i, oInt_b, compGo_nil, compGo_cons, forGo_nil, forGo_cons, wipeD_nil, wipeD_cons, range_3, range_2, range_1, enumD_nil, enumD_1, enumD_2, enumD_3, zipD_nil, zipD_cons, oMin_ii, ctOf, startD, List.map_cons, List.map_nil, List.length_cons, List.length_nil, List.cons_append, List.nil_append, List.append_nil, List.replicate, Nat.reduceAdd, Nat.reduceSub, Nat.sub_self, Nat.zero_add, List.getElem?_cons_zero, List.getElem?_cons_succ, List.getElem?_nil, List.set_cons_zero, List.set_cons_succ, ex_eq, ex_and, Option.some.injEq, exists_eq_left', exists_eq_left, exists_eq_right, D.bl.injEq, D.int.injEq, D.str.injEq, D.tup.injEq, D.lst.injEq, D.han.injEq, O.ins.injEq, O.lst.injEq, atI_0, atI_1, atI_2, reduceIte, zip_tt, zip_ll, ty_n, ty_b, ty_i, ty_s, ty_t, ty_l, ty_f, kit_ii, kit_ib, kit_bb, kit_bi, kit_it, kit_tt, kit_ti, kit_tb, kit_lt, kit_li, kit_st, kit_si, kit_ss, kit_nt, kit_ni, kit_fi, kit_ft, kit_is, kit_ns, kit_bt, oLen_V, Int.toNat_natCast, cut_t0, cut_t1, cut_t2, cut_f1, cut_f2, cut_f3, m2_0, m2_1, m2_2, List.take_succ_cons, List.take_zero, List.drop_succ_cons, List.drop_zero, List.take_nil, List.drop_nil, decide_true, decide_false, Bool.not_true, Bool.not_false, if_true, if_false, Bool.false_eq_true, Int.cast_ofNat_Int, Int.reduceEq, Int.reduceLT, Int.reduceLE, Int.reduceToNat, Int.reduceNeg, Nat.reduceEqDiff, decide_eq_true_eq, true_and, and_true, List.cons.injEq, and_self, Int.reduceSub, Int.reduceAdd, Int.reduceMul, *])
local macro_rules | `(tactic| walk_at "wpf") => `(tactic| try simp only [z0, z1, z2, z3, z4, z5, z6, z7, z8, z9, z10, z11, z12, z13, z14, z15, z16, z17, z18, z19, z20, z21, z22, z23, z24, z25, z26, z27, z28, z29, z30, z31, z32, z33, z34, z35, z36, z37, z38, z39, z40, z41, z42, z43, z44, z45, z46, z47, z48, z49, z50, z51, z52, z53, z54, z55, z56, z57, z58, z59, z60, z61, z62, z63, z64, z65, z66, z67, z68, z69, z70, z71, z72, z73, z74, z75, z76, z77, z78, z79, z80, z81, z82, z83, zg0, zg1, y0, y1, y2, y3, y4, y5, y6, y7, y8, y9, y10, y11, y12, y13, y14, sg0, sg1, sg2, sg3, sg4, sn0, sn1, sn2, sn3, sn4, sn5, sn6, sn7, sn8, sn9, sp1, sp4, si0, si1, si2, si3, si4, sl0, sl1, sl2, sl3, sl4, wVar, wFrz, wC, wNil, wCons, w1, w2, w3, wAp, opD, cmD, oNeg, wB, wNotT, boolW, wAndT, wOrT, wNotV, boolV, wAndV, wOrV, wIte, wNo, wSo, wSl, wTup, wLst, wThw, wLof, wCat, wRep, wIsi, wM0, wM1, wIseq, wR1, wR2, wChr, wZip_eq, wEnum, wYes, wComp, wSkip, wSeq, wExpr, wRet, wCont, wSet, wAsg, wPar, wSub, wIf, wFor, wRaise, wCall, wCall0, wTry, wIsX, wIsVE, wLofS, wFld, wSetF, wMet, wMet0, wMake, wLenO, seqOf_tup, seqOf_lst, seqOf_scr, lstOf_lst, lstOf_scr, lstX_lst, tupOf_tup, srcOf_tup, srcOf_lst, srcOf_scr, srcOf_han, srcOk_nil, srcOk_cons, oAdd_ii, oAdd_ss, oAdd_tt, oAdd_ll, oSub_ii, oMul_ii, oMul_ti, oMul_si, oDiv_ii, oMod_ii, oPow_ii, oNeg_i, oEq_ii, oNe_ii, oEq_ss, oNe_ss, oI_ii, oIs_n, oIsNot_n, oIs_b, oIsNot_b, isNon_n, isNon_b, isNon_i, isNon_s, isNon_t, isNon_l, isNon_h, oIx_t, oIx_l, oIx_s, oLen_t, oLen_l, oLen_s, oLen_str, oAbs_i, oTuple_l, oTuple_t, oSl_t, oSl_l, oInt_i, oInt_b, compGo_nil, compGo_cons, wipeD_nil, wipeD_cons, range_3, range_2, range_1, enumD_nil, enumD_1, enumD_2, enumD_3, zipD_nil, zipD_cons, oMin_ii, ctOf, startD, List.map_cons, List.map_nil, List.length_cons, List.length_nil, List.cons_append, List.nil_append, List.append_nil, List.replicate, Nat.reduceAdd, Nat.reduceSub, Nat.sub_self, Nat.zero_add, List.getElem?_cons_zero, List.getElem?_cons_succ, List.getElem?_nil, List.set_cons_zero, List.set_cons_succ, ex_eq, ex_and, Option.some.injEq, exists_eq_left', exists_eq_left, exists_eq_right, D.bl.injEq, D.int.injEq, D.str.injEq, D.tup.injEq, D.lst.injEq, D.han.injEq, O.ins.injEq, O.lst.injEq, atI_0, atI_1, atI_2, reduceIte, zip_tt, zip_ll, ty_n, ty_b, ty_i, ty_s, ty_t, ty_l, ty_f, kit_ii, kit_ib, kit_bb, kit_bi, kit_it, kit_tt, kit_ti, kit_tb, kit_lt, kit_li, kit_st, kit_si, kit_ss, kit_nt, kit_ni, kit_fi, kit_ft, kit_is, kit_ns, kit_bt, oLen_V, Int.toNat_natCast, cut_t0, cut_t1, cut_t2, cut_f1, cut_f2, cut_f3, m2_0, m2_1, m2_2, List.take_succ_cons, List.take_zero, List.drop_succ_cons, List.drop_zero, List.take_nil, List.drop_nil, decide_true, decide_false, Bool.not_true, Bool.not_false, if_true, if_false, Bool.false_eq_true, Int.cast_ofNat_Int, Int.reduceEq, Int.reduceLT, Int.reduceLE, Int.reduceToNat, Int.reduceNeg, Nat.reduceEqDiff, decide_eq_true_eq, true_and, and_true, List.cons.injEq, and_self, Int.reduceSub, Int.reduceAdd, Int.reduceMul])
local macro_rules | `(tactic| walk_at "wpe") => `(tactic| simp only [z0, z1, z2, z3, z4, z5, z6, z7, z8, z9, z10, z11, z12, z13, z14, z15, z16, z17, z18, z19, z20, z21, z22, z23, z24, z25, z26, z27, z28, z29, z30, z31, z32, z33, z34, z35, z36, z37, z38, z39, z40, z41, z42, z43, z44, z45, z46, z47, z48, z49, z50, z51, z52, z53, z54, z55, z56, z57, z58, z59, z60, z61, z62, z63, z64, z65, z66, z67, z68, z69, z70, z71, z72, z73, z74, z75, z76, z77, z78, z79, z80, z81, z82, z83, zg0, zg1, y0, y1, y2, y3, y4, y5, y6, y7, y8, y9, y10, y11, y12, y13, y14, sg0, sg1, sg2, sg3, sg4, sn0, sn1, sn2, sn3, sn4, sn5, sn6, sn7, sn8, sn9, sp1, sp4, si0, si1, si2, si3, si4, sl0, sl1, sl2, sl3, sl4, wVar, wFrz, wC, wNil, wCons, w1, w2, w3, wAp, opD, cmD, oNeg, wB, wNotT, boolW, wAndT, wOrT, wNotV, boolV, wAndV, wOrV, wIte, wNo, wSo, wSl, wTup, wLst, wThw, wLof, wCat, wRep, wIsi, wM0, wM1, wIseq, wR1, wR2, wChr, wZip_eq, wEnum, wYes, wComp, wSkip, wSeq, wExpr, wRet, wCont, wSet, wAsg, wPar, wSub, wIf, wFor, wRaise, wCall, wCall0, wTry, wIsX, wIsVE, wLofS, wFld, wSetF, wMet, wMet0, wMake, wLenO, seqOf_tup, seqOf_lst, seqOf_scr, lstOf_lst, lstOf_scr, lstX_lst, tupOf_tup, srcOf_tup, srcOf_lst, srcOf_scr, srcOf_han, srcOk_nil, srcOk_cons, oAdd_ii, oAdd_ss, oAdd_tt, oAdd_ll, oSub_ii, oMul_ii, oMul_ti, oMul_si, oDiv_ii, oMod_ii, oPow_ii, oNeg_i, oEq_ii, oNe_ii, oEq_ss, oNe_ss, oI_ii, oIs_n, oIsNot_n, oIs_b, oIsNot_b, isNon_n, isNon_b, isNon_i, isNon_s, isNon_t, isNon_l, isNon_h, oIx_t, oIx_l, oIx_s, oLen_t, oLen_l, oLen_s, oLen_str, oAbs_i, oTuple_l, oTuple_t, oSl_t, oSl_l, oInt_i, oInt_b, compGo_nil, compGo_cons, wipeD_nil, wipeD_cons, range_3, range_2, range_1, enumD_nil, enumD_1, enumD_2, enumD_3, zipD_nil, zipD_cons, oMin_ii, ctOf, startD, List.map_cons, List.map_nil, List.length_cons, List.length_nil, List.cons_append, List.nil_append, List.append_nil, List.replicate, Nat.reduceAdd, Nat.reduceSub, Nat.sub_self, Nat.zero_add, List.getElem?_cons_zero, List.getElem?_cons_succ, List.getElem?_nil, List.set_cons_zero, List.set_cons_succ, ex_eq, ex_and, Option.some.injEq, exists_eq_left', exists_eq_left, exists_eq_right, D.bl.injEq, D.int.injEq, D.str.injEq, D.tup.injEq, D.lst.injEq, D.han.injEq, O.ins.injEq, O.lst.injEq, atI_0, atI_1, atI_2, reduceIte, zip_tt, zip_ll, ty_n, ty_b, ty_i, ty_s, ty_t, ty_l, ty_f, kit_ii, kit_ib, kit_bb, kit_bi, kit_it, kit_tt, kit_ti, kit_tb, kit_lt, kit_li, kit_st, kit_si, kit_ss, kit_nt, kit_ni, kit_fi, kit_ft, kit_is, kit_ns, kit_bt, oLen_V, Int.toNat_natCast, cut_t0, cut_t1, cut_t2, cut_f1, cut_f2, cut_f3, m2_0, m2_1, m2_2, List.take_succ_cons, List.take_zero, List.drop_succ_cons, List.drop_zero, List.take_nil, List.drop_nil, decide_true, decide_false, Bool.not_true, Bool.not_false, if_true, if_false, Bool.false_eq_true, Int.cast_ofNat_Int, Int.reduceEq, Int.reduceLT, Int.reduceLE, Int.reduceToNat, Int.reduceNeg, Nat.reduceEqDiff, decide_eq_true_eq, true_and, and_true, List.cons.injEq, and_self, Int.reduceSub, Int.reduceAdd, Int.reduceMul])
/-! ### numbers -/
def c_divisor : Ct := fun ds S Q _ => ∃ a b : Int, ds = [.int a, .int b] ∧ Q (.int (Int.gcd a b : Nat)) S
/-- divisor -/
def N_divisor : List Str := ["one", "other"]
def b_divisor : DB := (DB.cons (DS.while (DT.cmp .NotEq (DE.var 1) (DE.con (.int 0))) (DB.cons (DS.par 0 1 (DE.var 1) (DE.op .Mod (DE.var 0) (DE.var 1)))
  DB.nil))
  (DB.cons (DS.ret (DE.abs (DA.cons (DE.var 0) DA.nil)))
  DB.nil))
theorem w_divisor {ds : List D} {S : Sto} {Q : QD} {X : XD} (h : c_divisor ds S Q X) : ctOf N_divisor.length b_divisor ds S Q X := by
  obtain ⟨a, b, rfl, h⟩ := h
  unfold b_divisor N_divisor
  walk_at "wp"
  refine while_inv (fun m env S' => ∃ x y : Int, m = y.natAbs ∧ Int.gcd x y = Int.gcd a b ∧ env = [some (.int x), some (.int y)] ∧ S' = S) ?_ ⟨a, b, rfl, rfl, rfl, rfl⟩
  rintro m env S' ⟨x, y, rfl, hg, rfl, rfl⟩ nx hnx
  walk_at "wp"
  by_cases e : y = 0
  · subst e
    walk_at "wp"
    rw [Int.gcd_zero_right] at hg
    rw [hg]
    exact h
  · simp only [e]
    walk_at "wp"
    exact ⟨e, hnx _ (fm_abs x e) _ _ ⟨y, x.fmod y, rfl, by rw [gcd_fmod, hg], rfl, rfl⟩⟩
def frE (p : Int × Int) : D := .tup [.int p.1, .int p.2]
def c_ratio : Ct := fun ds S Q _ => ∃ a b : Int, ds = [.int a, .int b] ∧ b ≠ 0 ∧ Sm 8000 b ∧ Q (frE (rat a b)) S
/-- ratio -/
def N_ratio : List Str := ["top", "bottom", "shared"]
def b_ratio : DB := (DB.cons (DS.set 2 (DE.call "divisor" c_divisor (DA.cons (DE.var 0) (DA.cons (DE.var 1) DA.nil))))
  (DB.cons (DS.iff (DT.cmp .Lt (DE.var 1) (DE.con (.int 0))) (DB.cons (DS.set 2 (DE.neg (DE.var 2)))
  DB.nil) DB.nil)
  (DB.cons (DS.ret (DE.tup (DA.cons (DE.op .FloorDiv (DE.var 0) (DE.var 2)) (DA.cons (DE.op .FloorDiv (DE.var 1) (DE.var 2)) DA.nil))))
  DB.nil)))
theorem ratS_div {a b : Int} (hb : b ≠ 0) (hs : Sm 8000 b) : IntDivOk (ratS a b) :=
  Sm.div (j := 8000) (Nat.lt_of_le_of_lt (ratS_le hb) hs) (ratS_ne hb) (by omega)
theorem w_ratio {ds : List D} {S : Sto} {Q : QD} {X : XD} (h : c_ratio ds S Q X) : ctOf N_ratio.length b_ratio ds S Q X := by
  obtain ⟨a, b, rfl, hb, hs, h⟩ := h
  unfold b_ratio N_ratio
  walk_at "wp"
  refine ⟨a, b, rfl, ?_⟩
  have hd := ratS_div (a := a) hb hs
  by_cases e : b < 0
  · have er : ratS a b = -(Int.gcd a b : Int) := by unfold ratS; rw [if_pos e]
    rw [er] at hd
    simp only [e]
    walk_at "wp"
    refine ⟨hd, hd, ?_⟩
    simpa [frE, rat, er] using h
  · have er : ratS a b = (Int.gcd a b : Int) := by unfold ratS; rw [if_neg e]
    rw [er] at hd
    simp only [e]
    walk_at "wp"
    refine ⟨hd, hd, ?_⟩
    simpa [frE, rat, er] using h
def isFr : D → Bool
  | .tup [.int a, .int b] => decide (0 < b) && decide (Int.gcd a b = 1)
  | _ => false
def okF : D → Prop
  | .tup [x, y] => okD x = true ∧ okD y = true
  | d => okD d = true
def c_is_fraction : Ct := fun ds S Q _ => ∃ d, ds = [d] ∧ okF d ∧ Q (.bl (isFr d)) S
/-- is_fraction -/
def N_is_fraction : List Str := ["value"]
def b_is_fraction : DB := (DB.cons (DS.iff (DT.bool (DW.cons (DT.not (DT.val (DE.isTuple (DE.var 0)))) (DW.cons (DT.cmp .NotEq (DE.len (DA.cons (DE.var 0) DA.nil)) (DE.con (.int 2))) (DW.cons (DT.not (DT.val (DE.call "is_integer" c_is_integer (DA.cons (DE.ix (DE.var 0) (DE.con (.int 0))) DA.nil)))) (DW.one .Or (DT.not (DT.val (DE.call "is_integer" c_is_integer (DA.cons (DE.ix (DE.var 0) (DE.con (.int 1))) DA.nil))))))))) (DB.cons (DS.ret (DE.con (.bl false)))
  DB.nil) DB.nil)
  (DB.cons (DS.ret (DE.bool (DV.cons (DE.cmp .Gt (DE.ix (DE.var 0) (DE.con (.int 1))) (DE.con (.int 0))) (DV.one .And (DE.cmp .Eq (DE.call "divisor" c_divisor (DA.cons (DE.ix (DE.var 0) (DE.con (.int 0))) (DA.cons (DE.ix (DE.var 0) (DE.con (.int 1))) DA.nil))) (DE.con (.int 1)))))))
  DB.nil))
theorem w_is_fraction {ds : List D} {S : Sto} {Q : QD} {X : XD} (h : c_is_fraction ds S Q X) : ctOf N_is_fraction.length b_is_fraction ds S Q X := by
  obtain ⟨d, rfl, hd, h⟩ := h
  unfold b_is_fraction N_is_fraction
  match d, hd, h with
  | .non, _, h => walk_at "wp"; exact h
  | .bl _, _, h => walk_at "wp"; exact h
  | .int _, _, h => walk_at "wp"; exact h
  | .str _, _, h => walk_at "wp"; exact h
  | .flt _, _, h => walk_at "wp"; exact h
  | .lst _, _, h => walk_at "wp"; exact h
  | .scr _, hd, _ => simp [okF, okD] at hd
  | .han _, hd, _ => simp [okF, okD] at hd
  | .cst _, hd, _ => simp [okF, okD] at hd
  | .tup [], _, h => walk_at "wp"; exact h
  | .tup [_], _, h => walk_at "wp"; simpa [isFr] using h
  | .tup (x :: y :: z :: r), _, h =>
    walk_at "wp"
    have : ¬ ((r.length + 1 + 1 + 1 : Nat) : Int) = 2 := by omega
    simp only [this]
    walk_at "wp"
    simpa [isFr] using h
  | .tup [x, y], hd, h =>
    walk_at "wp"
    refine ⟨x, rfl, hd.1, _, rfl, ?_⟩
    cases x with
    | int a =>
      simp only [isI]
      walk_at "wp"
      refine ⟨y, rfl, hd.2, _, rfl, ?_⟩
      cases y with
      | int b =>
        simp only [isI]
        walk_at "wp"
        by_cases e : 0 < b
        · simp only [e]
          walk_at "wp"
          refine ⟨a, b, rfl, ?_⟩
          walk_at "wp"
          have : ((Int.gcd a b : Nat) : Int) = 1 ↔ Int.gcd a b = 1 := by omega
          simpa [isFr, e, this] using h
        · simp only [e]
          walk_at "wp"
          simpa [isFr, e] using h
      | _ => simp only [isI]; walk_at "wp"; simpa [isFr] using h
    | _ => simp only [isI]; walk_at "wp"; simpa [isFr] using h
/-! ### vectors -/
def c_check_vector : Ct := fun ds S Q X => ∃ (n : Int) (d : D), ds = [.int n, d] ∧ okVecD d ∧ if isVD n d = true then Q .non S else X "InvalidVector" S
/-- check_vector -/
def N_check_vector : List Str := ["n", "value"]
def b_check_vector : DB := (DB.cons (DS.iff (DT.not (DT.val (DE.call "is_vector" c_is_vector (DA.cons (DE.var 0) (DA.cons (DE.var 1) DA.nil))))) (DB.cons (DS.raise "InvalidVector")
  DB.nil) DB.nil)
  DB.nil)
theorem w_check_vector {ds : List D} {S : Sto} {Q : QD} {X : XD} (h : c_check_vector ds S Q X) : ctOf N_check_vector.length b_check_vector ds S Q X := by
  obtain ⟨n, d, rfl, hl, h⟩ := h
  unfold b_check_vector N_check_vector
  walk_at "wp"
  refine ⟨n, d, rfl, hl, ?_⟩
  walk_at "wp"
  by_cases e : isVD n d = true
  · simpa [e] using h
  · simpa [e] using h
theorem isV_ok {n : Nat} {v : List Int} (h : isV n v = true) : VecOk 20 n v := by
  simp only [isV, Bool.and_eq_true, decide_eq_true_eq, List.all_eq_true] at h
  exact ⟨by omega, fun x hx => lim_sm (lim_iff.mp (h.2 x hx))⟩
theorem isV_of {n : Nat} {v : List Int} (hl : v.length = n) (hb : Bd 1000000 v) : isV n v = true := by
  simp only [isV, Bool.and_eq_true, decide_eq_true_eq, List.all_eq_true]
  exact ⟨by omega, fun x hx => lim_iff.mpr (hb x hx)⟩
theorem VecOk.mono {j k n : Nat} {v : List Int} (h : VecOk j n v) (e : j ≤ k) : VecOk k n v := ⟨h.1, fun x hx => (h.2 x hx).mono e⟩
theorem chk_vec {n : Nat} {m : Int} {v : List Int} {S : Sto} {Q : QD} {X : XD} (hm : m = n) (hn : n ≤ 3) (h : isV n v = true) (q : Q .non S) : c_check_vector [.int m, VE v] S Q X :=
  ⟨m, _, rfl, okVec_V (by have := (isV_ok h).1; omega), by subst hm; rw [isVD_V, if_pos h]; exact q⟩
def c_coefficients : Ct := fun ds S Q _ => ∃ (R : List (List Int)) (v : List Int), ds = [.tup (R.map VE), VE v] ∧ Bas R ∧ isV R.length v = true ∧ ∀ S', Gr S S' → Q (if Whole R v then VE (wc R v) else .non) S'
/-- coefficients -/
def N_coefficients : List Str := ["basis", "vector"]
def b_coefficients : DB := (DB.cons (DS.expr (DE.call "check_basis" c_check_basis (DA.cons (DE.var 0) DA.nil)))
  (DB.cons (DS.expr (DE.call "check_vector" c_check_vector (DA.cons (DE.len (DA.cons (DE.var 0) DA.nil)) (DA.cons (DE.var 1) DA.nil))))
  (DB.cons (DS.ret (DE.call "whole_coefficients" c_whole_coefficients (DA.cons (DE.var 0) (DA.cons (DE.var 1) DA.nil))))
  DB.nil)))
theorem w_coefficients {ds : List D} {S : Sto} {Q : QD} {X : XD} (h : c_coefficients ds S Q X) : ctOf N_coefficients.length b_coefficients ds S Q X := by
  obtain ⟨R, v, rfl, hR, hv, h⟩ := h
  unfold b_coefficients N_coefficients
  walk_at "wp"
  refine hR.chk ?_
  rw [List.length_map]
  refine chk_vec rfl hR.2.1 hv ⟨R, v, rfl, hR.sq.mono (by omega), (isV_ok hv).mono (by omega), hR.2.2.2, h⟩
def c_product : Ct := fun ds S Q _ => ∃ u v : List Int, ds = [VE u, VE v] ∧ u.length ≤ 1000 ∧ (∀ p ∈ u.zip v, IntMulOk p.1 p.2) ∧ Q (.int (dot u v)) S
/-- product -/
def N_product : List Str := ["one", "other", "x", "y"]
def b_product : DB := (DB.cons (DS.ret (DE.sum (DA.cons (DE.lst (DL.comp [("x", 2), ("y", 3)] (DG.tp (DGs.cons 2 (DGs.cons 3 DGs.nil))) (DI.zip (DE.var 0) (DE.var 1)) DF.no (DE.op .Mult (DE.var 2) (DE.var 3)))) DA.nil)))
  DB.nil)
theorem w_product {ds : List D} {S : Sto} {Q : QD} {X : XD} (h : c_product ds S Q X) : ctOf N_product.length b_product ds S Q X := by
  obtain ⟨u, v, rfl, hl, hm, h⟩ := h
  unfold b_product N_product
  simp only [VE_eq]
  walk_at "wp"
  rw [zipD_map]
  refine ⟨by simp only [List.length_map, List.length_zip]; exact szLe (by omega), compGo_all0 _ (fun p => .int (p.1 * p.2)) (u.zip v) (fun a ha => ⟨_, rfl, fun Qd hq => ?_⟩) ?_⟩
  · walk_at "wp"
    exact ⟨hm a ha, hq⟩
  · rw [show (u.zip v).map (fun p => D.int (p.1 * p.2)) = ((u.zip v).map fun p => p.1 * p.2).map .int by simp]
    exact oSum_l _ _ _ h
theorem prod_call {j k n : Nat} {u v : List Int} {S : Sto} {Q : QD} {X : XD} (hu : VecOk j n u) (hv : ∀ x ∈ v, Sm k x) (hn : n ≤ 1000) (hk : j + k ≤ 999990) (q : Q (.int (dot u v)) S) : c_product [VE u, VE v] S Q X :=
  ⟨u, v, rfl, by rw [hu.1]; exact hn, fun p hp => (hu.2 _ (List.of_mem_zip hp).1).ok (hv _ (List.of_mem_zip hp).2) hk, q⟩
/-! ### the dual rows -/
theorem st_rec' (S J : Sto) (ds : List D) : recD (S ++ .lst ds :: J) "list" (.han S.length) = true := by
  unfold recD
  simp
theorem st_get' (S J : Sto) (o : O) : (S ++ o :: J)[S.length]? = some o := by simp
theorem st_set' (S J : Sto) (o o' : O) : (S ++ o :: J).set S.length o' = S ++ o' :: J := by simp
theorem st_app' (S J : Sto) (ds : List D) (y : D) (Q : QD) (h : ds.length < sizeLine) (q : Q .non (S ++ .lst (ds ++ [y]) :: J)) : oAppend (.han S.length) [y] (S ++ .lst ds :: J) Q :=
  ⟨ds, st_get' _ _ _, h, by rw [st_set']; exact q⟩
theorem seqOf_last (T : Sto) (l : List D) : seqOf (T ++ [.lst l]) (.han T.length) = some l := by
  unfold seqOf tupOf lstOf
  simp
theorem enum_set {R : List (List Int)} {bd : D → Env → Sto → Option Env} (v : List Int) (p : Nat) : (R.zipIdx.map fun q => if q.2 = p then VE v else VE q.1) = (R.set p v).map VE := by
  rw [← zip_set, List.map_map]
  apply List.map_congr_left
  intro q _
  simp only [Function.comp_apply]
  split <;> rfl
theorem unit_ok (n c : Nat) : VecOk 6 n (unitV n c) := by
  refine ⟨by simp [unitV], fun x hx => ?_⟩
  unfold unitV at hx
  obtain ⟨k, _, rfl⟩ := List.mem_map.mp hx
  split <;> exact sm_lit _ (by decide)
theorem drop_next {n p : Nat} {d : D} {ds : List D} (h : d :: ds = ((List.range n).drop p).map (fun i => .int (i : Nat))) : p < n ∧ d = .int (p : Nat) ∧ ds = ((List.range n).drop (p + 1)).map (fun i => .int (i : Nat)) := by
  have hpn : p < n := by
    by_cases e : p < n
    · exact e
    · rw [List.drop_eq_nil_of_le (by simpa using e)] at h; cases h
  rw [List.drop_eq_getElem_cons (by simpa using hpn)] at h
  simp only [List.getElem_range, List.map_cons, List.cons.injEq] at h
  exact ⟨hpn, h.1, h.2⟩
theorem drop_end {n p : Nat} (hp : p ≤ n) (h : [] = ((List.range n).drop p).map (fun i => D.int (i : Nat))) : p = n := by
  by_cases e : p < n
  · rw [List.drop_eq_getElem_cons (by simpa using e)] at h
    cases h
  · omega
def c_dual_rows : Ct := fun ds S Q _ => ∃ R : List (List Int), ds = [.tup (R.map VE)] ∧ SqM 2000 R ∧ ∀ S', Gr S S' → Q (.lst ((dualR R).map VE)) S'
/-- dual_rows -/
def N_dual_rows : List Str := ["basis", "n", "found", "place", "row", "column", "unit", "other", "line"]
def b_dual_rows : DB := (DB.cons (DS.set 1 (DE.len (DA.cons (DE.var 0) DA.nil)))
  (DB.cons (DS.set 2 (DE.thw (DL.dis DA.nil)))
  (DB.cons (DS.for (DG.nm 3) (DI.range1 (DE.var 1)) (DB.cons (DS.set 4 (DE.thw (DL.dis DA.nil)))
  (DB.cons (DS.for (DG.nm 5) (DI.range1 (DE.var 1)) (DB.cons (DS.set 6 (DE.tuple (DA.cons (DE.lst (DL.comp [("other", 7)] (DG.nm 7) (DI.range1 (DE.var 1)) DF.no (DE.int (DA.cons (DE.cmp .Eq (DE.var 7) (DE.var 5)) DA.nil)))) DA.nil)))
  (DB.cons (DS.expr (DE.append (DE.var 4) (DE.call "determinant" c_determinant (DA.cons (DE.lst (DL.comp [("other", 7), ("line", 8)] (DG.tp (DGs.cons 7 (DGs.cons 8 DGs.nil))) (DI.enum (DE.var 0)) DF.no (DE.ite (DT.cmp .Eq (DE.var 7) (DE.var 3)) (DE.var 6) (DE.var 8)))) DA.nil))))
  DB.nil)))
  (DB.cons (DS.expr (DE.append (DE.var 2) (DE.tuple (DA.cons (DE.var 4) DA.nil))))
  DB.nil))))
  (DB.cons (DS.ret (DE.frz 2))
  DB.nil))))
theorem w_dual_rows {ds : List D} {S : Sto} {Q : QD} {X : XD} (h : c_dual_rows ds S Q X) : ctOf N_dual_rows.length b_dual_rows ds S Q X := by
  obtain ⟨R, rfl, hs, h⟩ := h
  have hl := hs.2.1
  unfold b_dual_rows N_dual_rows
  walk_at "wp"
  rw [List.length_map]
  refine ⟨by omega, by omega, ?_⟩
  refine forGo_inv (fun ds env S' => ∃ (p : Nat) (a3 a4 a5 a6 a7 a8 : Option D) (J : Sto), p ≤ R.length ∧ ds = ((List.range R.length).drop p).map (fun i => .int (i : Nat)) ∧
    env = [some (.tup (R.map VE)), some (.int (R.length : Nat)), some (.han S.length), a3, a4, a5, a6, a7, a8] ∧ S' = S ++ .lst (((List.range p).map fun p => (List.range R.length).map fun c => detL (R.set p (unitV R.length c))).map VE) :: J) ?_ ?_ _ _ _ ?_
  · rintro d1 ds1 env1 S1 ⟨p, a3, a4, a5, a6, a7, a8, J, hp, hds, rfl, rfl⟩
    obtain ⟨hpn, rfl, rfl⟩ := drop_next hds
    refine ⟨trivial, _, rfl, fun nx hnx => ?_⟩
    walk_at "wp"
    refine ⟨by omega, by omega, ?_⟩
    generalize hT : S ++ O.lst (((List.range p).map fun p => (List.range R.length).map fun c => detL (R.set p (unitV R.length c))).map VE) :: J = T
    refine forGo_inv (fun ds env S' => ∃ (q : Nat) (a5 a6 a7 a8 : Option D), q ≤ R.length ∧ ds = ((List.range R.length).drop q).map (fun i => .int (i : Nat)) ∧
      env = [some (.tup (R.map VE)), some (.int (R.length : Nat)), some (.han S.length), some (.int (p : Nat)), some (.han T.length), a5, a6, a7, a8] ∧ S' = T ++ [.lst (((List.range q).map fun c => detL (R.set p (unitV R.length c))).map .int)]) ?_ ?_ _ _ _ ?_
    · rintro d2 ds2 env2 S2 ⟨q, a5, a6, a7, a8, hq, hds2, rfl, rfl⟩
      obtain ⟨hqn, rfl, rfl⟩ := drop_next hds2
      refine ⟨trivial, _, rfl, fun nx2 hnx2 => ?_⟩
      walk_at "wp"
      refine ⟨by omega, by omega, ?_⟩
      rw [range_map]
      refine ⟨by simp only [List.length_map, List.length_range]; exact szLe (by omega), compGo_all0 _ (fun (k : Nat) => .int (if k = q then 1 else 0)) (List.range R.length) (fun k hk => ⟨_, rfl, fun Qd hq => ?_⟩) ?_⟩
      · walk_at "wp"
        by_cases e : k = q
        · subst e
          simpa using hq
        · have : ¬ ((k : Int) = q) := by omega
          simpa [e, this] using hq
      walk_at "wp"
      have eu : (List.range R.length).map (fun (k : Nat) => D.int (if k = q then 1 else 0)) = (unitV R.length q).map .int := by simp [unitV]
      rw [eu, enum_map]
      refine ⟨st_rec _ _, by simp only [List.length_map, List.length_zipIdx]; exact szLe (by omega), compGo_all0 _ (fun z => if z.2 = p then VE (unitV R.length q) else VE z.1) R.zipIdx (fun z hz => ⟨_, rfl, fun Qd hq => ?_⟩) ?_⟩
      · walk_at "wp"
        by_cases e : z.2 = p
        · rw [if_pos e] at hq
          rw [if_pos (by omega)]
          exact hq
        · rw [if_neg e] at hq
          rw [if_neg (by omega)]
          exact hq
      rw [enum_set (bd := fun _ _ _ => none)]
      walk_at "wp"
      refine ⟨R.set p (unitV R.length q), _, rfl, .inr rfl, (sq_set hs ((unit_ok _ _).mono (by omega)) p).mono (by omega), ?_⟩
      refine st_app _ _ _ _ (by simp only [List.length_map, List.length_range]; exact szLt (by omega)) ?_
      refine hnx2 _ _ ⟨q + 1, _, _, _, _, by omega, rfl, rfl, ?_⟩
      rw [List.range_succ]
      simp
    · rintro env2 S2 ⟨q, a5, a6, a7, a8, hq, hds2, rfl, rfl⟩
      have := drop_end hq hds2
      subst this
      refine ⟨trivial, ?_⟩
      walk_at "wp"
      subst hT
      have e1 : ∀ (A B C : Sto) (o : O), (A ++ o :: B) ++ C = A ++ o :: (B ++ C) := fun A B C o => by simp
      rw [oTuple_seq (seqOf_last _ _), e1]
      refine ⟨st_rec' _ _ _, st_app' _ _ _ _ _ (by simp only [List.length_map, List.length_range]; exact szLt (by omega)) ?_⟩
      refine hnx _ _ ⟨p + 1, _, _, _, _, _, _, J ++ [.lst (((List.range R.length).map fun c => detL (R.set p (unitV R.length c))).map .int)], by omega, rfl, rfl, ?_⟩
      rw [List.range_succ (n := p), List.map_append, List.map_append]
      rfl
    · exact ⟨0, _, _, _, _, by omega, by simp [rangeD], rfl, rfl⟩
  · rintro env1 S1 ⟨p, a3, a4, a5, a6, a7, a8, J, hp, hds, rfl, rfl⟩
    have := drop_end hp hds
    subst this
    refine ⟨trivial, ?_⟩
    walk_at "wp"
    refine ⟨_, st_get' _ _ _, ?_⟩
    rw [st_set']
    exact h _ ⟨_, rfl⟩
  · exact ⟨0, none, none, none, none, none, none, [], by omega, by simp [rangeD], rfl, rfl⟩
/-! #### FM -/
theorem dual_ok {k : Nat} {R : List (List Int)} (h : SqM k R) (hk : 6 ≤ k) {r : List Int} (hr : r ∈ dualR R) : VecOk (3 * k + 4) R.length r := by
  refine ⟨dual_row hr, fun x hx => ?_⟩
  unfold dualR at hr
  obtain ⟨p, _, rfl⟩ := List.mem_map.mp hr
  obtain ⟨c, _, rfl⟩ := List.mem_map.mp hx
  exact sm_detL (sq_set h ((unit_ok _ _).mono hk) p)
def c_test_vector : Ct := fun ds S Q _ => ∃ (R : List (List Int)) (v : List Int), ds = [.tup (R.map VE), VE v] ∧ Bas R ∧ isV R.length v = true ∧
  ∀ S', Gr S S' → (Whole R v → Q .non S') ∧ ∀ r ∈ dualR R, (dot r v).fmod (detL R) ≠ 0 → Q (.tup ((r.map fun x => rat x (detL R)).map frE)) S'
/-- test_vector -/
def N_test_vector : List Str := ["basis", "vector", "whole", "row", "entry"]
def b_test_vector : DB := (DB.cons (DS.expr (DE.call "check_basis" c_check_basis (DA.cons (DE.var 0) DA.nil)))
  (DB.cons (DS.expr (DE.call "check_vector" c_check_vector (DA.cons (DE.len (DA.cons (DE.var 0) DA.nil)) (DA.cons (DE.var 1) DA.nil))))
  (DB.cons (DS.set 2 (DE.call "determinant" c_determinant (DA.cons (DE.var 0) DA.nil)))
  (DB.cons (DS.for (DG.nm 3) (DI.seq (DE.call "dual_rows" c_dual_rows (DA.cons (DE.var 0) DA.nil))) (DB.cons (DS.iff (DT.cmp .NotEq (DE.op .Mod (DE.call "product" c_product (DA.cons (DE.var 3) (DA.cons (DE.var 1) DA.nil))) (DE.var 2)) (DE.con (.int 0))) (DB.cons (DS.ret (DE.tuple (DA.cons (DE.lst (DL.comp [("entry", 4)] (DG.nm 4) (DI.seq (DE.var 3)) DF.no (DE.call "ratio" c_ratio (DA.cons (DE.var 4) (DA.cons (DE.var 2) DA.nil))))) DA.nil)))
  DB.nil) DB.nil)
  DB.nil))
  (DB.cons (DS.ret (DE.con .non))
  DB.nil)))))
theorem Bas.sqr {R : List (List Int)} (h : Bas R) : Sqr R.length R := ⟨h.1, h.2.1, rfl, fun v hv => (h.2.2.1 v hv).1⟩
theorem w_test_vector {ds : List D} {S : Sto} {Q : QD} {X : XD} (h : c_test_vector ds S Q X) : ctOf N_test_vector.length b_test_vector ds S Q X := by
  obtain ⟨R, v, rfl, hR, hv, h⟩ := h
  have hl := hR.2.1
  have hd := hR.2.2.2
  have hvl := (isV_ok hv).1
  unfold b_test_vector N_test_vector
  walk_at "wp"
  refine hR.chk ?_
  rw [List.length_map]
  refine chk_vec rfl hl hv (hR.det (.inl rfl) ?_)
  walk_at "wp"
  refine ⟨R, rfl, hR.sq.mono (by omega), fun S1 hS => ?_⟩
  obtain ⟨h1, h2⟩ := h S1 hS
  walk_at "wp"
  refine forGo_inv (fun ds env S' => ∃ (pre post : List (List Int)) (a3 a4 : Option D), dualR R = pre ++ post ∧ ds = post.map VE ∧ (∀ r ∈ pre, (dot r v).fmod (detL R) = 0) ∧
    env = [some (.tup (R.map VE)), some (VE v), some (.int (detL R)), a3, a4] ∧ S' = S1) ?_ ?_ _ _ _ ⟨[], dualR R, none, none, rfl, rfl, by simp, rfl, rfl⟩
  · rintro d1 ds1 env1 S2 ⟨pre, post, a3, a4, he, hds, hp, rfl, rfl⟩
    match post, hds with
    | r :: post, hds =>
      simp only [List.map_cons, List.cons.injEq] at hds
      obtain ⟨rfl, rfl⟩ := hds
      refine ⟨trivial, _, rfl, fun nx hnx => ?_⟩
      have hr : r ∈ dualR R := by rw [he]; simp
      have rok := dual_ok hR.sq (by omega) hr
      walk_at "wp"
      refine prod_call rok (isV_ok hv).2 (by omega) (by omega) ?_
      walk_at "wp"
      refine ⟨hd, ?_⟩
      by_cases e : (dot r v).fmod (detL R) = 0
      · simp only [e, decide_true, Bool.not_true, Bool.false_eq_true, if_false]
        exact hnx _ _ ⟨pre ++ [r], post, _, _, by rw [he]; simp, rfl, fun x hx => by
          rcases List.mem_append.mp hx with q | q
          · exact hp x q
          · have : x = r := by simpa using q
            rw [this]; exact e, rfl, rfl⟩
      · simp only [e, decide_false, Bool.not_false, if_true]
        rw [VE_eq]
        walk_at "wp"
        refine ⟨by rw [List.length_map, rok.1]; exact szLe (by omega), compGo_all0 D.int (fun x => frE (rat x (detL R))) r (fun x hx => ⟨_, rfl, fun Qd hq => ?_⟩) ?_⟩
        · walk_at "wp"
          exact ⟨x, detL R, rfl, hd, (sm_detL hR.sq).mono (by omega), hq⟩
        · walk_at "wp"
          have := h2 r hr e
          rwa [List.map_map] at this
  · rintro env1 S2 ⟨pre, post, a3, a4, he, hds, hp, rfl, rfl⟩
    have : post = [] := by simpa using hds.symm
    subst this
    refine ⟨trivial, ?_⟩
    walk_at "wp"
    refine h1 ((whole_dual hR.sqr hvl).mpr fun r hr => hp r ?_)
    rw [he] at hr
    simpa using hr
def FrOk (n : Nat) (fs : List (Int × Int)) : Prop := fs.length = n ∧ ∀ p ∈ fs, 0 < p.2 ∧ Sm 100 p.1 ∧ Sm 100 p.2
def c_is_whole_product : Ct := fun ds S Q _ => ∃ (n : Nat) (fs : List (Int × Int)) (v : List Int), ds = [.tup (fs.map frE), VE v] ∧ 1 ≤ n ∧ n ≤ 3 ∧ FrOk n fs ∧ VecOk 100 n v ∧ Q (.bl (decide (WP fs v))) S
/-- is_whole_product -/
def N_is_whole_product : List Str := ["fractions", "vector", "bottom", "entry", "x"]
def b_is_whole_product : DB := (DB.cons (DS.set 2 (DE.con (.int 1)))
  (DB.cons (DS.for (DG.nm 3) (DI.seq (DE.var 0)) (DB.cons (DS.set 2 (DE.op .Mult (DE.var 2) (DE.ix (DE.var 3) (DE.con (.int 1)))))
  DB.nil))
  (DB.cons (DS.ret (DE.cmp .Eq (DE.op .Mod (DE.sum (DA.cons (DE.lst (DL.comp [("entry", 3), ("x", 4)] (DG.tp (DGs.cons 3 (DGs.cons 4 DGs.nil))) (DI.zip (DE.var 0) (DE.var 1)) DF.no (DE.op .Mult (DE.op .Mult (DE.ix (DE.var 3) (DE.con (.int 0))) (DE.op .FloorDiv (DE.var 2) (DE.ix (DE.var 3) (DE.con (.int 1))))) (DE.var 4)))) DA.nil)) (DE.var 2)) (DE.con (.int 0))))
  DB.nil)))
theorem frE_eq (p : Int × Int) : frE p = .tup [.int p.1, .int p.2] := rfl
theorem frE_p (a b : Int) : frE (a, b) = .tup [.int a, .int b] := rfl
theorem fdS_le {a b : Int} {k : Nat} (h : Sm k a) (hb : 0 < b) : Sm k (a.fdiv b) := by
  have h1 := Int.fdiv_eq_ediv_of_nonneg a (Int.le_of_lt hb)
  rw [h1]
  unfold Sm at *
  have := Int.natAbs_ediv_le_natAbs a b
  omega
theorem w_is_whole_product {ds : List D} {S : Sto} {Q : QD} {X : XD} (h : c_is_whole_product ds S Q X) : ctOf N_is_whole_product.length b_is_whole_product ds S Q X := by
  obtain ⟨n, fs, v, rfl, h1, h3, hf, hv, h⟩ := h
  unfold b_is_whole_product N_is_whole_product
  have hD := den_ne (fs := fs) (fun p hp => by have := (hf.2 p hp).1; omega)
  rcases lenC hf.1 h1 h3 with ⟨⟨a, b⟩, rfl, rfl⟩ | ⟨⟨a, b⟩, ⟨c, d⟩, rfl, rfl⟩ | ⟨⟨a, b⟩, ⟨c, d⟩, ⟨e, f⟩, rfl, rfl⟩
  · obtain ⟨x, rfl⟩ := len1 hv.1
    have hf2 := hf.2
    have hv2 := hv.2
    rw [mem1] at hf2 hv2
    obtain ⟨b0, sa, sb⟩ := hf2
    simp only [List.map_cons, List.map_nil, frE_p, VE_eq]
    walk_at "wp"
    have o1 := mulOk_1 sb (by omega)
    have z := (fdS_le (sm_lit 1 (by decide) |>.mul sb) b0)
    refine ⟨o1, szLe (by simp), sb.div (by omega) (by omega), sa.ok z (by omega), (sa.mul z).ok hv2 (by omega), ?_⟩
    exact oSum_l [_] _ _ ⟨hD, h⟩
  · obtain ⟨x, y, rfl⟩ := len2 hv.1
    have hf2 := hf.2
    have hv2 := hv.2
    rw [mem2] at hf2 hv2
    obtain ⟨⟨b0, sa, sb⟩, d0, sc, sd⟩ := hf2
    simp only [List.map_cons, List.map_nil, frE_p, VE_eq]
    walk_at "wp"
    have o1 := mulOk_1 sb (by omega)
    have t1 := (sm_lit 1 (by decide)).mul sb
    have z1 := fdS_le (t1.mul sd) b0
    have z2 := fdS_le (t1.mul sd) d0
    refine ⟨o1, t1.ok sd (by omega), szLe (by simp), sb.div (by omega) (by omega), sa.ok z1 (by omega), (sa.mul z1).ok hv2.1 (by omega), sd.div (by omega) (by omega), sc.ok z2 (by omega), (sc.mul z2).ok hv2.2 (by omega), ?_⟩
    exact oSum_l [_, _] _ _ ⟨hD, h⟩
  · obtain ⟨x, y, z, rfl⟩ := len3 hv.1
    have hf2 := hf.2
    have hv2 := hv.2
    rw [mem3] at hf2 hv2
    obtain ⟨⟨b0, sa, sb⟩, ⟨d0, sc, sd⟩, f0, se, sf⟩ := hf2
    simp only [List.map_cons, List.map_nil, frE_p, VE_eq]
    walk_at "wp"
    have o1 := mulOk_1 sb (by omega)
    have t1 := (sm_lit 1 (by decide)).mul sb
    have t2 := t1.mul sd
    have z1 := fdS_le (t2.mul sf) b0
    have z2 := fdS_le (t2.mul sf) d0
    have z3 := fdS_le (t2.mul sf) f0
    refine ⟨o1, t1.ok sd (by omega), t2.ok sf (by omega), szLe (by simp), sb.div (by omega) (by omega), sa.ok z1 (by omega), (sa.mul z1).ok hv2.1 (by omega), sd.div (by omega) (by omega), sc.ok z2 (by omega), (sc.mul z2).ok hv2.2.1 (by omega), sf.div (by omega) (by omega), se.ok z3 (by omega), (se.mul z3).ok hv2.2.2 (by omega), ?_⟩
    exact oSum_l [_, _, _] _ _ ⟨hD, h⟩
def toFr : D → Int × Int
  | .tup [.int a, .int b] => (a, b)
  | _ => (0, 1)
def isT (R : List (List Int)) (v : List Int) : D → Bool
  | .tup ds => decide (ds.length = R.length) && ds.all isFr && R.all (fun u => decide (WP (ds.map toFr) u)) && !decide (WP (ds.map toFr) v)
  | _ => false
def okT : D → Prop
  | .tup ds => ds.length ≤ 1000 ∧ ∀ e ∈ ds, okF e ∧ Sm 100 (toFr e).1 ∧ Sm 100 (toFr e).2
  | d => okD d = true
theorem fr_inv {d : D} (h : isFr d = true) : d = frE (toFr d) ∧ 0 < (toFr d).2 := by
  unfold isFr at h
  split at h
  · simp only [Bool.and_eq_true, decide_eq_true_eq] at h
    exact ⟨rfl, h.1⟩
  · cases h
theorem fr_all {ds : List D} (h : ∀ d ∈ ds, isFr d = true) : ds = (ds.map toFr).map frE := by
  rw [List.map_map]
  conv => lhs; rw [← List.map_id ds]
  apply List.map_congr_left
  intro d hd
  exact (fr_inv (h d hd)).1
def c_is_test_vector : Ct := fun ds S Q _ => ∃ (R : List (List Int)) (v : List Int) (d : D), ds = [.tup (R.map VE), VE v, d] ∧ Bas R ∧ isV R.length v = true ∧ okT d ∧ Q (.bl (isT R v d)) S
/-- is_test_vector -/
def N_is_test_vector : List Str := ["basis", "vector", "value", "entry", "row"]
def b_is_test_vector : DB := (DB.cons (DS.expr (DE.call "check_basis" c_check_basis (DA.cons (DE.var 0) DA.nil)))
  (DB.cons (DS.expr (DE.call "check_vector" c_check_vector (DA.cons (DE.len (DA.cons (DE.var 0) DA.nil)) (DA.cons (DE.var 1) DA.nil))))
  (DB.cons (DS.iff (DT.bool (DW.cons (DT.not (DT.val (DE.isTuple (DE.var 2)))) (DW.cons (DT.cmp .NotEq (DE.len (DA.cons (DE.var 2) DA.nil)) (DE.len (DA.cons (DE.var 0) DA.nil))) (DW.one .Or (DT.not (DT.val (DE.all (DA.cons (DE.lst (DL.comp [("entry", 3)] (DG.nm 3) (DI.seq (DE.var 2)) DF.no (DE.call "is_fraction" c_is_fraction (DA.cons (DE.var 3) DA.nil)))) DA.nil)))))))) (DB.cons (DS.ret (DE.con (.bl false)))
  DB.nil) DB.nil)
  (DB.cons (DS.iff (DT.not (DT.val (DE.all (DA.cons (DE.lst (DL.comp [("row", 4)] (DG.nm 4) (DI.seq (DE.var 0)) DF.no (DE.call "is_whole_product" c_is_whole_product (DA.cons (DE.var 2) (DA.cons (DE.var 4) DA.nil))))) DA.nil)))) (DB.cons (DS.ret (DE.con (.bl false)))
  DB.nil) DB.nil)
  (DB.cons (DS.ret (DE.not (DE.call "is_whole_product" c_is_whole_product (DA.cons (DE.var 2) (DA.cons (DE.var 1) DA.nil)))))
  DB.nil)))))
theorem w_is_test_vector {ds : List D} {S : Sto} {Q : QD} {X : XD} (h : c_is_test_vector ds S Q X) : ctOf N_is_test_vector.length b_is_test_vector ds S Q X := by
  obtain ⟨R, v, d, rfl, hR, hv, hd, h⟩ := h
  have hl := hR.2.1
  have h1 := hR.1
  unfold b_is_test_vector N_is_test_vector
  walk_at "wp"
  refine hR.chk ?_
  rw [List.length_map]
  refine chk_vec rfl hl hv ?_
  match d, hd, h with
  | .non, _, h => walk_at "wp"; exact h
  | .bl _, _, h => walk_at "wp"; exact h
  | .int _, _, h => walk_at "wp"; exact h
  | .str _, _, h => walk_at "wp"; exact h
  | .flt _, _, h => walk_at "wp"; exact h
  | .lst _, _, h => walk_at "wp"; exact h
  | .scr _, hd, _ => simp [okT, okD] at hd
  | .han _, hd, _ => simp [okT, okD] at hd
  | .cst _, hd, _ => simp [okT, okD] at hd
  | .tup ds, hd, h =>
    obtain ⟨hds, hd⟩ := hd
    walk_at "wp"
    by_cases e : (ds.length : Int) = R.length
    · have e' : ds.length = R.length := by omega
      simp only [e]
      walk_at "wp"
      refine ⟨szLe (by omega), ?_⟩
      rw [show ds = ds.map id from (List.map_id ds).symm]
      refine compGo_all0 id (fun x => .bl (isFr x)) ds (fun x hx => ⟨_, rfl, fun Qd hq => ?_⟩) ?_
      · walk_at "wp"
        exact ⟨x, rfl, (hd x hx).1, hq⟩
      rw [show ds.map (fun x => D.bl (isFr x)) = (ds.map isFr).map D.bl by simp]
      refine oAll_l _ _ _ ⟨_, rfl, ?_⟩
      simp only [List.map_id]
      by_cases ea : ds.all isFr = true
      · have ea' : ((ds.map isFr).all id) = true := by simpa [List.all_map] using ea
        simp only [ea', Bool.not_true, Bool.false_eq_true, if_false]
        simp only [List.all_eq_true] at ea
        have fk : FrOk R.length (ds.map toFr) := ⟨by rw [List.length_map, e'], fun p hp => by
          obtain ⟨x, hx, rfl⟩ := List.mem_map.mp hp
          exact ⟨(fr_inv (ea x hx)).2, (hd x hx).2⟩⟩
        have ed := fr_all ea
        refine ⟨szLe (by omega), compGo_all0 VE (fun u => .bl (decide (WP (ds.map toFr) u))) R (fun u hu => ⟨_, rfl, fun Qd hq => ?_⟩) ?_⟩
        · walk_at "wp"
          refine ⟨R.length, ds.map toFr, u, by rw [← ed], h1, hl, fk, ⟨(hR.2.2.1 u hu).1, fun x hx => (lim_sm ((hR.2.2.1 u hu).2 x hx)).mono (by omega)⟩, hq⟩
        rw [show R.map (fun u => D.bl (decide (WP (ds.map toFr) u))) = (R.map fun u => decide (WP (ds.map toFr) u)).map D.bl by simp]
        refine oAll_l _ _ _ ⟨_, rfl, ?_⟩
        have eall : ds.all isFr = true := List.all_eq_true.mpr ea
        by_cases ew : R.all (fun u => decide (WP (ds.map toFr) u)) = true
        · have ew' : ((R.map fun u => decide (WP (ds.map toFr) u)).all id) = true := by simpa [List.all_map] using ew
          simp only [ew', Bool.not_true, Bool.false_eq_true, if_false]
          refine ⟨R.length, ds.map toFr, v, by rw [← ed], h1, hl, fk, (isV_ok hv).mono (by omega), ?_⟩
          walk_at "wp"
          simpa [isT, e', eall, ew] using h
        · have ew' : ((R.map fun u => decide (WP (ds.map toFr) u)).all id) = false := by
            rw [Bool.eq_false_iff]; intro q; exact ew (by simpa [List.all_map] using q)
          have ew2 : R.all (fun u => decide (WP (ds.map toFr) u)) = false := by simpa using ew
          simp only [ew', Bool.not_false, if_true]
          have : isT R v (.tup ds) = false := by simp only [isT, ew2, Bool.and_false, Bool.false_and]
          rw [this] at h
          exact h
      · have ea' : ((ds.map isFr).all id) = false := by
          rw [Bool.eq_false_iff]; intro q; exact ea (by simpa [List.all_map] using q)
        have ea2 : ds.all isFr = false := by simpa using ea
        simp only [ea', Bool.not_false, if_true]
        have : isT R v (.tup ds) = false := by simp only [isT, ea2, Bool.and_false, Bool.false_and]
        rw [this] at h
        exact h
    · simp only [e]
      walk_at "wp"
      have e' : ¬ ds.length = R.length := by omega
      have : isT R v (.tup ds) = false := by simp only [isT, e', decide_false, Bool.false_and]
      rw [this] at h
      exact h
/-! #### FN -/
theorem Mat.sqr {n B : Nat} {R : List (List Int)} (h : Mat n B R) (h1 : 1 ≤ n) (h3 : n ≤ 3) : Sqr n R := ⟨h1, h3, h.1, h.len⟩
theorem Mat.bas {n B : Nat} {R : List (List Int)} (h : Mat n B R) (h1 : 1 ≤ n) (h3 : n ≤ 3) (hB : B ≤ 1000000) (hd : detL R ≠ 0) : Bas R :=
  ⟨by rw [h.1]; exact h1, by rw [h.1]; exact h3, fun v hv => ⟨by rw [(h.2 v hv).1, h.1], fun x hx => Nat.le_trans ((h.2 v hv).2 x hx) hB⟩, hd⟩
theorem set_takeI {v : List Int} {k : Nat} (h : k < v.length) (x : Int) : (v.take k).map D.int ++ [D.int x] ++ (v.drop (k + 1)).map D.int = (v.set k x).map D.int := by
  rw [List.set_eq_take_append_cons_drop]
  simp [h]
/-! ### the town, with some draws left -/
def Tw (ns : List Int) (k : Nat) (S : Sto) : Prop := ∃ (c : Nat) (ts : List Int) (J : Sto), S = tw c ts J ∧ ns.length ≤ 63 ∧ ts.length = ns.length ∧ c + k < 1000000
theorem Tw.draw {ns : List Int} {k : Nat} {S : Sto} {limit : Int} {Q : QD} {X : XD} (t : Tw ns (k + 1) S) (h0 : 0 < limit) (hl : limit ≤ 1000000000) (q : ∀ (r : Int) (S' : Sto), 0 ≤ r → r < limit → Tw ns k S' → Q (.int r) S') : c__law_draw [.scr (ns.map .int), .han 0, .int limit] S Q X := by
  obtain ⟨c, ts, J, rfl, a, b, e⟩ := t
  exact draw_call ⟨a, b, by omega⟩ h0 hl fun r ts' r0 r1 h => q r _ r0 r1 ⟨c + 1, ts', J, rfl, a, h, by omega⟩
theorem Tw.gr {ns : List Int} {k : Nat} {S S' : Sto} (t : Tw ns k S) (g : Gr S S') : Tw ns k S' := by
  obtain ⟨c, ts, J, rfl, a, b, e⟩ := t
  obtain ⟨K, rfl⟩ := g
  exact ⟨c, ts, J ++ K, rfl, a, b, e⟩
theorem Tw.mono {ns : List Int} {k j : Nat} {S : Sto} (t : Tw ns k S) (h : j ≤ k) : Tw ns j S := by
  obtain ⟨c, ts, J, rfl, a, b, e⟩ := t
  exact ⟨c, ts, J, rfl, a, b, by omega⟩
theorem Tw.town {ns : List Int} {Q : QD} {X : XD} (hl : ns.length ≤ 63) (q : ∀ S, Tw ns 999999 S → Q (.han 0) S) : c__law_town [.scr (ns.map .int)] [] Q X :=
  ⟨ns, rfl, hl, rfl, q _ ⟨0, ns, [], rfl, hl, rfl, by omega⟩⟩
theorem Tw.pick {ns : List Int} {k : Nat} {S : Sto} {xs : List D} {Q : QD} {X : XD} (t : Tw ns (k + 1) S) (h0 : 0 < xs.length) (hl : xs.length ≤ 1000) (q : ∀ x ∈ xs, ∀ S', Tw ns k S' → Q x S') : c__law_pick [.scr (ns.map .int), .han 0, .lst xs] S Q X := by
  obtain ⟨c, ts, J, rfl, a, b, e⟩ := t
  exact ⟨ns, ts, c, J, xs, rfl, rfl, ⟨a, b, by omega⟩, h0, hl, fun x hx ts' hts => q x hx _ ⟨_, ts', J, rfl, a, hts, by omega⟩⟩
theorem Tw.basis {ns : List Int} {k : Nat} {S : Sto} {most : Nat} {Q : QD} {X : XD} (t : Tw ns (k + 31) S) (h0 : 1 ≤ most) (hl : most ≤ 1000000) (q : ∀ (n : Nat) (R : List (List Int)) (S' : Sto), 1 ≤ n → n ≤ 3 → Mat n most R → detL R ≠ 0 → Tw ns k S' → Q (.tup (R.map VE)) S') : c__law_basis [.scr (ns.map .int), .han 0, .int most] S Q X := by
  obtain ⟨c, ts, J, rfl, a, b, e⟩ := t
  exact ⟨ns, ts, c, J, most, rfl, rfl, ⟨a, b, by omega⟩, h0, hl, fun n R c2 ts2 J2 n1 n3 M hd hc hts => q n R _ n1 n3 M hd ⟨c2, ts2, _, rfl, a, hts, by omega⟩⟩
theorem Tw.basis_in {ns : List Int} {k : Nat} {S : Sto} {n most : Nat} {Q : QD} {X : XD} (t : Tw ns (k + 21) S) (hn1 : 1 ≤ n) (hn3 : n ≤ 3) (h0 : 1 ≤ most) (hl : most ≤ 1000000) (q : ∀ (R : List (List Int)) (S' : Sto), Mat n most R → detL R ≠ 0 → Tw ns k S' → Q (.tup (R.map VE)) S') : c__law_basis_in [.scr (ns.map .int), .han 0, .int n, .int most] S Q X := by
  obtain ⟨c, ts, J, rfl, a, b, e⟩ := t
  exact ⟨ns, ts, c, J, n, most, rfl, rfl, ⟨a, b, by omega⟩, hn1, hn3, h0, hl, fun R c2 ts2 J2 M hd hc hts => q R _ M hd ⟨c2, ts2, _, rfl, a, hts, by omega⟩⟩
theorem Tw.other {ns : List Int} {k : Nat} {S : Sto} {n B : Nat} {R : List (List Int)} {Q : QD} {X : XD} (t : Tw ns (k + 61) S) (hn1 : 1 ≤ n) (hn3 : n ≤ 3) (hM : Mat n B R) (hB : B ≤ 1000) (q : ∀ (T : List (List Int)) (S' : Sto), Mat n (729 * B) T → SameL n R T → Tw ns k S' → Q (.tup (T.map VE)) S') : c__law_other [.scr (ns.map .int), .han 0, .tup (R.map VE)] S Q X := by
  obtain ⟨c, ts, J, rfl, a, b, e⟩ := t
  exact ⟨ns, ts, c, J, n, B, R, rfl, rfl, ⟨a, b, by omega⟩, hn1, hn3, hM, hB, fun T c2 ts2 J2 M hs hc hts => q T _ M hs ⟨c2, ts2, _, rfl, a, hts, by omega⟩⟩
inductive All2 {α β : Type} (P : α → β → Prop) : List α → List β → Prop
  | nil : All2 P [] []
  | cons {a : α} {b : β} {l : List α} {m : List β} : P a b → All2 P l m → All2 P (a :: l) (b :: m)
theorem All2.len {α β : Type} {P : α → β → Prop} {l : List α} {m : List β} (h : All2 P l m) : m.length = l.length := by
  induction h with
  | nil => rfl
  | cons _ _ ih => simp [ih]
theorem All2.mem {α β : Type} {P : α → β → Prop} {l : List α} {m : List β} (h : All2 P l m) : ∀ b ∈ m, ∃ a ∈ l, P a b := by
  induction h with
  | nil => simp
  | cons p _ ih =>
    intro b hb
    rcases List.mem_cons.mp hb with rfl | hb
    · exact ⟨_, List.mem_cons_self, p⟩
    · obtain ⟨a, ha, q⟩ := ih b hb
      exact ⟨a, List.mem_cons_of_mem _ ha, q⟩
/-- a list of values, one draw each -/
theorem compGo_tw {α β : Type} {bd : D → Env → Sto → Option Env} {e : WE} {env : Env} {Q : QL} (enc : α → D) (out : β → D) (P : α → β → Prop) (ns : List Int) (k m : Nat) : ∀ (L : List α) (acc : List D) (S : Sto), Tw ns (k + m * L.length) S →
    (∀ a ∈ L, ∀ j S', Tw ns (j + m) S' → ∃ env', bd (enc a) env S' = some env' ∧ ∀ Qd : QD, (∀ x S'', P a x → Tw ns j S'' → Qd (out x) S'') → e env' S' Qd noX) →
    (∀ (xs : List β) S', All2 P L xs → Tw ns k S' → Q (acc ++ xs.map out) S') → compGo bd wYes e env [] (L.map enc) S acc Q
  | [], acc, S, t, _, hq => ⟨True.intro, by simpa using hq [] S .nil (by simpa using t)⟩
  | a :: L, acc, S, t, h, hq => by
    have t' : Tw ns ((k + m * L.length) + m) S := t.mono (by rw [List.length_cons, Nat.mul_add]; omega)
    obtain ⟨env', hb, he⟩ := h a List.mem_cons_self _ S t'
    refine ⟨True.intro, env', hb, ?_⟩
    show if true = true then e env' S (fun x S2 => compGo bd wYes e env [] (List.map enc L) S2 (acc ++ [x]) Q) noX else compGo bd wYes e env [] (List.map enc L) S acc Q
    rw [if_pos rfl]
    refine he _ fun x S'' hp t'' => compGo_tw enc out P ns k m L _ S'' t'' (fun b hb => h b (List.mem_cons_of_mem _ hb)) fun xs S3 hx t3 => ?_
    have := hq (x :: xs) S3 (.cons hp hx) t3
    simpa using this
/-! ### the law's own judges -/
def c__law_is_whole : Ct := fun ds S Q _ => ∃ (n : Nat) (fs : List (Int × Int)) (v : List Int), ds = [.tup (fs.map frE), VE v] ∧ 1 ≤ n ∧ n ≤ 3 ∧ FrOk n fs ∧ VecOk 100 n v ∧ Q (.bl (decide (WP fs v))) S
/-- _law_is_whole -/
def N__law_is_whole : List Str := ["value", "vector", "top", "bottom", "k"]
def b__law_is_whole : DB := (DB.cons (DS.asg (DG.tp (DGs.cons 2 (DGs.cons 3 DGs.nil))) (DE.tup (DA.cons (DE.con (.int 0)) (DA.cons (DE.con (.int 1)) DA.nil))))
  (DB.cons (DS.for (DG.nm 4) (DI.range1 (DE.len (DA.cons (DE.var 1) DA.nil))) (DB.cons (DS.set 2 (DE.op .Add (DE.op .Mult (DE.var 2) (DE.ix (DE.ix (DE.var 0) (DE.var 4)) (DE.con (.int 1)))) (DE.op .Mult (DE.op .Mult (DE.ix (DE.ix (DE.var 0) (DE.var 4)) (DE.con (.int 0))) (DE.ix (DE.var 1) (DE.var 4))) (DE.var 3))))
  (DB.cons (DS.set 3 (DE.op .Mult (DE.var 3) (DE.ix (DE.ix (DE.var 0) (DE.var 4)) (DE.con (.int 1)))))
  DB.nil)))
  (DB.cons (DS.ret (DE.cmp .Eq (DE.op .Mod (DE.var 2) (DE.var 3)) (DE.con (.int 0))))
  DB.nil)))
theorem FrOk.ne {n : Nat} {fs : List (Int × Int)} (h : FrOk n fs) : ∀ p ∈ fs, p.2 ≠ 0 := fun p hp => by have := (h.2 p hp).1; omega
theorem top_wp {n : Nat} {fs : List (Int × Int)} {v : List Int} (h1 : 1 ≤ n) (h3 : n ≤ 3) (hf : FrOk n fs) (hv : v.length = n) : decide ((topL fs v).1.fmod (topL fs v).2 = 0) = decide (WP fs v) := by
  rw [top_num hf.1 hv h1 h3 hf.ne]; rfl
theorem w__law_is_whole {ds : List D} {S : Sto} {Q : QD} {X : XD} (h : c__law_is_whole ds S Q X) : ctOf N__law_is_whole.length b__law_is_whole ds S Q X := by
  obtain ⟨n, fs, v, rfl, h1, h3, hf, hv, h⟩ := h
  unfold b__law_is_whole N__law_is_whole
  have hD := den_ne hf.ne
  rw [← top_wp h1 h3 hf hv.1] at h
  have hD2 : (topL fs v).2 ≠ 0 := by rw [top_num hf.1 hv.1 h1 h3 hf.ne]; exact hD
  rcases lenC hf.1 h1 h3 with ⟨⟨a, b⟩, rfl, rfl⟩ | ⟨⟨a, b⟩, ⟨c, d⟩, rfl, rfl⟩ | ⟨⟨a, b⟩, ⟨c, d⟩, ⟨e, f⟩, rfl, rfl⟩
  · obtain ⟨x, rfl⟩ := len1 hv.1
    have hf2 := hf.2
    have hv2 := hv.2
    rw [mem1] at hf2 hv2
    obtain ⟨b0, sa, sb⟩ := hf2
    simp only [List.map_cons, List.map_nil, frE_p, VE_eq]
    walk_at "wp"
    refine ⟨by decide, by decide, ?_⟩
    have z0 := sm_lit 0 (by decide)
    have z1 := sm_lit 1 (by decide)
    exact ⟨z0.ok sb (by omega), sa.ok hv2 (by omega), (sa.mul hv2).ok z1 (by omega), z1.ok sb (by omega), hD2, h⟩
  · obtain ⟨x, y, rfl⟩ := len2 hv.1
    have hf2 := hf.2
    have hv2 := hv.2
    rw [mem2] at hf2 hv2
    obtain ⟨⟨b0, sa, sb⟩, d0, sc, sd⟩ := hf2
    simp only [List.map_cons, List.map_nil, frE_p, VE_eq]
    walk_at "wp"
    refine ⟨by decide, by decide, ?_⟩
    have z0 := sm_lit 0 (by decide)
    have z1 := sm_lit 1 (by decide)
    have t1 := (z0.mul sb).add ((sa.mul hv2.1).mul z1)
    have u1 := z1.mul sb
    exact ⟨z0.ok sb (by omega), sa.ok hv2.1 (by omega), (sa.mul hv2.1).ok z1 (by omega), z1.ok sb (by omega), t1.ok sd (by omega), sc.ok hv2.2 (by omega), (sc.mul hv2.2).ok u1 (by omega), u1.ok sd (by omega), hD2, h⟩
  · obtain ⟨x, y, z, rfl⟩ := len3 hv.1
    have hf2 := hf.2
    have hv2 := hv.2
    rw [mem3] at hf2 hv2
    obtain ⟨⟨b0, sa, sb⟩, ⟨d0, sc, sd⟩, f0, se, sf⟩ := hf2
    simp only [List.map_cons, List.map_nil, frE_p, VE_eq]
    walk_at "wp"
    refine ⟨by decide, by decide, ?_⟩
    have z0 := sm_lit 0 (by decide)
    have z1 := sm_lit 1 (by decide)
    have t1 := (z0.mul sb).add ((sa.mul hv2.1).mul z1)
    have u1 := z1.mul sb
    have t2 := (t1.mul sd).add ((sc.mul hv2.2.1).mul u1)
    have u2 := u1.mul sd
    exact ⟨z0.ok sb (by omega), sa.ok hv2.1 (by omega), (sa.mul hv2.1).ok z1 (by omega), z1.ok sb (by omega), t1.ok sd (by omega), sc.ok hv2.2.1 (by omega), (sc.mul hv2.2.1).ok u1 (by omega), u1.ok sd (by omega),
      t2.ok sf (by omega), se.ok hv2.2.2 (by omega), (se.mul hv2.2.2).ok u2 (by omega), u2.ok sf (by omega), hD2, h⟩
def lowF (p : Int × Int) : Bool := decide (0 < p.2) && decide (Int.gcd p.1 p.2 = 1)
theorem isFr_low (p : Int × Int) : isFr (frE p) = lowF p := rfl
def c__law_is_lowest : Ct := fun ds S Q _ => ∃ p : Int × Int, ds = [frE p] ∧ Q (.bl (lowF p)) S
/-- _law_is_lowest -/
def N__law_is_lowest : List Str := ["part", "one", "other"]
def b__law_is_lowest : DB := (DB.cons (DS.par 1 2 (DE.abs (DA.cons (DE.ix (DE.var 0) (DE.con (.int 0))) DA.nil)) (DE.ix (DE.var 0) (DE.con (.int 1))))
  (DB.cons (DS.iff (DT.cmp .Lt (DE.var 2) (DE.con (.int 1))) (DB.cons (DS.ret (DE.con (.bl false)))
  DB.nil) DB.nil)
  (DB.cons (DS.while (DT.cmp .Gt (DE.var 2) (DE.con (.int 0))) (DB.cons (DS.par 1 2 (DE.var 2) (DE.op .Mod (DE.var 1) (DE.var 2)))
  DB.nil))
  (DB.cons (DS.ret (DE.cmp .Eq (DE.var 1) (DE.con (.int 1))))
  DB.nil))))
theorem w__law_is_lowest {ds : List D} {S : Sto} {Q : QD} {X : XD} (h : c__law_is_lowest ds S Q X) : ctOf N__law_is_lowest.length b__law_is_lowest ds S Q X := by
  obtain ⟨⟨a, b⟩, rfl, h⟩ := h
  unfold b__law_is_lowest N__law_is_lowest
  rw [frE_p]
  walk_at "wp"
  by_cases e : b < 1
  · rw [if_pos e]
    have : ¬ 0 < b := by omega
    simpa [lowF, this] using h
  · rw [if_neg e]
    refine while_inv (fun m env S' => ∃ x y : Int, m = y.natAbs ∧ 0 ≤ x ∧ 0 ≤ y ∧ Int.gcd x y = Int.gcd a b ∧ env = [some (.tup [.int a, .int b]), some (.int x), some (.int y)] ∧ S' = S) ?_ ⟨_, b, rfl, by omega, by omega, by simp [Int.gcd], rfl, rfl⟩
    rintro m env S' ⟨x, y, rfl, hx, hy, hg, rfl, rfl⟩ nx hnx
    walk_at "wp"
    by_cases e2 : 0 < y
    · simp only [e2]
      walk_at "wp"
      have := fm_pos x e2
      exact ⟨by omega, hnx _ (fm_abs x (by omega)) _ _ ⟨y, x.fmod y, rfl, hy, this.1, by rw [gcd_fmod, hg], rfl, rfl⟩⟩
    · have : y = 0 := by omega
      subst this
      simp only [e2]
      walk_at "wp"
      rw [Int.gcd_zero_right] at hg
      have e3 : x = 1 ↔ Int.gcd a b = 1 := by rw [← hg]; omega
      have e4 : 0 < b := by omega
      simpa [lowF, e3, e4] using h
def c__law_is_test : Ct := fun ds S Q _ => ∃ (n : Nat) (R : List (List Int)) (v : List Int) (fs : List (Int × Int)), ds = [.tup (R.map VE), VE v, .tup (fs.map frE)] ∧ 1 ≤ n ∧ n ≤ 3 ∧ FrOk n fs ∧ R.length ≤ 3 ∧ (∀ u ∈ R, VecOk 100 n u) ∧ VecOk 100 n v ∧
  Q (.bl (fs.all lowF && R.all (fun u => decide (WP fs u)) && !decide (WP fs v))) S
/-- _law_is_test -/
def N__law_is_test : List Str := ["basis", "vector", "value", "part", "row"]
def b__law_is_test : DB := (DB.cons (DS.iff (DT.cmp .NotEq (DE.lst (DL.comp [("part", 3)] (DG.nm 3) (DI.seq (DE.var 2)) (DF.one (DT.not (DT.val (DE.call "_law_is_lowest" c__law_is_lowest (DA.cons (DE.var 3) DA.nil))))) (DE.var 3))) (DE.lst (DL.dis DA.nil))) (DB.cons (DS.ret (DE.con (.bl false)))
  DB.nil) DB.nil)
  (DB.cons (DS.ret (DE.bool (DV.cons (DE.cmp .Eq (DE.lst (DL.comp [("row", 4)] (DG.nm 4) (DI.seq (DE.var 0)) (DF.one (DT.not (DT.val (DE.call "_law_is_whole" c__law_is_whole (DA.cons (DE.var 2) (DA.cons (DE.var 4) DA.nil)))))) (DE.var 4))) (DE.lst (DL.dis DA.nil))) (DV.one .And (DE.not (DE.call "_law_is_whole" c__law_is_whole (DA.cons (DE.var 2) (DA.cons (DE.var 1) DA.nil))))))))
  DB.nil))
theorem filt_nil {α : Type} [DecidableEq α] {l : List α} {p : α → Bool} : decide (l.filter (fun x => !p x) = []) = l.all p := by
  rw [Bool.eq_iff_iff]
  simp [List.filter_eq_nil_iff, List.all_eq_true]
def eF : Enc (Int × Int) := ⟨frE, fun p => .tuple [.int p.1, .int p.2], 1, fun _ => rfl, fun _ => rfl, fun _ => Nat.le_refl _, fun a b => by
  obtain ⟨a1, a2⟩ := a
  obtain ⟨b1, b2⟩ := b
  show PyData.eqvAll [.int a1, .int a2] [.int b1, .int b2] = _
  have := eI.eqs [a1, a2] [b1, b2]
  simp only [eI, List.map_cons, List.map_nil] at this
  rw [this]
  simp⟩
theorem w__law_is_test {ds : List D} {S : Sto} {Q : QD} {X : XD} (h : c__law_is_test ds S Q X) : ctOf N__law_is_test.length b__law_is_test ds S Q X := by
  obtain ⟨n, R, v, fs, rfl, h1, h3, hf, hl, hR, hv, h⟩ := h
  unfold b__law_is_test N__law_is_test
  walk_at "wp"
  refine ⟨by rw [List.length_map, hf.1]; exact szLe (by omega), compGo_map0 frE (fun p => !lowF p) frE fs (fun p hp => ⟨_, rfl, fun Qb hq => ?_, fun _ Qd hq => ?_⟩) ?_⟩
  · walk_at "wp"
    refine ⟨p, rfl, ?_⟩
    walk_at "wp"
    exact hq
  · walk_at "wp"
    exact hq
  refine oNe_L eF (by decide) _ [] _ _ ⟨_, rfl, ?_⟩
  rw [filt_nil]
  cases e : fs.all lowF with
  | false =>
    rw [e] at h
    simpa using h
  | true =>
    rw [e] at h
    simp only [Bool.not_true, Bool.false_eq_true, if_false]
    refine ⟨by rw [List.length_map]; exact szLe (by omega), compGo_map0 VE (fun u => !decide (WP fs u)) VE R (fun u hu => ⟨_, rfl, fun Qb hq => ?_, fun _ Qd hq => ?_⟩) ?_⟩
    · walk_at "wp"
      refine ⟨n, fs, u, rfl, h1, h3, hf, hR u hu, ?_⟩
      walk_at "wp"
      exact hq
    · walk_at "wp"
      exact hq
    refine oEq_Ml _ [] _ _ ⟨_, rfl, ?_⟩
    rw [filt_nil]
    cases e2 : R.all (fun u => decide (WP fs u)) with
    | false =>
      rw [e2] at h
      simpa using h
    | true =>
      rw [e2] at h
      simp only [if_true]
      refine ⟨n, fs, v, rfl, h1, h3, hf, hv, ?_⟩
      walk_at "wp"
      simpa using h
theorem compGo_mapD {bd : D → Env → Sto → Option Env} {t : WT} {e : WE} {env : Env} {src : Src} {S : Sto} {Q : QL} (P : D → Bool) (g : D → D) (hs : srcOk src S) (L : List D) (acc : List D)
    (h : ∀ a ∈ L, ∃ env', bd a env S = some env' ∧ (∀ Qb : QB, Qb (P a) S → t env' S Qb noX) ∧ (P a = true → ∀ Qd : QD, Qd (g a) S → e env' S Qd noX)) (hq : Q (acc ++ (L.filter P).map g) S) : compGo bd t e env src L S acc Q := by
  have := compGo_map (bd := bd) (t := t) (e := e) (env := env) (src := src) (S := S) (Q := Q) id P g hs L acc h hq
  rwa [List.map_id] at this
theorem lstX_last (T : Sto) (l : List D) : lstX (T ++ [.lst l]) (.han T.length) = some l := by
  unfold lstX
  simp
theorem srcOk_last (T : Sto) (l : List D) : srcOk (srcOf (.han T.length) l) (T ++ [.lst l]) := by
  unfold srcOf
  simp [srcOk]
theorem okT_half : okT (D.tup [D.tup [D.int 1, D.int 2], D.tup [D.int 0, D.int 1]]) := by
  have lit : ∀ a : Int, a.natAbs < 64 → Sm 100 a := fun a ha => (sm_lit a ha).mono (by omega)
  simp [okT, okF, okD, toFr]
  repeat' (first | apply And.intro | exact lit _ (by decide))
def c__law_others_are_rejected : Ct := fun ds S Q _ => ds = [] ∧ ∀ S', Gr S S' → Q (.bl true) S'
/-- _law_others_are_rejected -/
def N__law_others_are_rejected : List Str := ["flat", "half", "bads", "bad"]
def b__law_others_are_rejected : DB := (DB.cons (DS.asg (DG.tp (DGs.cons 0 (DGs.cons 1 DGs.nil))) (DE.tup (DA.cons (DE.tup (DA.cons (DE.tup (DA.cons (DE.con (.int 2)) (DA.cons (DE.con (.int 0)) DA.nil))) (DA.cons (DE.tup (DA.cons (DE.con (.int 0)) (DA.cons (DE.con (.int 2)) DA.nil))) DA.nil))) (DA.cons (DE.tup (DA.cons (DE.tup (DA.cons (DE.con (.int 1)) (DA.cons (DE.con (.int 2)) DA.nil))) (DA.cons (DE.tup (DA.cons (DE.con (.int 0)) (DA.cons (DE.con (.int 1)) DA.nil))) DA.nil))) DA.nil))))
  (DB.cons (DS.set 2 (DE.thw (DL.dis (DA.cons (DE.con .non) (DA.cons (DE.con (.int 5)) (DA.cons (DE.tup DA.nil) (DA.cons (DE.tup (DA.cons (DE.tup (DA.cons (DE.con (.int 1)) (DA.cons (DE.con (.int 2)) DA.nil))) DA.nil)) (DA.cons (DE.lst (DL.dis (DA.cons (DE.tup (DA.cons (DE.con (.int 1)) (DA.cons (DE.con (.int 2)) DA.nil))) (DA.cons (DE.tup (DA.cons (DE.con (.int 0)) (DA.cons (DE.con (.int 1)) DA.nil))) DA.nil)))) (DA.cons (DE.tup (DA.cons (DE.tup (DA.cons (DE.con (.int 1)) (DA.cons (DE.con (.int 2)) DA.nil))) (DA.cons (DE.con (.int 0)) DA.nil))) (DA.cons (DE.tup (DA.cons (DE.tup (DA.cons (DE.con (.int 1)) (DA.cons (DE.con (.int 2)) DA.nil))) (DA.cons (DE.lst (DL.dis (DA.cons (DE.con (.int 0)) (DA.cons (DE.con (.int 1)) DA.nil)))) DA.nil))) (DA.cons (DE.tup (DA.cons (DE.tup (DA.cons (DE.con (.int 1)) (DA.cons (DE.con (.int 2)) DA.nil))) (DA.cons (DE.tup (DA.cons (DE.con (.int 0)) (DA.cons (DE.con (.int 2)) DA.nil))) DA.nil))) DA.nil)))))))))))
  (DB.cons (DS.expr (DE.append (DE.var 2) (DE.tup (DA.cons (DE.tup (DA.cons (DE.con (.int 1)) (DA.cons (DE.con (.int 2)) DA.nil))) (DA.cons (DE.tup (DA.cons (DE.con (.int 0)) (DA.cons (DE.con (.int 1)) DA.nil))) (DA.cons (DE.tup (DA.cons (DE.con (.int 0)) (DA.cons (DE.con (.int 1)) DA.nil))) DA.nil))))))
  (DB.cons (DS.set 2 (DE.thw (DL.cat (DE.var 2) (DE.lst (DL.dis (DA.cons (DE.tup (DA.cons (DE.tup (DA.cons (DE.neg (DE.con (.int 1))) (DA.cons (DE.neg (DE.con (.int 2))) DA.nil))) (DA.cons (DE.tup (DA.cons (DE.con (.int 0)) (DA.cons (DE.con (.int 1)) DA.nil))) DA.nil))) (DA.cons (DE.tup (DA.cons (DE.tup (DA.cons (DE.con (.int 1)) (DA.cons (DE.con (.int 2)) DA.nil))) (DA.cons (DE.tup (DA.cons (DE.con (.int 0)) (DA.cons (DE.con (.bl true)) DA.nil))) DA.nil))) (DA.cons (DE.tup (DA.cons (DE.tup (DA.cons (DE.con (.bl true)) (DA.cons (DE.con (.int 2)) DA.nil))) (DA.cons (DE.tup (DA.cons (DE.con (.int 0)) (DA.cons (DE.con (.int 1)) DA.nil))) DA.nil))) (DA.cons (DE.tup (DA.cons (DE.tup (DA.cons (DE.con (.int 1)) (DA.cons (DE.con (.int 3)) DA.nil))) (DA.cons (DE.tup (DA.cons (DE.con (.int 0)) (DA.cons (DE.con (.int 1)) DA.nil))) DA.nil))) (DA.cons (DE.con (.str "ab")) DA.nil))))))))))
  (DB.cons (DS.expr (DE.append (DE.var 2) (DE.tup (DA.cons (DE.tup (DA.cons (DE.con (.int 1)) (DA.cons (DE.con (.int 0)) DA.nil))) (DA.cons (DE.tup (DA.cons (DE.con (.int 0)) (DA.cons (DE.con (.int 1)) DA.nil))) DA.nil)))))
  (DB.cons (DS.iff (DT.cmp .IsNot (DE.call "is_test_vector" c_is_test_vector (DA.cons (DE.var 0) (DA.cons (DE.tup (DA.cons (DE.con (.int 1)) (DA.cons (DE.con (.int 0)) DA.nil))) (DA.cons (DE.var 1) DA.nil)))) (DE.con (.bl true))) (DB.cons (DS.ret (DE.con (.bl false)))
  DB.nil) DB.nil)
  (DB.cons (DS.ret (DE.cmp .Eq (DE.lst (DL.comp [("bad", 3)] (DG.nm 3) (DI.seq (DE.var 2)) (DF.one (DT.cmp .IsNot (DE.call "is_test_vector" c_is_test_vector (DA.cons (DE.var 0) (DA.cons (DE.tup (DA.cons (DE.con (.int 1)) (DA.cons (DE.con (.int 0)) DA.nil))) (DA.cons (DE.var 3) DA.nil)))) (DE.con (.bl false)))) (DE.var 3))) (DE.lst (DL.dis DA.nil))))
  DB.nil)))))))
theorem w__law_others_are_rejected {ds : List D} {S : Sto} {Q : QD} {X : XD} (h : c__law_others_are_rejected ds S Q X) : ctOf N__law_others_are_rejected.length b__law_others_are_rejected ds S Q X := by
  obtain ⟨rfl, h⟩ := h
  unfold b__law_others_are_rejected N__law_others_are_rejected
  walk_at "wp"
  refine ⟨st_rec _ _, st_app _ _ _ _ (szLt (by simp)) ⟨_, lstX_last _ _, szLe (by simp), st_rec _ _, st_app _ _ _ _ (szLt (by simp)) ?_⟩⟩
  have bas : Bas [[2, 0], [0, 2]] := by decide +kernel
  have hv : isV (([[2, 0], [0, 2]] : List (List Int)).length : Nat) [1, 0] = true := by decide +kernel
  refine ⟨[[2, 0], [0, 2]], [1, 0], _, rfl, bas, hv, okT_half, ?_⟩
  rw [show isT [[2, 0], [0, 2]] [1, 0] (D.tup [D.tup [D.int 1, D.int 2], D.tup [D.int 0, D.int 1]]) = true by decide +kernel]
  walk_at "wp"
  refine ⟨_, seqOf_last _ _, szLe (by simp), ?_⟩
  refine compGo_mapD (fun _ => false) id (srcOk_last _ _) _ [] (fun x hx => ⟨_, rfl, fun Qb hq => ?_, fun h => by cases h⟩) ?_
  · walk_at "wp"
    have key : okT x ∧ isT [[2, 0], [0, 2]] [1, 0] x = false := by
      have lit : ∀ a : Int, a.natAbs < 64 → Sm 100 a := fun a ha => (sm_lit a ha).mono (by omega)
      simp only [List.cons_append, List.nil_append, List.mem_cons, List.not_mem_nil, or_false] at hx
      rcases hx with rfl | rfl | rfl | rfl | rfl | rfl | rfl | rfl | rfl | rfl | rfl | rfl | rfl | rfl | rfl <;>
        refine ⟨?_, by decide +kernel⟩ <;>
        simp [okT, okF, okD, toFr] <;> (try (repeat' (first | apply And.intro | exact lit _ (by decide))))
    refine ⟨[[2, 0], [0, 2]], [1, 0], _, rfl, bas, hv, key.1, ?_⟩
    rw [key.2]
    walk_at "wp"
    exact hq
  · refine oEq_L eI (by decide) [] [] _ _ ?_
    rw [List.append_assoc]
    exact h _ ⟨_, rfl⟩
theorem sum_bd : ∀ (l : List Int) (B : Nat), (∀ x ∈ l, x.natAbs ≤ B) → l.sum.natAbs ≤ l.length * B
  | [], B, _ => by simp
  | a :: l, B, h => by
    have h1 := h a List.mem_cons_self
    have h2 := sum_bd l B fun x hx => h x (List.mem_cons_of_mem _ hx)
    rw [List.sum_cons, List.length_cons, Nat.add_mul]
    omega
theorem gt_bd {v : List Int} {B : Nat} (h : Bd B v) (i : Nat) : (gt v i).natAbs ≤ B := by
  by_cases e : i < v.length
  · rw [gt_lt e]; exact h _ (List.getElem_mem e)
  · rw [gt_ge (by omega)]; simp
theorem mix_bd {f : List Int} {R : List (List Int)} {a b : Nat} (hf : Bd a f) (hR : ∀ v ∈ R, Bd b v) : Bd (R.length * (a * b)) (mixV f R) := by
  intro x hx
  unfold mixV at hx
  obtain ⟨j, _, rfl⟩ := List.mem_map.mp hx
  have := sum_bd ((List.range R.length).map fun k => gt f k * gt (row R k) j) (a * b) (fun y hy => by
    obtain ⟨k, hk, rfl⟩ := List.mem_map.mp hy
    rw [Int.natAbs_mul]
    have hk' : k < R.length := by simpa using hk
    refine Nat.mul_le_mul (gt_bd hf k) (gt_bd ?_ j)
    rw [row_lt hk']
    exact hR _ (List.getElem_mem hk'))
  simpa using this
theorem mix_len (f : List Int) (R : List (List Int)) : (mixV f R).length = R.length := by simp [mixV]
theorem mix_wc {n : Nat} {R : List (List Int)} {f : List Int} (hR : Sqr n R) (hf : f.length = n) (hd : detL R ≠ 0) : wc R (mixV f R) = f ∧ Lat n R (mixV f R) := by
  rcases hR.cases with ⟨rfl, a, rfl⟩ | ⟨rfl, a, b, c, d, rfl⟩ | ⟨rfl, a, b, c, d, e, f, g, h, i, rfl⟩
  · obtain ⟨k, rfl⟩ := len1 hf
    have e : mixV [k] [[a]] = [k * a] := by simp [mixV, gt, row, List.range_succ]
    rw [e]
    exact ⟨wc1 hd, lat1.mpr ⟨k, rfl⟩⟩
  · obtain ⟨k, l, rfl⟩ := len2 hf
    have e : mixV [k, l] [[a, b], [c, d]] = [k * a + l * c, k * b + l * d] := by simp [mixV, gt, row, List.range_succ]
    rw [e]
    exact ⟨wc2 hd, lat2.mpr ⟨k, l, rfl, rfl⟩⟩
  · obtain ⟨k, l, m, rfl⟩ := len3 hf
    have e : mixV [k, l, m] [[a, b, c], [d, e, f], [g, h, i]] = [k * a + l * d + m * g, k * b + l * e + m * h, k * c + l * f + m * i] := by
      simp [mixV, gt, row, List.range_succ]
      omega
    rw [e]
    exact ⟨wc3 hd, lat3.mpr ⟨k, l, m, rfl, rfl, rfl⟩⟩
theorem Bd.vec {n : Nat} {v : List Int} {B k : Nat} (hl : v.length = n) (h : Bd B v) (hk : B < 2 ^ k) : VecOk k n v := ⟨hl, fun x hx => Sm.of k (h x hx) hk⟩
theorem wc_sm {R : List (List Int)} {v : List Int} (hR : Bas R) (hv : VecOk 20 R.length v) : VecOk 70 R.length (wc R v) := by
  refine ⟨wc_len R v, fun x hx => ?_⟩
  unfold wc at hx
  obtain ⟨y, hy, rfl⟩ := List.mem_map.mp hx
  unfold sol at hy
  obtain ⟨k, hk, rfl⟩ := List.mem_map.mp hy
  have s1 := sm_detL (sq_set hR.sq hv k)
  have s2 := fd_le2 (detL (R.set k v)) hR.2.2.2
  have s3 := sm_detL hR.sq
  unfold Sm at s1 s3 ⊢
  omega
theorem all_len {α : Type} {P : α → Int → Prop} {B : Nat} {L : List α} {xs : List Int} (h : All2 P L xs) (hb : ∀ a ∈ L, ∀ x, P a x → x.natAbs ≤ B) : xs.length = L.length ∧ Bd B xs :=
  ⟨h.len, fun x hx => let ⟨a, ha, p⟩ := h.mem x hx; hb a ha x p⟩
/-! #### MI -/
/-! products, the dual grid -/
theorem dot_nil (v : List Int) : dot [] v = 0 := rfl
theorem dot_cons (a b : Int) (u v : List Int) : dot (a :: u) (b :: v) = a * b + dot u v := by simp [dot]
theorem dot_nil_r (u : List Int) : dot u [] = 0 := by simp [dot]
theorem dot_comm : ∀ (u v : List Int), dot u v = dot v u
  | [], v => by rw [dot_nil, dot_nil_r]
  | a :: u, [] => by rw [dot_nil, dot_nil_r]
  | a :: u, b :: v => by rw [dot_cons, dot_cons, dot_comm u v, Int.mul_comm]
theorem plusV_cons (a b k : Int) (u v : List Int) : plusV (a :: u) k (b :: v) = (a + k * b) :: plusV u k v := rfl
theorem dot_plus : ∀ (b u v : List Int) (k : Int), u.length = v.length → dot b (plusV u k v) = dot b u + k * dot b v
  | [], u, v, k, _ => by simp [dot_nil]
  | b :: bs, [], [], k, _ => by simp [plusV, dot_nil_r]
  | b :: bs, x :: u, y :: v, k, h => by
    rw [plusV_cons, dot_cons, dot_cons, dot_cons, dot_plus bs u v k (by simpa using h)]
    grind
theorem dot_zero : ∀ (b : List Int) (m : Nat), dot b (List.replicate m 0) = 0
  | [], m => rfl
  | b :: bs, 0 => by simp [dot_nil_r]
  | b :: bs, m + 1 => by rw [List.replicate_succ, dot_cons, dot_zero bs m]; simp
def smul (k : Int) (v : List Int) : List Int := v.map fun x => k * x
theorem smul_len (k : Int) (v : List Int) : (smul k v).length = v.length := by simp [smul]
theorem gt_smul (k : Int) (v : List Int) (i : Nat) : gt (smul k v) i = k * gt v i := by
  by_cases h : i < v.length
  · rw [gt_lt (by rw [smul_len]; exact h), gt_lt h]; simp [smul]
  · rw [gt_ge (by rw [smul_len]; omega), gt_ge (by omega)]; simp
theorem dot_smul : ∀ (u v : List Int) (k : Int), dot u (smul k v) = k * dot u v
  | [], v, k => by simp [dot_nil]
  | a :: u, [], k => by simp [smul, dot_nil_r]
  | a :: u, b :: v, k => by
    show dot (a :: u) ((k * b) :: smul k v) = _
    rw [dot_cons, dot_cons, dot_smul u v k]
    grind
theorem dot_smul_l (u v : List Int) (k : Int) : dot (smul k u) v = k * dot u v := by rw [dot_comm, dot_smul, dot_comm]
/-- what divides on generators divides on the grid -/
theorem dl_lat {n : Nat} {R : List (List Int)} (hR : Len n R) {W : Int} {v : List Int} (h : ∀ r ∈ R, W ∣ dot r v) {b : List Int} (hb : Lat n R b) : W ∣ dot b v := by
  induction hb with
  | zero => rw [dot_comm, dot_zero]; exact Int.dvd_zero _
  | add k hb hr ih =>
    rename_i u r
    rw [dot_comm, dot_plus _ _ _ _ (by rw [hb.len hR, hR _ hr]), dot_comm v u, dot_comm v r]
    exact Int.dvd_add ih (Int.dvd_mul_of_dvd_right (h _ hr))
theorem dl_same {n : Nat} {R T : List (List Int)} (hR : Len n R) (hT : Len n T) (e : SameL n R T) {W : Int} {v : List Int} : (∀ r ∈ R, W ∣ dot r v) ↔ ∀ r ∈ T, W ∣ dot r v :=
  ⟨fun h r hr => dl_lat hR h ((e r).mpr (Lat.of_mem hr (hT r hr))), fun h r hr => dl_lat hT h ((e r).mp (Lat.of_mem hr (hR r hr)))⟩
theorem fm_dvd {x d : Int} (hd : d ≠ 0) : x.fmod d = 0 ↔ d ∣ x := by
  rw [fm0_iff hd]
  constructor
  · rintro ⟨k, rfl⟩; exact ⟨k, by rw [Int.mul_comm]⟩
  · rintro ⟨k, rfl⟩; exact ⟨k, by rw [Int.mul_comm]⟩
theorem lat_dual {n : Nat} {R : List (List Int)} {v : List Int} (hR : Sqr n R) (hv : v.length = n) (hd : detL R ≠ 0) : Lat n R v ↔ ∀ r ∈ dualR R, detL R ∣ dot r v := by
  rw [← whole_iff hR hv hd, whole_dual hR hv]
  constructor
  · intro h r hr; exact (fm_dvd hd).mp (h r hr)
  · intro h r hr; exact (fm_dvd hd).mpr (h r hr)
theorem dual_sqr {n : Nat} {R : List (List Int)} (hR : Sqr n R) : Sqr n (dualR R) := ⟨hR.1, hR.2.1, by rw [dual_len, hR.2.2.1], fun r hr => by rw [dual_row hr, hR.2.2.1]⟩
/-- the rows and the dual rows -/
theorem dual_dot {n : Nat} {R : List (List Int)} (hR : Sqr n R) {i j : Nat} (hi : i < n) (hj : j < n) : dot (row R j) (row (dualR R) i) = if i = j then detL R else 0 := by
  rcases hR.cases with ⟨rfl, a, rfl⟩ | ⟨rfl, a, b, c, d, rfl⟩ | ⟨rfl, a, b, c, d, e, f, g, h, k, rfl⟩
  · have : i = 0 := by omega
    have : j = 0 := by omega
    subst i j
    simp [dual1, row, dot, detL]
  · rw [dual2]
    have : i = 0 ∨ i = 1 := by omega
    have : j = 0 ∨ j = 1 := by omega
    rcases ‹i = 0 ∨ i = 1› with rfl | rfl <;> rcases ‹j = 0 ∨ j = 1› with rfl | rfl <;> simp [row, dot, detL] <;> grind
  · rw [dual3]
    have : i = 0 ∨ i = 1 ∨ i = 2 := by omega
    have : j = 0 ∨ j = 1 ∨ j = 2 := by omega
    rcases ‹i = 0 ∨ i = 1 ∨ i = 2› with rfl | rfl | rfl <;> rcases ‹j = 0 ∨ j = 1 ∨ j = 2› with rfl | rfl | rfl <;> simp [row, dot, detL] <;> grind
theorem gt_mix {n : Nat} {R : List (List Int)} (hR : R.length = n) (f : List Int) {j : Nat} (hj : j < n) : gt (mixV f R) j = ((List.range n).map fun k => gt f k * gt (row R k) j).sum := by
  unfold mixV
  rw [hR, gt_lt (by simpa using hj)]
  simp
theorem lat_mix {n : Nat} {R : List (List Int)} {f : List Int} (hR : Sqr n R) (hf : f.length = n) : Lat n R (mixV f R) := by
  rcases hR.cases with ⟨rfl, a, rfl⟩ | ⟨rfl, a, b, c, d, rfl⟩ | ⟨rfl, a, b, c, d, e, f, g, h, i, rfl⟩
  · obtain ⟨k, rfl⟩ := len1 hf
    have e : mixV [k] [[a]] = [k * a] := by simp [mixV, gt, row, List.range_succ]
    rw [e]
    exact lat1.mpr ⟨k, rfl⟩
  · obtain ⟨k, l, rfl⟩ := len2 hf
    have e : mixV [k, l] [[a, b], [c, d]] = [k * a + l * c, k * b + l * d] := by simp [mixV, gt, row, List.range_succ]
    rw [e]
    exact lat2.mpr ⟨k, l, rfl, rfl⟩
  · obtain ⟨k, l, m, rfl⟩ := len3 hf
    have e : mixV [k, l, m] [[a, b, c], [d, e, f], [g, h, i]] = [k * a + l * d + m * g, k * b + l * e + m * h, k * c + l * f + m * i] := by
      simp [mixV, gt, row, List.range_succ]
      omega
    rw [e]
    exact lat3.mpr ⟨k, l, m, rfl, rfl, rfl⟩
theorem lat_ex {n : Nat} {R : List (List Int)} {v : List Int} (hR : Sqr n R) (h : Lat n R v) : ∃ f : List Int, f.length = n ∧ v = mixV f R := by
  have hv := h.len hR.2.2.2
  rcases hR.cases with ⟨rfl, a, rfl⟩ | ⟨rfl, a, b, c, d, rfl⟩ | ⟨rfl, a, b, c, d, e, f, g, h, i, rfl⟩
  · obtain ⟨x, rfl⟩ := len1 hv
    obtain ⟨k, rfl⟩ := lat1.mp h
    exact ⟨[k], rfl, by simp [mixV, gt, row, List.range_succ]⟩
  · obtain ⟨x, y, rfl⟩ := len2 hv
    obtain ⟨k, l, rfl, rfl⟩ := lat2.mp h
    exact ⟨[k, l], rfl, by simp [mixV, gt, row, List.range_succ]⟩
  · obtain ⟨x, y, z, rfl⟩ := len3 hv
    obtain ⟨k, l, m, rfl, rfl, rfl⟩ := lat3.mp ‹Lat 3 _ _›
    exact ⟨[k, l, m], rfl, by simp [mixV, gt, row, List.range_succ]; omega⟩
theorem mixV_len (f : List Int) (R : List (List Int)) : (mixV f R).length = R.length := by simp [mixV]
/-- Cramer, by rows -/
theorem cramV {n : Nat} {R : List (List Int)} {v : List Int} (hR : Sqr n R) (hv : v.length = n) : smul (detL R) v = mixV (sol R v) R := by
  rcases hR.cases with ⟨rfl, a, rfl⟩ | ⟨rfl, a, b, c, d, rfl⟩ | ⟨rfl, a, b, c, d, e, f, g, h, i, rfl⟩
  · obtain ⟨x, rfl⟩ := len1 hv
    rw [sol1]
    simp [mixV, gt, row, List.range_succ, smul, detL, Int.mul_comm]
  · obtain ⟨x, y, rfl⟩ := len2 hv
    rw [sol2]
    simp [mixV, gt, row, List.range_succ, smul, detL]
    constructor <;> grind
  · obtain ⟨x, y, z, rfl⟩ := len3 hv
    rw [sol3]
    obtain ⟨e1, e2, e3⟩ := cram3 a b c d e f g h i x y z
    simp only [mixV, gt, row, List.range_succ, smul, List.map_cons, List.map_nil, List.length_cons, List.length_nil]
    simp
    refine ⟨?_, ?_, ?_⟩
    · rw [e1]; omega
    · rw [e2]; omega
    · rw [e3]; omega
/-- Cramer, by columns -/
theorem cramT {n : Nat} {R : List (List Int)} {v : List Int} (hR : Sqr n R) (hv : v.length = n) : smul (detL R) v = mixV (R.map fun r => dot r v) (dualR R) := by
  rcases hR.cases with ⟨rfl, a, rfl⟩ | ⟨rfl, a, b, c, d, rfl⟩ | ⟨rfl, a, b, c, d, e, f, g, h, i, rfl⟩
  · obtain ⟨x, rfl⟩ := len1 hv
    rw [dual1]
    simp [mixV, gt, row, List.range_succ, smul, detL, dot]
  · obtain ⟨x, y, rfl⟩ := len2 hv
    rw [dual2]
    simp [mixV, gt, row, List.range_succ, smul, detL, dot]
    constructor <;> grind
  · obtain ⟨x, y, z, rfl⟩ := len3 hv
    rw [dual3]
    simp [mixV, gt, row, List.range_succ, smul, detL, dot]
    refine ⟨?_, ?_, ?_⟩ <;> grind
theorem det_dual {n : Nat} {R : List (List Int)} (hR : Sqr n R) : detL (dualR R) = detL R ^ (n - 1) := by
  rcases hR.cases with ⟨rfl, a, rfl⟩ | ⟨rfl, a, b, c, d, rfl⟩ | ⟨rfl, a, b, c, d, e, f, g, h, i, rfl⟩
  · rw [dual1]; simp [detL]
  · rw [dual2]; simp [detL]; grind
  · rw [dual3]; simp [detL]; grind
theorem det_smul {n : Nat} {R : List (List Int)} (hR : Sqr n R) (k : Int) : detL (R.map (smul k)) = k ^ n * detL R := by
  rcases hR.cases with ⟨rfl, a, rfl⟩ | ⟨rfl, a, b, c, d, rfl⟩ | ⟨rfl, a, b, c, d, e, f, g, h, i, rfl⟩
  · simp [detL, smul, Int.pow_succ]
  · simp [detL, smul]; grind
  · simp [detL, smul]; grind
theorem sqr_smul {n : Nat} {R : List (List Int)} (hR : Sqr n R) (k : Int) : Sqr n (R.map (smul k)) := ⟨hR.1, hR.2.1, by rw [List.length_map, hR.2.2.1], fun r hr => by
  obtain ⟨u, hu, rfl⟩ := List.mem_map.mp hr
  rw [smul_len]; exact hR.2.2.2 u hu⟩
theorem mem_row {R : List (List Int)} {r : List Int} : r ∈ R ↔ ∃ i, i < R.length ∧ r = row R i := by
  constructor
  · intro h
    obtain ⟨i, hi, rfl⟩ := List.getElem_of_mem h
    exact ⟨i, hi, (row_lt hi).symm⟩
  · rintro ⟨i, hi, rfl⟩
    rw [row_lt hi]; exact List.getElem_mem hi
/-- the scaled dual of a grid -/
theorem dualE {n : Nat} {B E : List (List Int)} {W : Int} (hB : Sqr n B) (hd : detL B ≠ 0) (hE : Sqr n E) (he : ∀ i, i < n → smul (detL B) (row E i) = smul W (row (dualR B) i)) (v : List Int) :
    Lat n E v ↔ v.length = n ∧ ∀ b ∈ B, W ∣ dot b v := by
  have lB := hB.2.2.1
  have lE := hE.2.2.1
  have key : ∀ i j, i < n → j < n → dot (row B j) (row E i) = if i = j then W else 0 := by
    intro i j hi hj
    have h1 : detL B * dot (row B j) (row E i) = W * (if i = j then detL B else 0) := by
      rw [← dot_smul, he i hi, dot_smul, dual_dot hB hi hj]
    by_cases e : i = j
    · rw [if_pos e] at h1 ⊢
      exact Int.eq_of_mul_eq_mul_left hd (by rw [h1, Int.mul_comm])
    · rw [if_neg e] at h1 ⊢
      have : detL B * dot (row B j) (row E i) = detL B * 0 := by rw [h1]; simp
      exact Int.eq_of_mul_eq_mul_left hd this
  constructor
  · intro h
    refine ⟨h.len hE.2.2.2, fun b hb => ?_⟩
    rw [dot_comm]
    refine dl_lat hE.2.2.2 (fun e he => ?_) h
    obtain ⟨i, hi, rfl⟩ := mem_row.mp he
    obtain ⟨j, hj, rfl⟩ := mem_row.mp hb
    rw [dot_comm, key i j (by omega) (by omega)]
    split
    · exact Int.dvd_refl _
    · exact Int.dvd_zero _
  · rintro ⟨hv, h⟩
    have c := cramT hB hv
    have hk : ∃ k : Nat → Int, ∀ i, i < n → dot (row B i) v = W * k i := by
      refine ⟨fun i => if hi : i < n then (h (row B i) (mem_row.mpr ⟨i, by omega, rfl⟩)).choose else 0, fun i hi => ?_⟩
      simp only [hi, dite_true]
      exact (h (row B i) (mem_row.mpr ⟨i, by omega, rfl⟩)).choose_spec
    obtain ⟨k, hk⟩ := hk
    have : v = mixV ((List.range n).map k) E := by
      apply ext_gt (by rw [mixV_len, lE, hv])
      intro j hj
      rw [hv] at hj
      apply Int.eq_of_mul_eq_mul_left hd
      have c1 := congrArg (fun u => gt u j) c
      simp only [gt_smul] at c1
      rw [gt_mix (by rw [dual_len, lB]) _ hj] at c1
      rw [c1, gt_mix lE _ hj]
      have e1 : ∀ (l : List Nat) (g : Nat → Int) (a : Int), a * (l.map g).sum = (l.map fun x => a * g x).sum := by
        intro l g a
        induction l with
        | nil => simp
        | cons x l ih => simp only [List.map_cons, List.sum_cons, Int.mul_add, ih]
      rw [e1]
      congr 1
      apply List.map_congr_left
      intro i hi
      have hi' : i < n := by simpa using hi
      have g1 : gt (B.map fun r => dot r v) i = W * k i := by
        rw [gt_lt (by simp; omega)]
        simp only [List.getElem_map]
        rw [← hk i hi', row_lt (by omega)]
      have g2 : gt ((List.range n).map k) i = k i := by
        rw [gt_lt (by simpa using hi')]; simp
      have g3 := congrArg (fun u => gt u j) (he i hi')
      simp only [gt_smul] at g3
      rw [g1, g2]
      grind
    rw [this]
    exact lat_mix hE (by simp)
/-- normal forms of more rows -/
theorem nf_formG {n : Nat} {R F : List (List Int)} (h1 : 1 ≤ n) (h3 : n ≤ 3) (hu : ∀ p, p < n → ∃ v, Lat n R v ∧ zb p v ∧ gt v p ≠ 0) (h : IsNF n R F) : Sqr n F ∧ NFs F := by
  have hF := nf_len h
  obtain ⟨g, rfl, he⟩ := h
  have full : ∀ q, q < n → g q ≠ none := fun q hq e => by
    obtain ⟨v, v1, v2, v3⟩ := hu q hq
    exact v3 ((he q hq).1 e v v1 v2)
  have er := rows_full full
  have el : (rowsOf n g).length = n := by rw [er]; simp
  have eg : ∀ q, q < n → g q = some (row (rowsOf n g) q) := fun q hq => by
    have : row (rowsOf n g) q = (g q).getD [] := by
      rw [row_lt (by omega)]
      simp [er]
    rw [this]
    cases e : g q with
    | none => exact absurd e (full q hq)
    | some f => rfl
  refine ⟨⟨h1, h3, el, hF⟩, fun i hi => ?_⟩
  rw [el] at hi
  obtain ⟨_, _, f3, f4, _, _⟩ := (he i hi).2 _ (eg i hi)
  refine ⟨f3, f4, fun r hr => ?_⟩
  have := (he r (by omega)).2 _ (eg r (by omega))
  exact this.2.2.2.2.2 i _ hr hi (eg i hi)
/-- .. that contain a grid of full dimension -/
theorem nf_more {n : Nat} {R G F : List (List Int)} (hR : Sqr n R) (hd : detL R ≠ 0) (hG : Len n G) (hs : ∀ r ∈ R, Lat n G r) (h : IsNF n G F) : Sqr n F ∧ NFs F :=
  nf_formG hR.1 hR.2.1 (fun p hp => let ⟨v, a, b, c⟩ := unit_lat hR hd p hp; ⟨v, Lat.mono hG hs a, b, c⟩) h
theorem nf_det {n : Nat} {F : List (List Int)} (hF : Sqr n F) (h : NFs F) : 0 < detL F := by
  rcases hF.cases with ⟨rfl, a, rfl⟩ | ⟨rfl, a, b, c, d, rfl⟩ | ⟨rfl, a, b, c, d, e, f, g, i, j, rfl⟩
  · have := (h 0 (by simp)).2.1
    simpa [row, gt, detL] using this
  · have h0 := (h 0 (by simp)).2.1
    have h1 := h 1 (by simp)
    have hc := h1.1 0 (by omega)
    simp [row, gt] at h0 h1 hc
    simp only [detL, hc]
    have := Int.mul_pos h0 h1.2.1
    omega
  · have h0 := (h 0 (by simp)).2.1
    have h1 := h 1 (by simp)
    have h2 := h 2 (by simp)
    have z1 := h1.1 0 (by omega)
    have z2 := h2.1 0 (by omega)
    have z3 := h2.1 1 (by omega)
    simp [row, gt] at h0 h1 h2 z1 z2 z3
    simp only [detL, z1, z2, z3]
    have := Int.mul_pos h0 (Int.mul_pos h1.2.1 h2.2.1)
    grind
/-- the dual rows of a normal form are not long -/
theorem nf_dual_bd {n : Nat} {F : List (List Int)} (hF : Sqr n F) (h : NFs F) : ∀ r ∈ dualR F, ∀ x ∈ r, x.natAbs ≤ (detL F).natAbs := by
  rcases hF.cases with ⟨rfl, a, rfl⟩ | ⟨rfl, a, b, c, d, rfl⟩ | ⟨rfl, a, b, c, d, e, f, g, i, j, rfl⟩
  · have := (h 0 (by simp)).2.1
    simp [row, gt] at this
    rw [dual1]
    simp [detL]
    omega
  · have h0 := (h 0 (by simp)).2.1
    have h1 := h 1 (by simp)
    have hc := h1.1 0 (by omega)
    have hb := h1.2.2 0 (by omega)
    simp [row, gt] at h0 h1 hc hb
    rw [dual2, mem2]
    simp only [detL, hc, mem2]
    have p := Int.mul_pos h0 h1.2.1
    have q1 : d ≤ a * d := by
      have := Int.mul_le_mul_of_nonneg_right (show (1 : Int) ≤ a by omega) (Int.le_of_lt h1.2.1)
      omega
    have q2 : a ≤ a * d := by
      have := Int.mul_le_mul_of_nonneg_left (show (1 : Int) ≤ d by omega) (Int.le_of_lt h0)
      omega
    simp only [Int.mul_zero, Int.zero_mul, Int.sub_zero, Int.one_mul, Int.mul_one, Int.zero_sub, Int.natAbs_neg]
    omega
  · have h0 := (h 0 (by simp)).2.1
    have h1 := h 1 (by simp)
    have h2 := h 2 (by simp)
    have z1 := h1.1 0 (by omega)
    have z2 := h2.1 0 (by omega)
    have z3 := h2.1 1 (by omega)
    have hb := h1.2.2 0 (by omega)
    have hc := h2.2.2 0 (by omega)
    have hf := h2.2.2 1 (by omega)
    simp [row, gt] at h0 h1 h2 z1 z2 z3 hb hc hf
    rw [dual3, mem3]
    simp only [detL, z1, z2, z3, mem3]
    have hj := h2.2.1
    have he := h1.2.1
    have ae := Int.mul_pos h0 he
    have aj := Int.mul_pos h0 hj
    have ej := Int.mul_pos he hj
    have aej := Int.mul_pos h0 ej
    have one : ∀ {x y : Int}, 0 < x → 0 < y → y ≤ x * y := fun {x y} hx hy => by
      have := Int.mul_le_mul_of_nonneg_right (show (1 : Int) ≤ x by omega) (Int.le_of_lt hy)
      omega
    have l1 := one h0 ej
    have l2 := one he aj
    have l3 := one hj ae
    have b1 : 0 ≤ b * j ∧ b * j ≤ e * j := ⟨Int.mul_nonneg hb.1 (Int.le_of_lt hj), Int.mul_le_mul_of_nonneg_right (Int.le_of_lt hb.2) (Int.le_of_lt hj)⟩
    have b2 : 0 ≤ a * f ∧ a * f ≤ a * j := ⟨Int.mul_nonneg (Int.le_of_lt h0) hf.1, Int.mul_le_mul_of_nonneg_left (Int.le_of_lt hf.2) (Int.le_of_lt h0)⟩
    have b3 : 0 ≤ b * f ∧ b * f ≤ e * j := ⟨Int.mul_nonneg hb.1 hf.1, Int.le_trans (Int.mul_le_mul_of_nonneg_right (Int.le_of_lt hb.2) hf.1) (Int.mul_le_mul_of_nonneg_left (Int.le_of_lt hf.2) (Int.le_of_lt he))⟩
    have b4 : 0 ≤ c * e ∧ c * e ≤ e * j := ⟨Int.mul_nonneg hc.1 (Int.le_of_lt he), by
      rw [Int.mul_comm e j]; exact Int.mul_le_mul_of_nonneg_right (Int.le_of_lt hc.2) (Int.le_of_lt he)⟩
    have e1 : e * (a * j) = a * (e * j) := by grind
    have e2 : j * (a * e) = a * (e * j) := by grind
    simp only [Int.mul_zero, Int.zero_mul, Int.sub_zero, Int.one_mul, Int.mul_one, Int.zero_sub, Int.natAbs_neg, Int.add_zero, Int.zero_add, Int.natAbs_zero, Int.mul_neg]
    rw [e1] at l2
    rw [e2] at l3
    refine ⟨⟨?_, ?_, ?_⟩, ⟨?_, ?_, ?_⟩, ?_, ?_, ?_⟩ <;> omega
/-! #### MJ -/
/-! counting classes -/
theorem sub_len {α : Type} [DecidableEq α] : ∀ {X Y : List α}, X.Nodup → (∀ x ∈ X, x ∈ Y) → X.length ≤ Y.length
  | [], _, _, _ => Nat.zero_le _
  | x :: X, Y, hn, h => by
    have hx := h x List.mem_cons_self
    rw [List.nodup_cons] at hn
    have := sub_len (X := X) (Y := Y.erase x) hn.2 (fun y hy => by
      have ne : y ≠ x := fun e => hn.1 (e ▸ hy)
      exact (List.mem_erase_of_ne ne).mpr (h y (List.mem_cons_of_mem _ hy)))
    rw [List.length_erase_of_mem hx] at this
    have : 0 < Y.length := List.length_pos_of_mem hx
    rw [List.length_cons]
    omega
theorem nodup_map {α β : Type} {f : α → β} {X : List α} (hn : X.Nodup) (hi : ∀ a ∈ X, ∀ b ∈ X, f a = f b → a = b) : (X.map f).Nodup := by
  unfold List.Nodup at *
  rw [List.pairwise_map]
  exact hn.imp_of_mem fun ha hb hne e => hne (hi _ ha _ hb e)
theorem nodup_fm {α β γ : Type} {f : α → β → γ} (hf : ∀ a b a' b', f a b = f a' b' → a = a' ∧ b = b') {Y : List β} (hY : Y.Nodup) : ∀ {X : List α}, X.Nodup → (X.flatMap fun a => Y.map (f a)).Nodup
  | [], _ => List.nodup_nil
  | x :: X, hX => by
    rw [List.nodup_cons] at hX
    rw [List.flatMap_cons, List.nodup_append]
    refine ⟨nodup_map hY fun a _ b _ e => (hf _ _ _ _ e).2, nodup_fm hf hY hX.2, fun a ha b hb e => ?_⟩
    obtain ⟨y, _, rfl⟩ := List.mem_map.mp ha
    obtain ⟨z, hz, hb⟩ := List.mem_flatMap.mp hb
    obtain ⟨w, _, rfl⟩ := List.mem_map.mp hb
    exact hX.1 ((hf _ _ _ _ e).1 ▸ hz)
theorem len_fm {α β γ : Type} (f : α → β → γ) (Y : List β) : ∀ X : List α, (X.flatMap fun a => Y.map (f a)).length = X.length * Y.length
  | [] => by simp
  | x :: X => by rw [List.flatMap_cons, List.length_append, len_fm f Y X, List.length_map, List.length_cons, Nat.add_mul]; omega
theorem mem_pairs {α β : Type} {X : List α} {Y : List β} {p : α × β} : (p ∈ X.flatMap fun a => Y.map fun b => (a, b)) ↔ p.1 ∈ X ∧ p.2 ∈ Y := by
  obtain ⟨x, y⟩ := p
  simp
/-- as many, by a map that is one to one -/
theorem card_eq {α β : Type} [DecidableEq β] {X : List α} {Y : List β} (f : α → β) (hX : X.Nodup) (hY : Y.Nodup) (h1 : ∀ a ∈ X, f a ∈ Y) (h2 : ∀ a ∈ X, ∀ b ∈ X, f a = f b → a = b) (h3 : ∀ y ∈ Y, ∃ a ∈ X, f a = y) : X.length = Y.length := by
  apply Nat.le_antisymm
  · have := sub_len (nodup_map hX h2) (Y := Y) (fun y hy => by
      obtain ⟨a, ha, rfl⟩ := List.mem_map.mp hy
      exact h1 a ha)
    simpa using this
  · have := sub_len hY (Y := X.map f) (fun y hy => by
      obtain ⟨a, ha, rfl⟩ := h3 y hy
      exact List.mem_map.mpr ⟨a, ha, rfl⟩)
    simpa using this
/-- all vectors with entries from 0 to below the given ones -/
def bx : List Nat → List (List Int)
  | [] => [[]]
  | p :: ps => (List.range p).flatMap fun (a : Nat) => (bx ps).map fun v => (a : Int) :: v
theorem bx_nodup : ∀ ps : List Nat, (bx ps).Nodup
  | [] => by simp [bx]
  | p :: ps => nodup_fm (f := fun (a : Nat) (v : List Int) => (a : Int) :: v) (fun a b a' b' e => by
      simp only [List.cons.injEq] at e
      exact ⟨by omega, e.2⟩) (bx_nodup ps) List.nodup_range
theorem bx_len : ∀ ps : List Nat, (bx ps).length = ps.foldr (· * ·) 1
  | [] => rfl
  | p :: ps => by
    show ((List.range p).flatMap fun (a : Nat) => (bx ps).map fun v => (a : Int) :: v).length = _
    rw [len_fm (fun (a : Nat) (v : List Int) => (a : Int) :: v), bx_len ps]
    simp
theorem bx_mem : ∀ (ps : List Nat) (v : List Int), v ∈ bx ps ↔ v.length = ps.length ∧ ∀ i, i < ps.length → 0 ≤ gt v i ∧ gt v i < ps.getD i 0
  | [], v => by
    simp only [bx, List.mem_singleton, List.length_nil, Nat.not_lt_zero, false_imp_iff, implies_true, and_true]
    exact List.length_eq_zero_iff.symm
  | p :: ps, [] => by
    simp [bx]
  | p :: ps, x :: v => by
    simp only [bx, List.mem_flatMap, List.mem_range, List.mem_map, List.cons.injEq, List.length_cons, Nat.add_right_cancel_iff]
    constructor
    · rintro ⟨a, ha, w, hw, rfl, rfl⟩
      obtain ⟨l, h⟩ := (bx_mem ps w).mp hw
      refine ⟨l, fun i hi => ?_⟩
      cases i with
      | zero => simp [gt]; omega
      | succ i => simpa [gt] using h i (by omega)
    · rintro ⟨l, h⟩
      have h0 := h 0 (by omega)
      simp [gt] at h0
      refine ⟨x.toNat, by omega, v, (bx_mem ps v).mpr ⟨l, fun i hi => ?_⟩, by omega, rfl⟩
      simpa [gt] using h (i + 1) (by omega)
def pv (F : List (List Int)) : List Nat := (List.range F.length).map fun i => (gt (row F i) i).toNat
theorem box_mem {n : Nat} {F : List (List Int)} (hF : Sqr n F) (h : NFs F) (v : List Int) : v ∈ bx (pv F) ↔ v.length = n ∧ ∀ i, i < n → 0 ≤ gt v i ∧ gt v i < gt (row F i) i := by
  have lF := hF.2.2.1
  rw [bx_mem]
  have lp : (pv F).length = n := by simp [pv, lF]
  rw [lp]
  refine and_congr_right fun _ => forall_congr' fun i => forall_congr' fun hi => ?_
  have e : (pv F).getD i 0 = (gt (row F i) i).toNat := by simp [pv, lF, hi]
  have := (h i (by omega)).2.1
  rw [e]
  omega
theorem det_pv {n : Nat} {F : List (List Int)} (hF : Sqr n F) (h : NFs F) : (bx (pv F)).length = (detL F).natAbs := by
  have hp := nf_det hF h
  rw [bx_len]
  rcases hF.cases with ⟨rfl, a, rfl⟩ | ⟨rfl, a, b, c, d, rfl⟩ | ⟨rfl, a, b, c, d, e, f, g, i, j, rfl⟩
  · have h0 := (h 0 (by simp)).2.1
    simp [row, gt, pv, detL, List.range_succ] at h0 ⊢
    omega
  · have h0 := (h 0 (by simp)).2.1
    have h1 := h 1 (by simp)
    have hc := h1.1 0 (by omega)
    simp [row, gt] at h0 h1 hc
    simp [row, gt, pv, detL, List.range_succ, hc, Int.natAbs_mul]
    rw [show a.toNat = a.natAbs by omega, show d.toNat = d.natAbs by omega]
  · have h0 := (h 0 (by simp)).2.1
    have h1 := h 1 (by simp)
    have h2 := h 2 (by simp)
    have z1 := h1.1 0 (by omega)
    have z2 := h2.1 0 (by omega)
    have z3 := h2.1 1 (by omega)
    simp [row, gt] at h0 h1 h2 z1 z2 z3
    simp [row, gt, pv, detL, List.range_succ, z1, z2, z3, Int.natAbs_mul]
    rw [show a.toNat = a.natAbs by omega, show e.toNat = e.natAbs by omega, show j.toNat = j.natAbs by omega]
/-! the rest of a vector by a normal form -/
def rstep (F : List (List Int)) (w : List Int) (p : Nat) : List Int := plusV w (-((gt w p).fdiv (gt (row F p) p))) (row F p)
def restV (F : List (List Int)) (v : List Int) : List Int := (List.range F.length).foldl (rstep F) v
def sub (v w : List Int) : List Int := plusV v (-1) w
theorem sub_gt {v w : List Int} (h : v.length = w.length) (i : Nat) : gt (sub v w) i = gt v i - gt w i := by
  unfold sub; rw [gt_plus h]; omega
theorem sub_length {v w : List Int} (h : v.length = w.length) : (sub v w).length = v.length := plus_len h
theorem add_gt {v w : List Int} (h : v.length = w.length) (i : Nat) : gt (plusV v 1 w) i = gt v i + gt w i := by
  rw [gt_plus h]; omega
theorem rest_go {n : Nat} {F : List (List Int)} (hF : Sqr n F) (h : NFs F) {v : List Int} (hv : v.length = n) : ∀ p, p ≤ n →
    ((List.range p).foldl (rstep F) v).length = n ∧ (∀ i, i < p → 0 ≤ gt ((List.range p).foldl (rstep F) v) i ∧ gt ((List.range p).foldl (rstep F) v) i < gt (row F i) i) ∧ Lat n F (sub v ((List.range p).foldl (rstep F) v))
  | 0, _ => by
    refine ⟨hv, fun i hi => by omega, ?_⟩
    have : sub v v = List.replicate n 0 := by
      apply ext_gt (by rw [sub_length rfl]; simpa using hv)
      intro i _
      rw [sub_gt rfl, gt_zero]; omega
    show Lat n F (sub v v)
    rw [this]; exact .zero
  | p + 1, hp => by
    obtain ⟨l, r, m⟩ := rest_go hF h hv p (by omega)
    have lF := hF.2.2.1
    rw [List.range_succ, List.foldl_append, List.foldl_cons, List.foldl_nil]
    revert l r m
    generalize (List.range p).foldl (rstep F) v = w
    intro l r m
    have hrow : row F p ∈ F := mem_row.mpr ⟨p, by omega, rfl⟩
    have lr := hF.2.2.2 _ hrow
    obtain ⟨z, pos, _⟩ := h p (by omega)
    have eg : ∀ i, gt (rstep F w p) i = gt w i + -((gt w p).fdiv (gt (row F p) p)) * gt (row F p) i := fun i => by
      unfold rstep; rw [gt_plus (by omega)]
    have ll : (rstep F w p).length = n := by unfold rstep; rw [plus_len (by omega), l]
    refine ⟨ll, fun i hi => ?_, ?_⟩
    · rw [eg]
      by_cases e : i = p
      · subst e
        have f := fm_pos (gt w i) pos
        have := Int.mul_fdiv_add_fmod (gt w i) (gt (row F i) i)
        have e2 : gt w i + -((gt w i).fdiv (gt (row F i) i)) * gt (row F i) i = (gt w i).fmod (gt (row F i) i) := by grind
        rw [e2]; exact f
      · rw [z i (by omega)]
        have := r i (by omega)
        omega
    · have : sub v (rstep F w p) = plusV (sub v w) ((gt w p).fdiv (gt (row F p) p)) (row F p) := by
        have l1 : (sub v w).length = n := by rw [sub_length (by omega), hv]
        apply ext_gt
        · rw [sub_length (by omega), plus_len (by omega), l1, hv]
        · intro i _
          rw [sub_gt (by omega), gt_plus (by omega), sub_gt (by omega), eg]
          grind
      rw [this]
      exact .add _ m hrow
theorem rest_spec {n : Nat} {F : List (List Int)} (hF : Sqr n F) (h : NFs F) {v : List Int} (hv : v.length = n) : restV F v ∈ bx (pv F) ∧ Lat n F (sub v (restV F v)) := by
  have := rest_go hF h hv n (Nat.le_refl _)
  unfold restV
  rw [hF.2.2.1]
  exact ⟨(box_mem hF h _).mpr ⟨this.1, this.2.1⟩, this.2.2⟩
/-- a normal form of full dimension -/
structure NFull (n : Nat) (R F : List (List Int)) : Prop where
  len : Len n R
  nf : IsNF n R F
  sq : Sqr n F
  sh : NFs F
theorem NFull.same {n : Nat} {R F : List (List Int)} (h : NFull n R F) : SameL n R F := nf_same h.len h.nf
theorem NFull.dvd {n : Nat} {R F : List (List Int)} (h : NFull n R F) {v : List Int} (hv : Lat n R v) {q : Nat} (hq : q < n) (hz : zb q v) : gt (row F q) q ∣ gt v q := by
  have lF := h.sq.2.2.1
  have hs := h.sh
  obtain ⟨g, rfl, he⟩ := h.nf
  have hr : row (rowsOf n g) q ∈ rowsOf n g := mem_row.mpr ⟨q, by omega, rfl⟩
  obtain ⟨p, hp, e⟩ := mem_rowsOf.mp hr
  obtain ⟨f1, f2, f3, f4, f5, _⟩ := (he p hp).2 _ e
  have : p = q := by
    obtain ⟨z, pos, _⟩ := hs q (by omega)
    rcases Nat.lt_trichotomy p q with c | c | c
    · have := z p c; omega
    · exact c
    · have := f3 q c; omega
  subst this
  exact f5 v hv hz
theorem NFull.uniq {n : Nat} {R F : List (List Int)} (h : NFull n R F) {v w : List Int} (hv : v ∈ bx (pv F)) (hw : w ∈ bx (pv F)) (hl : Lat n R (sub v w)) : v = w := by
  obtain ⟨lv, bv⟩ := (box_mem h.sq h.sh v).mp hv
  obtain ⟨lw, bw⟩ := (box_mem h.sq h.sh w).mp hw
  have key : ∀ q, q ≤ n → zb q (sub v w) := by
    intro q
    induction q with
    | zero => intro _ i hi; omega
    | succ q ih =>
      intro hq i hi
      by_cases e : i = q
      · subst e
        have z := ih (by omega)
        obtain ⟨c, hc⟩ := h.dvd hl (by omega) z
        have b1 := bv i (by omega)
        have b2 := bw i (by omega)
        rw [sub_gt (by omega)] at hc ⊢
        have hp : 0 < gt (row F i) i := by omega
        have : c = 0 := by
          rcases Int.lt_trichotomy c 0 with q | q | q
          · have := Int.mul_le_mul_of_nonneg_left (show c ≤ -1 by omega) (Int.le_of_lt hp)
            omega
          · exact q
          · have := Int.mul_le_mul_of_nonneg_left (show 1 ≤ c by omega) (Int.le_of_lt hp)
            omega
        rw [hc, this]; simp
      · exact ih (by omega) i (by omega)
  apply ext_gt (by omega)
  intro i hi
  have := key n (Nat.le_refl _) i (by omega)
  rw [sub_gt (by omega)] at this
  omega
theorem NFull.rest {n : Nat} {R F : List (List Int)} (h : NFull n R F) {v : List Int} (hv : v.length = n) : restV F v ∈ bx (pv F) ∧ Lat n R (sub v (restV F v)) :=
  ⟨(rest_spec h.sq h.sh hv).1, (h.same _).mpr (rest_spec h.sq h.sh hv).2⟩
theorem NFull.blen {n : Nat} {R F : List (List Int)} (h : NFull n R F) {v : List Int} (hv : v ∈ bx (pv F)) : v.length = n := ((box_mem h.sq h.sh v).mp hv).1
theorem NFull.rest_len {n : Nat} {R F : List (List Int)} (h : NFull n R F) {v : List Int} (hv : v.length = n) : (restV F v).length = n := h.blen (h.rest hv).1
/-- the linear combinations that are needed: an equation by places -/
theorem lat_lin {n : Nat} {R : List (List Int)} (hR : Len n R) {a b v : List Int} (ha : Lat n R a) (hb : Lat n R b) (k : Int) (hv : v.length = n) (e : ∀ i, gt v i = gt a i + k * gt b i) : Lat n R v := by
  have la := ha.len hR
  have lb := hb.len hR
  have : v = plusV a k b := by
    apply ext_gt (by rw [plus_len (by omega)]; omega)
    intro i _
    rw [gt_plus (by omega)]; exact e i
  rw [this]; exact ha.comb hR k hb
theorem NFull.eq_rest {n : Nat} {R F : List (List Int)} (h : NFull n R F) {v w : List Int} (hv : v.length = n) (hw : w.length = n) : restV F v = restV F w ↔ Lat n R (sub v w) := by
  obtain ⟨a1, a2⟩ := h.rest hv
  obtain ⟨b1, b2⟩ := h.rest hw
  have lv := h.rest_len hv
  have lw := h.rest_len hw
  constructor
  · intro e
    rw [e] at a2
    refine lat_lin h.len a2 b2 (-1) (by rw [sub_length (by omega), hv]) fun i => ?_
    rw [sub_gt (by omega), sub_gt (by omega), sub_gt (by omega)]; omega
  · intro e
    refine h.uniq a1 b1 ?_
    have s1 : Lat n R (sub (restV F v) v) := lat_lin h.len .zero a2 (-1) (by rw [sub_length (by omega), lv]) fun i => by
      rw [sub_gt (by omega), sub_gt (by omega), gt_zero]; omega
    have s2 := s1.comb h.len 1 e
    refine lat_lin h.len s2 b2 1 (by rw [sub_length (by omega), lv]) fun i => ?_
    rw [sub_gt (by omega), add_gt (by rw [sub_length (by omega), sub_length (by omega)]; omega), sub_gt (by omega), sub_gt (by omega), sub_gt (by omega)]; omega
/-- sums and intersections -/
theorem join_meet {n : Nat} {J C R T FJ FC FR FT : List (List Int)} (hJ : NFull n J FJ) (hC : NFull n C FC) (hR : NFull n R FR) (hT : NFull n T FT)
    (eJ : ∀ v, Lat n J v ↔ ∃ a b, Lat n R a ∧ Lat n T b ∧ v = plusV a 1 b) (eC : ∀ v, Lat n C v ↔ Lat n R v ∧ Lat n T v) : (detL FJ).natAbs * (detL FC).natAbs = (detL FR).natAbs * (detL FT).natAbs := by
  rw [← det_pv hJ.sq hJ.sh, ← det_pv hC.sq hC.sh, ← det_pv hR.sq hR.sh, ← det_pv hT.sq hT.sh]
  have key := card_eq (X := (bx (pv FJ)).flatMap fun j => (bx (pv FC)).map fun c => (j, c)) (Y := (bx (pv FR)).flatMap fun a => (bx (pv FT)).map fun b => (a, b)) (fun p => (restV FR (plusV p.2 1 p.1), restV FT p.2))
    (nodup_fm (f := Prod.mk) (fun a b a' b' e => by simpa using e) (bx_nodup _) (bx_nodup _)) (nodup_fm (f := Prod.mk) (fun a b a' b' e => by simpa using e) (bx_nodup _) (bx_nodup _)) ?_ ?_ ?_
  · rwa [len_fm Prod.mk, len_fm Prod.mk] at key
  · rintro ⟨j, c⟩ h
    obtain ⟨hj, hc⟩ := mem_pairs.mp h
    have lj := hJ.blen hj
    have lc := hC.blen hc
    exact mem_pairs.mpr ⟨(hR.rest (by rw [plus_len (by omega), lc])).1, (hT.rest lc).1⟩
  · rintro ⟨j, c⟩ h ⟨j', c'⟩ h' e
    obtain ⟨hj, hc⟩ := mem_pairs.mp h
    obtain ⟨hj', hc'⟩ := mem_pairs.mp h'
    simp only [Prod.mk.injEq] at e hj hc hj' hc'
    have lj := hJ.blen hj
    have lc := hC.blen hc
    have lj' := hJ.blen hj'
    have lc' := hC.blen hc'
    obtain ⟨e1, e2⟩ := e
    rw [hR.eq_rest (by rw [plus_len (by omega), lc]) (by rw [plus_len (by omega), lc'])] at e1
    rw [hT.eq_rest lc lc'] at e2
    have e2n : Lat n T (sub c' c) := lat_lin hT.len .zero e2 (-1) (by rw [sub_length (by omega), lc']) fun i => by
      rw [sub_gt (by omega), sub_gt (by omega), gt_zero]; omega
    have ej : j = j' := hJ.uniq hj hj' ((eJ _).mpr ⟨_, _, e1, e2n, by
      have l1 : (plusV c 1 j).length = n := by rw [plus_len (by omega), lc]
      have l2 : (plusV c' 1 j').length = n := by rw [plus_len (by omega), lc']
      have l3 : (sub (plusV c 1 j) (plusV c' 1 j')).length = n := by rw [sub_length (by omega), l1]
      have l4 : (sub c' c).length = n := by rw [sub_length (by omega), lc']
      apply ext_gt (by rw [sub_length (by omega), plus_len (by omega), l3, lj])
      intro i _
      rw [sub_gt (by omega), add_gt (by omega), sub_gt (by omega), add_gt (by omega), add_gt (by omega), sub_gt (by omega)]; omega⟩)
    subst ej
    refine Prod.ext rfl (hC.uniq hc hc' ((eC _).mpr ⟨?_, e2⟩))
    have : sub c c' = sub (plusV c 1 j) (plusV c' 1 j) := by
      have l1 : (plusV c 1 j).length = n := by rw [plus_len (by omega), lc]
      have l2 : (plusV c' 1 j).length = n := by rw [plus_len (by omega), lc']
      apply ext_gt (by rw [sub_length (by omega), sub_length (by omega), l1, lc])
      intro i _
      rw [sub_gt (by omega), sub_gt (by omega), add_gt (by omega), add_gt (by omega)]; omega
    rw [this]; exact e1
  · rintro ⟨a, b⟩ h
    obtain ⟨ha, hb⟩ := mem_pairs.mp h
    simp only at ha hb
    have la := hR.blen ha
    have lb := hT.blen hb
    have lab : (sub a b).length = n := by rw [sub_length (by omega), la]
    obtain ⟨j1, j2⟩ := hJ.rest lab
    have lj := hJ.blen j1
    revert j1 j2 lj
    generalize restV FJ (sub a b) = j
    intro j1 j2 lj
    obtain ⟨l1, l2, h1, h2, e⟩ := (eJ _).mp j2
    have ll1 := h1.len hR.len
    have ll2 := h2.len hT.len
    have lc0 : (plusV b 1 l2).length = n := by rw [plus_len (by omega), lb]
    obtain ⟨c1, c2⟩ := hC.rest lc0
    have lc := hC.blen c1
    revert c1 c2 lc
    generalize restV FC (plusV b 1 l2) = c
    intro c1 c2 lc
    obtain ⟨d1, d2⟩ := (eC _).mp c2
    have eg : ∀ i, gt a i - gt b i - gt j i = gt l1 i + gt l2 i := fun i => by
      have := congrArg (fun u => gt u i) e
      rw [sub_gt (by omega), sub_gt (by omega), add_gt (by omega)] at this
      omega
    refine ⟨(j, c), mem_pairs.mpr ⟨j1, c1⟩, ?_⟩
    have lcj : (plusV c 1 j).length = n := by rw [plus_len (by omega), lc]
    obtain ⟨ra1, ra2⟩ := hR.rest la
    obtain ⟨rb1, rb2⟩ := hT.rest lb
    have za : restV FR a = a := hR.uniq ra1 ha (lat_lin hR.len .zero ra2 (-1) (by rw [sub_length (by rw [hR.blen ra1, la]), hR.blen ra1]) fun i => by
      rw [sub_gt (by rw [hR.blen ra1, la]), sub_gt (by rw [hR.blen ra1, la]), gt_zero]; omega)
    have zb' : restV FT b = b := hT.uniq rb1 hb (lat_lin hT.len .zero rb2 (-1) (by rw [sub_length (by rw [hT.blen rb1, lb]), hT.blen rb1]) fun i => by
      rw [sub_gt (by rw [hT.blen rb1, lb]), sub_gt (by rw [hT.blen rb1, lb]), gt_zero]; omega)
    simp only [Prod.mk.injEq]
    constructor
    · conv => rhs; rw [← za]
      rw [hR.eq_rest lcj la]
      refine lat_lin hR.len (lat_lin hR.len .zero d1 (-1) (v := sub c (plusV b 1 l2)) (by rw [sub_length (by omega), lc]) fun i => by
        rw [sub_gt (by omega), sub_gt (by omega), gt_zero]; omega) h1 (-1) (by rw [sub_length (by omega), lcj]) fun i => ?_
      rw [sub_gt (by omega), add_gt (by omega), sub_gt (by omega), add_gt (by omega)]
      have := eg i
      omega
    · conv => rhs; rw [← zb']
      rw [hT.eq_rest lc lb]
      refine lat_lin hT.len (lat_lin hT.len .zero d2 (-1) (v := sub c (plusV b 1 l2)) (by rw [sub_length (by omega), lc]) fun i => by
        rw [sub_gt (by omega), sub_gt (by omega), gt_zero]; omega) h2 1 (by rw [sub_length (by omega), lc]) fun i => ?_
      rw [sub_gt (by omega), sub_gt (by omega), add_gt (by omega)]
      omega
/-! #### MK -/
/-! each grid has a normal form -/
theorem exists_min {α : Type} (P : α → Prop) (f : α → Nat) : (∃ v, P v) → ∃ v, P v ∧ ∀ w, P w → f v ≤ f w := by
  have key : ∀ k, ∀ v, P v → f v = k → ∃ v, P v ∧ ∀ w, P w → f v ≤ f w := by
    intro k
    induction k using Nat.strongRecOn with
    | _ k ih =>
      intro v hv e
      by_cases h : ∃ w, P w ∧ f w < f v
      · obtain ⟨w, hw, hl⟩ := h
        exact ih (f w) (by omega) w hw rfl
      · refine ⟨v, hv, fun w hw => ?_⟩
        by_cases q : f w < f v
        · exact absurd ⟨w, hw, q⟩ h
        · omega
  rintro ⟨v, hv⟩
  exact key _ v hv rfl
theorem red_up {n q : Nat} {R : List (List Int)} (hR : Len n R) {g : Nat → Option (List Int)} (hg : ∀ r f, q < r → r < n → g r = some f → Lat n R f ∧ zb r f ∧ 0 < gt f r) {f : List Int} (hf : Lat n R f) (hz : zb q f) : ∀ k, q + 1 + k ≤ n →
    ∃ f', Lat n R f' ∧ zb q f' ∧ gt f' q = gt f q ∧ ∀ r h, q < r → r < q + 1 + k → g r = some h → 0 ≤ gt f' r ∧ gt f' r < gt h r
  | 0, _ => ⟨f, hf, hz, rfl, fun r h a b => by omega⟩
  | k + 1, hk => by
    obtain ⟨w, w1, w2, w3, w4⟩ := red_up hR hg hf hz k (by omega)
    have lw := w1.len hR
    cases e : g (q + 1 + k) with
    | none =>
      refine ⟨w, w1, w2, w3, fun r h a b c => ?_⟩
      by_cases er : r = q + 1 + k
      · rw [er, e] at c; cases c
      · exact w4 r h a (by omega) c
    | some h =>
      obtain ⟨h1, h2, h3⟩ := hg _ h (by omega) (by omega) e
      have lh := h1.len hR
      refine ⟨plusV w (-((gt w (q + 1 + k)).fdiv (gt h (q + 1 + k)))) h, w1.comb hR _ h1, fun i hi => ?_, ?_, fun r h' a b c => ?_⟩
      · rw [gt_plus (by omega), w2 i hi, h2 i (by omega)]; omega
      · rw [gt_plus (by omega), h2 q (by omega), w3]; omega
      · rw [gt_plus (by omega)]
        by_cases er : r = q + 1 + k
        · subst er
          rw [e] at c
          cases c
          have f := fm_pos (gt w (q + 1 + k)) h3
          have := Int.mul_fdiv_add_fmod (gt w (q + 1 + k)) (gt h (q + 1 + k))
          have e2 : gt w (q + 1 + k) + -((gt w (q + 1 + k)).fdiv (gt h (q + 1 + k))) * gt h (q + 1 + k) = (gt w (q + 1 + k)).fmod (gt h (q + 1 + k)) := by grind
          rw [e2]; exact f
        · rw [h2 r (by omega)]
          have := w4 r h' a (by omega) c
          omega
theorem nf_exists {n : Nat} {R : List (List Int)} (hR : Len n R) : ∃ F, IsNF n R F := by
  have key : ∀ k, k ≤ n → ∃ g : Nat → Option (List Int), ∀ q, n - k ≤ q → q < n →
      (g q = none → ∀ v, Lat n R v → zb q v → gt v q = 0) ∧ ∀ f, g q = some f → Lat n R f ∧ f.length = n ∧ zb q f ∧ 0 < gt f q ∧ (∀ v, Lat n R v → zb q v → gt f q ∣ gt v q) ∧ ∀ r f', q < r → r < n → g r = some f' → 0 ≤ gt f r ∧ gt f r < gt f' r := by
    intro k
    induction k with
    | zero => exact fun _ => ⟨fun _ => none, fun q a b => by omega⟩
    | succ k ih =>
      intro hk
      obtain ⟨g, hg⟩ := ih (by omega)
      have hq : n - (k + 1) < n := by omega
      generalize hp : n - (k + 1) = p at hq
      by_cases h : ∃ v, (Lat n R v ∧ zb p v) ∧ gt v p ≠ 0
      · obtain ⟨v, ⟨⟨v1, v2⟩, v3⟩, vm⟩ := exists_min (fun v => (Lat n R v ∧ zb p v) ∧ gt v p ≠ 0) (fun v => (gt v p).natAbs) h
        have pos : ∃ f, Lat n R f ∧ zb p f ∧ gt f p = (gt v p).natAbs := by
          by_cases s : 0 < gt v p
          · exact ⟨v, v1, v2, by omega⟩
          · exact ⟨negV v, v1.neg hR, fun i hi => by rw [gt_negV, v2 i hi]; omega, by rw [gt_negV]; omega⟩
        obtain ⟨f, f1, f2, f3⟩ := pos
        obtain ⟨f', a1, a2, a3, a4⟩ := red_up (q := p) hR (g := g) (fun r h a b c => by
          have := (hg r (by omega) b).2 h c
          exact ⟨this.1, this.2.2.1, this.2.2.2.1⟩) f1 f2 (n - (p + 1)) (by omega)
        have lf := a1.len hR
        have fp : 0 < gt f' p := by rw [a3, f3]; omega
        refine ⟨fun r => if r = p then some f' else g r, fun q b1 b2 => ?_⟩
        by_cases eq : q = p
        · subst eq
          simp only [if_true]
          refine ⟨fun z => (by cases z), fun u hu => ?_⟩
          cases hu
          refine ⟨a1, lf, a2, fp, fun w w1 w2 => ?_, fun r h c1 c2 c3 => ?_⟩
          · have lw := w1.len hR
            have hfm := fm_pos (gt w q) fp
            have e := Int.mul_fdiv_add_fmod (gt w q) (gt f' q)
            by_cases z : (gt w q).fmod (gt f' q) = 0
            · exact ⟨(gt w q).fdiv (gt f' q), by omega⟩
            · exfalso
              have := vm (plusV w (-((gt w q).fdiv (gt f' q))) f') ⟨⟨w1.comb hR _ a1, fun i hi => by rw [gt_plus (by omega), w2 i hi, a2 i hi]; omega⟩, by
                rw [gt_plus (by omega)]
                have e2 : gt w q + -((gt w q).fdiv (gt f' q)) * gt f' q = (gt w q).fmod (gt f' q) := by grind
                rw [e2]; exact z⟩
              rw [gt_plus (by omega)] at this
              have e2 : gt w q + -((gt w q).fdiv (gt f' q)) * gt f' q = (gt w q).fmod (gt f' q) := by grind
              rw [e2] at this
              omega
          · rw [if_neg (by omega)] at c3
            exact a4 r h c1 (by omega) c3
        · simp only [if_neg eq]
          obtain ⟨g1, g2⟩ := hg q (by omega) b2
          refine ⟨g1, fun u hu => ?_⟩
          obtain ⟨u1, u2, u3, u4, u5, u6⟩ := g2 u hu
          refine ⟨u1, u2, u3, u4, u5, fun r h c1 c2 c3 => ?_⟩
          rw [if_neg (by omega)] at c3
          exact u6 r h c1 c2 c3
      · refine ⟨fun r => if r = p then none else g r, fun q b1 b2 => ?_⟩
        by_cases eq : q = p
        · subst eq
          simp only [if_true]
          refine ⟨fun _ v v1 v2 => ?_, fun u hu => by cases hu⟩
          by_cases z : gt v q = 0
          · exact z
          · exact absurd ⟨v, ⟨v1, v2⟩, z⟩ h
        · simp only [if_neg eq]
          obtain ⟨g1, g2⟩ := hg q (by omega) b2
          refine ⟨g1, fun u hu => ?_⟩
          obtain ⟨u1, u2, u3, u4, u5, u6⟩ := g2 u hu
          refine ⟨u1, u2, u3, u4, u5, fun r h c1 c2 c3 => ?_⟩
          rw [if_neg (by omega)] at c3
          exact u6 r h c1 c2 c3
  obtain ⟨g, hg⟩ := key n (Nat.le_refl _)
  exact ⟨rowsOf n g, g, rfl, fun q hq => hg q (by omega) hq⟩
/-! the grid of all vectors in both -/
theorem lat_app {n : Nat} {R T : List (List Int)} (hR : Len n R) (hT : Len n T) (v : List Int) : Lat n (R ++ T) v ↔ ∃ a b, Lat n R a ∧ Lat n T b ∧ v = plusV a 1 b := by
  have hRT : Len n (R ++ T) := fun r hr => (List.mem_append.mp hr).elim (hR r) (hT r)
  constructor
  · intro h
    induction h with
    | zero =>
      refine ⟨_, _, .zero, .zero, ?_⟩
      apply ext_gt (by simp [plusV])
      intro i _
      rw [add_gt (by simp), gt_zero]; omega
    | add k h hr ih =>
      rename_i v r
      obtain ⟨a, b, ha, hb, rfl⟩ := ih
      have la := ha.len hR
      have lb := hb.len hT
      have lr := hRT r hr
      have lab : (plusV a 1 b).length = n := by rw [plus_len (by omega), la]
      rcases List.mem_append.mp hr with q | q
      · refine ⟨plusV a k r, b, .add k ha q, hb, ?_⟩
        have l2 : (plusV a k r).length = n := by rw [plus_len (by omega), la]
        apply ext_gt (by rw [plus_len (by omega), plus_len (by omega), plus_len (by omega)]; try omega)
        intro i _
        rw [gt_plus (by omega), add_gt (by omega), add_gt (by omega), gt_plus (by omega)]; omega
      · refine ⟨a, plusV b k r, ha, .add k hb q, ?_⟩
        have l2 : (plusV b k r).length = n := by rw [plus_len (by omega), lb]
        apply ext_gt (by rw [plus_len (by omega), plus_len (by omega), plus_len (by omega)]; try omega)
        intro i _
        rw [gt_plus (by omega), add_gt (by omega), add_gt (by omega), gt_plus (by omega)]; omega
  · rintro ⟨a, b, ha, hb, rfl⟩
    exact (Lat.mono hRT (fun r hr => Lat.of_mem (List.mem_append_left _ hr) (hR r hr)) ha).comb hRT 1 (Lat.mono hRT (fun r hr => Lat.of_mem (List.mem_append_right _ hr) (hT r hr)) hb)
theorem lat_det {n : Nat} {R : List (List Int)} (hR : Sqr n R) {u : List Int} (hu : u.length = n) : Lat n R (smul (detL R) u) := by
  rw [cramV hR hu]
  exact lat_mix hR (by simp [sol, hR.2.2.1])
theorem smul_smul (a b : Int) (u : List Int) : smul a (smul b u) = smul (a * b) u := by simp [smul, Int.mul_assoc]
theorem pow_ne {a : Int} (h : a ≠ 0) (n : Nat) : a ^ n ≠ 0 := Int.pow_ne_zero h
def bothG (R T : List (List Int)) : List (List Int) := (dualR R).map (smul (detL T)) ++ (dualR T).map (smul (detL R))
def comE (R T B : List (List Int)) : List (List Int) := (dualR B).map fun r => r.map fun x => (x * (detL R * detL T)).fdiv (detL B)
theorem row_map {f : List Int → List Int} {R : List (List Int)} {i : Nat} (h : i < R.length) : row (R.map f) i = f (row R i) := by
  rw [row_lt (by simpa using h), row_lt h]; simp
section
variable {n : Nat} {R T B : List (List Int)} (hR : Sqr n R) (hT : Sqr n T) (d1 : detL R ≠ 0) (d2 : detL T ≠ 0)
include hR hT in
theorem both_len : Len n (bothG R T) := by
  intro r hr
  rcases List.mem_append.mp hr with q | q
  · obtain ⟨u, hu, rfl⟩ := List.mem_map.mp q
    rw [smul_len, dual_row hu, hR.2.2.1]
  · obtain ⟨u, hu, rfl⟩ := List.mem_map.mp q
    rw [smul_len, dual_row hu, hT.2.2.1]
include hR hT d1 d2 in
theorem both_nf (hB : IsNF n (bothG R T) B) : NFull n (bothG R T) B := by
  have S1 := sqr_smul (dual_sqr hR) (detL T)
  have hd : detL ((dualR R).map (smul (detL T))) ≠ 0 := by
    rw [det_smul (dual_sqr hR), det_dual hR]
    exact Int.mul_ne_zero (pow_ne d2 _) (pow_ne d1 _)
  have := nf_more S1 hd (both_len hR hT) (fun r hr => Lat.of_mem (List.mem_append_left _ hr) (S1.2.2.2 r hr)) hB
  exact ⟨both_len hR hT, hB, this.1, this.2⟩
include hR hT d1 d2 in
theorem both_iff (v : List Int) (hv : v.length = n) : (∀ r ∈ bothG R T, detL R * detL T ∣ dot r v) ↔ Lat n R v ∧ Lat n T v := by
  rw [lat_dual hR hv d1, lat_dual hT hv d2]
  have a1 : ∀ r, detL R * detL T ∣ dot (smul (detL T) r) v ↔ detL R ∣ dot r v := fun r => by
    rw [dot_smul_l, Int.mul_comm (detL R)]
    exact Int.mul_dvd_mul_iff_left d2
  have a2 : ∀ r, detL R * detL T ∣ dot (smul (detL R) r) v ↔ detL T ∣ dot r v := fun r => by
    rw [dot_smul_l]
    exact Int.mul_dvd_mul_iff_left d1
  constructor
  · intro h
    exact ⟨fun r hr => (a1 r).mp (h _ (List.mem_append_left _ (List.mem_map.mpr ⟨r, hr, rfl⟩))), fun r hr => (a2 r).mp (h _ (List.mem_append_right _ (List.mem_map.mpr ⟨r, hr, rfl⟩)))⟩
  · rintro ⟨h1, h2⟩ r hr
    rcases List.mem_append.mp hr with q | q
    · obtain ⟨u, hu, rfl⟩ := List.mem_map.mp q
      exact (a1 u).mpr (h1 u hu)
    · obtain ⟨u, hu, rfl⟩ := List.mem_map.mp q
      exact (a2 u).mpr (h2 u hu)
include hR hT d1 d2 in
/-- the division is exact -/
theorem com_exact (hB : NFull n (bothG R T) B) {r : List Int} (hr : r ∈ dualR B) {x : Int} (hx : x ∈ r) : detL B ∣ x * (detL R * detL T) := by
  have hs := nf_det hB.sq hB.sh
  have lB := hB.sq.2.2.1
  obtain ⟨i, hi, rfl⟩ := mem_row.mp hr
  rw [dual_len] at hi
  have lr : (row (dualR B) i).length = n := by rw [dual_row hr, lB]
  have hd : ∀ b ∈ B, (detL R * detL T) * detL B ∣ dot b (smul (detL R * detL T) (row (dualR B) i)) := by
    intro b hb
    obtain ⟨j, hj, rfl⟩ := mem_row.mp hb
    rw [dot_smul, dual_dot hB.sq (by omega) (by omega)]
    split
    · exact Int.dvd_refl _
    · simp
  have h2 := (dl_same hB.len hB.sq.2.2.2 hB.same).mpr hd
  have hk : ∀ u ∈ dualR R, ∃ m, dot u (smul (detL R * detL T) (row (dualR B) i)) = detL R * (detL B * m) := by
    intro u hu
    obtain ⟨m, hm⟩ := h2 (smul (detL T) u) (List.mem_append_left _ (List.mem_map.mpr ⟨u, hu, rfl⟩))
    refine ⟨m, Int.eq_of_mul_eq_mul_left d2 ?_⟩
    rw [dot_smul_l] at hm
    rw [hm]; grind
  generalize hw : smul (detL R * detL T) (row (dualR B) i) = w at hk
  have lw : w.length = n := by rw [← hw, smul_len, lr]
  have c := cramV hR lw
  rw [← dual_sol hR lw] at c
  have hdv : ∀ j, j < n → detL B ∣ gt w j := by
    intro j hj
    have c1 := congrArg (fun u => gt u j) c
    simp only [gt_smul] at c1
    rw [gt_mix hR.2.2.1 _ hj] at c1
    have : detL R * detL B ∣ detL R * gt w j := by
      rw [c1]
      have : ∀ (l : List Nat) (g : Nat → Int), (∀ k ∈ l, detL R * detL B ∣ g k) → detL R * detL B ∣ (l.map g).sum := by
        intro l g hg
        induction l with
        | nil => simp
        | cons k l ih =>
          rw [List.map_cons, List.sum_cons]
          exact Int.dvd_add (hg k List.mem_cons_self) (ih fun x hx => hg x (List.mem_cons_of_mem _ hx))
      apply this
      intro k hk'
      have hk2 : k < n := by simpa using hk'
      apply Int.dvd_mul_of_dvd_left
      have lD : (dualR R).length = n := by rw [dual_len, hR.2.2.1]
      rw [gt_lt (by simp; omega)]
      simp only [List.getElem_map]
      obtain ⟨m, hm⟩ := hk (dualR R)[k] (List.getElem_mem _)
      rw [hm]
      exact ⟨m, by grind⟩
    exact (Int.mul_dvd_mul_iff_left d1).mp this
  obtain ⟨j, hj, rfl⟩ := List.getElem_of_mem hx
  have := hdv j (by omega)
  rw [← hw, gt_smul, gt_lt hj] at this
  rw [Int.mul_comm]; exact this
include hR hT d1 d2 in
theorem com_sqr (hB : NFull n (bothG R T) B) : Sqr n (comE R T B) := by
  have lB := hB.sq.2.2.1
  refine ⟨hR.1, hR.2.1, by simp [comE, dual_len, lB], fun r hr => ?_⟩
  obtain ⟨u, hu, rfl⟩ := List.mem_map.mp hr
  rw [List.length_map, dual_row hu, lB]
include hR hT d1 d2 in
theorem com_iff (hB : NFull n (bothG R T) B) (v : List Int) : Lat n (comE R T B) v ↔ Lat n R v ∧ Lat n T v := by
  have hs := nf_det hB.sq hB.sh
  have lB := hB.sq.2.2.1
  have hE := com_sqr hR hT d1 d2 hB
  rw [dualE hB.sq (by omega) hE (W := detL R * detL T) (fun i hi => ?_)]
  · constructor
    · rintro ⟨hv, h⟩
      exact (both_iff hR hT d1 d2 v hv).mp ((dl_same hB.len hB.sq.2.2.2 hB.same).mpr h)
    · rintro h
      have hv := h.1.len hR.2.2.2
      exact ⟨hv, (dl_same hB.len hB.sq.2.2.2 hB.same).mp ((both_iff hR hT d1 d2 v hv).mpr h)⟩
  · have hi' : i < (dualR B).length := by rw [dual_len, lB]; exact hi
    unfold comE
    rw [row_map (f := fun r => r.map fun x => (x * (detL R * detL T)).fdiv (detL B)) hi']
    unfold smul
    rw [List.map_map]
    apply List.map_congr_left
    intro x hx
    simp only [Function.comp_apply]
    have := Int.fdiv_mul_cancel (com_exact hR hT d1 d2 hB (mem_row.mpr ⟨i, hi', rfl⟩) hx)
    rw [Int.mul_comm, this, Int.mul_comm]
include hR hT d1 d2 in
theorem com_nf (hB : NFull n (bothG R T) B) {C : List (List Int)} (hC : IsNF n (comE R T B) C) : NFull n (comE R T B) C := by
  have hE := com_sqr hR hT d1 d2 hB
  have := nf_formG hR.1 hR.2.1 (fun p hp => ?_) hC
  · exact ⟨hE.2.2.2, hC, this.1, this.2⟩
  · have lu : ((List.replicate n (0 : Int)).set p 1).length = n := by simp
    refine ⟨smul (detL R * detL T) ((List.replicate n 0).set p 1), (com_iff hR hT d1 d2 hB _).mpr ⟨?_, ?_⟩, fun i hi => ?_, ?_⟩
    · rw [← smul_smul]
      exact lat_det hR (by rw [smul_len]; exact lu)
    · rw [Int.mul_comm, ← smul_smul]
      exact lat_det hT (by rw [smul_len]; exact lu)
    · rw [gt_smul, gt_lt (by simp; omega), List.getElem_set_ne (by omega)]
      simp
    · rw [gt_smul, gt_lt (by simpa using hp)]
      simp only [List.getElem_set_self, Int.mul_one]
      exact Int.mul_ne_zero d1 d2
include hR hT d1 d2 in
theorem com_bd (hB : NFull n (bothG R T) B) : ∀ r ∈ comE R T B, Bd (detL R * detL T).natAbs r := by
  have hs := nf_det hB.sq hB.sh
  intro r hr y hy
  obtain ⟨u, hu, rfl⟩ := List.mem_map.mp hr
  obtain ⟨x, hx, rfl⟩ := List.mem_map.mp hy
  have b := nf_dual_bd hB.sq hB.sh u hu x hx
  obtain ⟨k, hk⟩ := com_exact hR hT d1 d2 hB hu hx
  rw [hk, fd_m2 (by omega)]
  have h1 : (detL B).natAbs * k.natAbs = x.natAbs * (detL R * detL T).natAbs := by rw [← Int.natAbs_mul, ← hk, Int.natAbs_mul]
  have h2 : x.natAbs * (detL R * detL T).natAbs ≤ (detL B).natAbs * (detL R * detL T).natAbs := Nat.mul_le_mul_right _ b
  rw [← h1] at h2
  exact Nat.le_of_mul_le_mul_left h2 (by omega)
include hR hT d1 d2 in
theorem both_bd (hB : NFull n (bothG R T) B) : (detL B).natAbs ≤ (detL T).natAbs ^ n * (detL R).natAbs ^ (n - 1) := by
  have S1 := sqr_smul (dual_sqr hR) (detL T)
  have := (det_sub hB.sq S1 (fun v hv => (hB.same v).mp (Lat.of_mem (List.mem_append_left _ hv) (S1.2.2.2 v hv)))).1
  obtain ⟨k, hk⟩ := this
  rw [det_smul (dual_sqr hR), det_dual hR] at hk
  have h0 : detL T ^ n * detL R ^ (n - 1) ≠ 0 := Int.mul_ne_zero (pow_ne d2 _) (pow_ne d1 _)
  have e : (detL T).natAbs ^ n * (detL R).natAbs ^ (n - 1) = k.natAbs * (detL B).natAbs := by
    rw [← Int.natAbs_pow, ← Int.natAbs_pow, ← Int.natAbs_mul, hk, Int.natAbs_mul]
  rw [e]
  have : k ≠ 0 := fun z => h0 (by rw [hk, z]; simp)
  exact Nat.le_mul_of_pos_left _ (by omega)
end
/-- the sum and the intersection of two grids -/
theorem vol_law {n : Nat} {R T B FJ FC : List (List Int)} (hR : Sqr n R) (hT : Sqr n T) (d1 : detL R ≠ 0) (d2 : detL T ≠ 0) (hB : NFull n (bothG R T) B) (hJ : NFull n (R ++ T) FJ) (hC : NFull n (comE R T B) FC) :
    (detL FJ).natAbs * (detL FC).natAbs = (detL R).natAbs * (detL T).natAbs := by
  obtain ⟨FR, hFR⟩ := nf_exists hR.2.2.2
  obtain ⟨FT, hFT⟩ := nf_exists hT.2.2.2
  obtain ⟨r1, r2⟩ := nf_form hR d1 hFR
  obtain ⟨t1, t2⟩ := nf_form hT d2 hFT
  have N1 : NFull n R FR := ⟨hR.2.2.2, hFR, r1, r2⟩
  have N2 : NFull n T FT := ⟨hT.2.2.2, hFT, t1, t2⟩
  rw [join_meet hJ hC N1 N2 (lat_app hR.2.2.2 hT.2.2.2) (com_iff hR hT d1 d2 hB), det_same hR r1 N1.same, det_same hT t1 N2.same]
theorem joined_nf {n : Nat} {R T F : List (List Int)} (hR : Sqr n R) (hT : Sqr n T) (d1 : detL R ≠ 0) (h : IsNF n (R ++ T) F) : NFull n (R ++ T) F := by
  have hl : Len n (R ++ T) := fun r hr => (List.mem_append.mp hr).elim (hR.2.2.2 r) (hT.2.2.2 r)
  have := nf_more hR d1 hl (fun r hr => Lat.of_mem (List.mem_append_left _ hr) (hR.2.2.2 r hr)) h
  exact ⟨hl, h, this.1, this.2⟩
/-! #### ML -/
/-! the scaled dual -/
def gcdF (s : Int) (l : List Int) : Int := l.foldl (fun s x => (Int.gcd s x : Int)) s
def gcdFF (s : Int) (R : List (List Int)) : Int := R.foldl gcdF s
theorem gcdF_spec : ∀ (l : List Int) (s : Int), 0 < s → 0 < gcdF s l ∧ gcdF s l ∣ s ∧ (∀ x ∈ l, gcdF s l ∣ x) ∧ ∀ d k : Int, d ∣ k * s → (∀ x ∈ l, d ∣ k * x) → d ∣ k * gcdF s l
  | [], s, h => ⟨h, Int.dvd_refl _, by simp, fun d k h _ => h⟩
  | a :: l, s, h => by
    have hp : 0 < (Int.gcd s a : Int) := by
      have := Nat.pos_of_ne_zero (fun z => by
        have := (Int.gcd_eq_zero_iff.mp z).1
        omega : Int.gcd s a ≠ 0)
      omega
    obtain ⟨h1, h2, h3, h4⟩ := gcdF_spec l (Int.gcd s a) hp
    have e : gcdF s (a :: l) = gcdF (Int.gcd s a) l := rfl
    rw [e]
    refine ⟨h1, Int.dvd_trans h2 (Int.gcd_dvd_left ..), fun x hx => ?_, fun d k hd hx => h4 d k ?_ fun x hx' => hx x (List.mem_cons_of_mem _ hx')⟩
    · rcases List.mem_cons.mp hx with rfl | hx
      · exact Int.dvd_trans h2 (Int.gcd_dvd_right ..)
      · exact h3 x hx
    · have := Int.dvd_coe_gcd hd (hx a List.mem_cons_self)
      rw [Int.gcd_mul_left] at this
      have e2 : ((k.natAbs * Int.gcd s a : Nat) : Int) = (k.natAbs : Int) * (Int.gcd s a : Int) := by simp
      rw [e2] at this
      have hk : (k.natAbs : Int) ∣ k := Int.natAbs_dvd.mpr (Int.dvd_refl _)
      exact Int.dvd_trans this (Int.mul_dvd_mul hk (Int.dvd_refl _))
theorem gcdFF_spec : ∀ (R : List (List Int)) (s : Int), 0 < s → 0 < gcdFF s R ∧ gcdFF s R ∣ s ∧ (∀ r ∈ R, ∀ x ∈ r, gcdFF s R ∣ x) ∧ ∀ d k : Int, d ∣ k * s → (∀ r ∈ R, ∀ x ∈ r, d ∣ k * x) → d ∣ k * gcdFF s R
  | [], s, h => ⟨h, Int.dvd_refl _, by simp, fun d k h _ => h⟩
  | r :: R, s, h => by
    obtain ⟨g1, g2, g3, g4⟩ := gcdF_spec r s h
    obtain ⟨h1, h2, h3, h4⟩ := gcdFF_spec R (gcdF s r) g1
    have e : gcdFF s (r :: R) = gcdFF (gcdF s r) R := rfl
    rw [e]
    refine ⟨h1, Int.dvd_trans h2 g2, fun u hu x hx => ?_, fun d k hd hx => h4 d k (g4 d k hd fun x hx' => hx r List.mem_cons_self x hx') fun u hu => hx u (List.mem_cons_of_mem _ hu)⟩
    rcases List.mem_cons.mp hu with rfl | hu
    · exact Int.dvd_trans h2 (g3 x hx)
    · exact h3 u hu x hx
def shG (R : List (List Int)) : Int := gcdFF ((detL R).natAbs : Nat) (dualR R)
def scl (R : List (List Int)) : Int := (((detL R).natAbs : Nat) : Int).fdiv (shG R)
def sdE (R : List (List Int)) : List (List Int) := (dualR R).map fun r => r.map fun x => (x * scl R).fdiv (detL R)
section
variable {n : Nat} {R : List (List Int)} (hR : Sqr n R) (hd : detL R ≠ 0)
include hd in
theorem shG_pos : 0 < shG R := (gcdFF_spec (dualR R) _ (by omega)).1
include hd in
theorem scl_mul : scl R * shG R = ((detL R).natAbs : Nat) := Int.fdiv_mul_cancel (gcdFF_spec (dualR R) _ (by omega)).2.1
include hd in
theorem scl_pos : 0 < scl R := by
  have h1 := scl_mul hd
  have h2 := shG_pos hd
  by_cases h : 0 < scl R
  · exact h
  · have := Int.mul_nonpos_of_nonpos_of_nonneg (show scl R ≤ 0 by omega) (Int.le_of_lt h2)
    omega
include hd in
theorem scl_dvd : scl R ∣ ((detL R).natAbs : Nat) := ⟨shG R, (scl_mul hd).symm⟩
include hd in
theorem scl_le : scl R ≤ ((detL R).natAbs : Nat) := Int.le_of_dvd (by omega) (scl_dvd hd)
include hd in
/-- det divides what a row times the scale is -/
theorem scl_exact {r : List Int} (hr : r ∈ dualR R) {x : Int} (hx : x ∈ r) : detL R ∣ x * scl R := by
  obtain ⟨y, hy⟩ := (gcdFF_spec (dualR R) _ (by omega : (0 : Int) < ((detL R).natAbs : Nat))).2.2.1 r hr x hx
  have h1 := scl_mul hd
  have hy : x = shG R * y := hy
  have e : x * scl R = y * ((detL R).natAbs : Nat) := by rw [← h1, hy]; grind
  rw [e]
  exact Int.dvd_mul_of_dvd_right (Int.dvd_natAbs.mpr (Int.dvd_refl _))
include hd in
/-- it is the least -/
theorem scl_least {k : Int} (hk : 0 < k) (h : ∀ r ∈ dualR R, ∀ x ∈ r, detL R ∣ k * x) : scl R ≤ k := by
  have h1 := (gcdFF_spec (dualR R) _ (by omega : (0 : Int) < ((detL R).natAbs : Nat))).2.2.2 (detL R) k (Int.dvd_mul_of_dvd_right (Int.dvd_natAbs.mpr (Int.dvd_refl _))) h
  have h2 := scl_mul hd
  have h3 := shG_pos hd
  have h4 : scl R * shG R ∣ k * shG R := by
    rw [h2]
    exact Int.natAbs_dvd.mpr h1
  have h5 : scl R ∣ k := by
    rw [Int.mul_comm, Int.mul_comm k] at h4
    exact (Int.mul_dvd_mul_iff_left (by omega)).mp h4
  exact Int.le_of_dvd hk h5
include hR hd in
theorem sd_sqr : Sqr n (sdE R) := by
  refine ⟨hR.1, hR.2.1, by simp [sdE, dual_len, hR.2.2.1], fun r hr => ?_⟩
  obtain ⟨u, hu, rfl⟩ := List.mem_map.mp hr
  rw [List.length_map, dual_row hu, hR.2.2.1]
include hR hd in
theorem sd_row {i : Nat} (hi : i < n) : smul (detL R) (row (sdE R) i) = smul (scl R) (row (dualR R) i) := by
  have hi' : i < (dualR R).length := by rw [dual_len, hR.2.2.1]; exact hi
  unfold sdE
  rw [row_map (f := fun r => r.map fun x => (x * scl R).fdiv (detL R)) hi']
  unfold smul
  rw [List.map_map]
  apply List.map_congr_left
  intro x hx
  simp only [Function.comp_apply]
  have := Int.fdiv_mul_cancel (scl_exact hd (mem_row.mpr ⟨i, hi', rfl⟩) hx)
  rw [Int.mul_comm, this, Int.mul_comm]
include hR hd in
theorem sd_iff (v : List Int) : Lat n (sdE R) v ↔ v.length = n ∧ ∀ b ∈ R, scl R ∣ dot b v := dualE hR hd (sd_sqr hR hd) (fun i hi => sd_row hR hd hi) v
include hR hd in
theorem sd_det : detL R * detL (sdE R) = scl R ^ n ∧ detL (sdE R) ≠ 0 := by
  have e : (sdE R).map (smul (detL R)) = (dualR R).map (smul (scl R)) := by
    apply List.ext_getElem (by simp [sdE])
    intro i h1 h2
    have hi : i < n := by
      simp [sdE, dual_len, hR.2.2.1] at h1; exact h1
    have := sd_row hR hd hi
    rw [row_lt (by rw [(sd_sqr hR hd).2.2.1]; exact hi), row_lt (by rw [dual_len, hR.2.2.1]; exact hi)] at this
    simpa using this
  have h1 := congrArg detL e
  rw [det_smul (sd_sqr hR hd), det_smul (dual_sqr hR), det_dual hR] at h1
  have hn := hR.1
  have e2 : detL R ^ n = detL R ^ (n - 1) * detL R := by rw [← Int.pow_succ]; congr 1; omega
  have h2 : detL R ^ (n - 1) * (detL R * detL (sdE R)) = detL R ^ (n - 1) * scl R ^ n := by
    rw [← Int.mul_assoc, ← e2, h1, Int.mul_comm]
  have h3 := Int.eq_of_mul_eq_mul_left (pow_ne hd (n - 1)) h2
  refine ⟨h3, fun z => ?_⟩
  rw [z, Int.mul_zero] at h3
  exact pow_ne (by have := scl_pos hd; omega) n h3.symm
include hR hd in
theorem sd_nf {F : List (List Int)} (h : IsNF n (sdE R) F) : NFull n (sdE R) F := by
  have := nf_form (sd_sqr hR hd) (sd_det hR hd).2 h
  exact ⟨(sd_sqr hR hd).2.2.2, h, this.1, this.2⟩
/-- multiples of the unit vectors -/
def unitS (n : Nat) (k : Int) (i : Nat) : List Int := (List.range n).map fun j => k * (if i = j then 1 else 0)
theorem gt_unitS {n : Nat} {k : Int} {i j : Nat} : gt (unitS n k i) j = if i = j ∧ j < n then k else 0 := by
  by_cases h : j < n
  · rw [gt_lt (by simpa [unitS] using h)]
    simp only [unitS, List.getElem_map, List.getElem_range, h, and_true]
    split <;> simp
  · rw [gt_ge (by simp [unitS]; omega)]
    simp [h]
theorem unitS_len (n : Nat) (k : Int) (i : Nat) : (unitS n k i).length = n := by simp [unitS]
theorem dot_unit {n : Nat} {k : Int} {i : Nat} (hi : i < n) : ∀ u : List Int, u.length = n → dot u (unitS n k i) = k * gt u i := by
  have key : ∀ (m : Nat) (u : List Int) (s : Nat), u.length = m → dot u ((List.range' s m).map fun j => k * (if i = j then 1 else 0)) = if s ≤ i ∧ i < s + m then k * gt u (i - s) else 0 := by
    intro m
    induction m with
    | zero => intro u s hu; rw [List.eq_nil_of_length_eq_zero hu, dot_nil]; rw [if_neg (by omega)]
    | succ m ih =>
      intro u s hu
      match u, hu with
      | a :: u, hu =>
        rw [List.range'_succ, List.map_cons, dot_cons, ih u (s + 1) (by simpa using hu)]
        by_cases e : i = s
        · subst e
          have c1 : ¬ (i + 1 ≤ i ∧ i < i + 1 + m) := by omega
          have c2 : i ≤ i ∧ i < i + (m + 1) := by omega
          simp only [c1, c2, if_false, if_true, Nat.sub_self]
          simp [gt, Int.mul_comm]
        · by_cases e2 : s + 1 ≤ i ∧ i < s + 1 + m
          · have c2 : s ≤ i ∧ i < s + (m + 1) := by omega
            have : i - s = (i - (s + 1)) + 1 := by omega
            simp only [e, e2, c2, if_true, if_false, and_self, this]
            simp [gt]
          · have c2 : ¬ (s ≤ i ∧ i < s + (m + 1)) := by omega
            simp only [e, e2, c2, if_true, if_false]
            simp
  intro u hu
  have := key n u 0 hu
  rw [if_pos (by omega)] at this
  unfold unitS
  rw [List.range_eq_range']
  simpa using this
include hR hd in
/-- all multiples of unit vectors lie in the grid: exactly for multiples of the scale -/
theorem unit_iff {k : Int} : (∀ i, i < n → Lat n R (unitS n k i)) ↔ ∀ r ∈ dualR R, ∀ x ∈ r, detL R ∣ k * x := by
  have lD : ∀ r ∈ dualR R, r.length = n := fun r hr => by rw [dual_row hr, hR.2.2.1]
  constructor
  · intro h r hr x hx
    obtain ⟨i, hi, rfl⟩ := List.getElem_of_mem hx
    have hi' : i < n := by rw [← lD r hr]; exact hi
    have := (lat_dual hR (unitS_len n k i) hd).mp (h i hi') r hr
    rw [dot_unit hi' r (lD r hr), gt_lt hi] at this
    exact this
  · intro h i hi
    rw [lat_dual hR (unitS_len n k i) hd]
    intro r hr
    have hi' : i < r.length := by rw [lD r hr]; exact hi
    rw [dot_unit hi r (lD r hr), gt_lt hi']
    exact h r hr _ (List.getElem_mem hi')
include hR hd in
theorem unit_scl {i : Nat} (hi : i < n) : Lat n R (unitS n (scl R) i) :=
  (unit_iff hR hd).mpr (fun r hr x hx => by rw [Int.mul_comm]; exact scl_exact hd hr hx) i hi
include hR hd in
theorem unit_small {k : Int} (h0 : 0 < k) (hk : k < scl R) : ¬ ∀ i, i < n → Lat n R (unitS n k i) := fun h => by
  have := scl_least hd h0 ((unit_iff hR hd).mp h)
  omega
include hR hd in
theorem unit_sd {i : Nat} (hi : i < n) : Lat n (sdE R) (unitS n (scl R) i) := by
  rw [sd_iff hR hd]
  refine ⟨unitS_len _ _ _, fun b hb => ?_⟩
  rw [dot_unit hi b (hR.2.2.2 b hb)]
  exact Int.dvd_mul_right _ _
end
/-- a normal form's entries, where multiples of the unit vectors lie in the grid -/
theorem nf_bd_m {n : Nat} {G F : List (List Int)} (h : NFull n G F) {m : Int} (hm : 0 < m) (hu : ∀ i, i < n → Lat n G (unitS n m i)) : ∀ v ∈ F, Bd m.natAbs v := by
  have lF := h.sq.2.2.1
  have piv : ∀ i, i < n → gt (row F i) i ≤ m := fun i hi => by
    have := h.dvd (hu i hi) hi (fun j hj => by rw [gt_unitS, if_neg (by omega)])
    rw [gt_unitS, if_pos ⟨rfl, hi⟩] at this
    exact Int.le_of_dvd hm this
  intro v hv x hx
  obtain ⟨r, hr, rfl⟩ := mem_row.mp hv
  obtain ⟨i, hi, rfl⟩ := List.getElem_of_mem hx
  have lr : (row F r).length = n := h.sq.2.2.2 _ hv
  obtain ⟨z, pos, up⟩ := h.sh r hr
  rw [← gt_lt hi]
  rcases Nat.lt_trichotomy i r with c | c | c
  · rw [z i c]; simp
  · subst c
    have := piv i (by omega)
    omega
  · obtain ⟨z2, pos2, up2⟩ := h.sh i (by omega)
    have := up2 r c
    have := piv i (by omega)
    omega
theorem lat_smul {n : Nat} {R : List (List Int)} (hR : Len n R) (k : Int) (w : List Int) : Lat n (R.map (smul k)) w ↔ ∃ v, Lat n R v ∧ w = smul k v := by
  constructor
  · intro h
    induction h with
    | zero => exact ⟨_, .zero, by simp [smul]⟩
    | add j h hr ih =>
      rename_i u r
      obtain ⟨v, hv, rfl⟩ := ih
      obtain ⟨s, hs, rfl⟩ := List.mem_map.mp hr
      refine ⟨plusV v j s, .add j hv hs, ?_⟩
      have lv := hv.len hR
      have ls := hR s hs
      apply ext_gt
      · rw [plus_len (by rw [smul_len, smul_len]; omega), smul_len, smul_len, plus_len (by omega)]
      · intro i _
        rw [gt_plus (by rw [smul_len, smul_len]; omega), gt_smul, gt_smul, gt_smul, gt_plus (by omega)]
        grind
  · rintro ⟨v, hv, rfl⟩
    induction hv with
    | zero =>
      have : smul k (List.replicate n 0) = List.replicate n 0 := by simp [smul]
      rw [this]; exact .zero
    | add j h hr ih =>
      rename_i u r
      have lu := h.len hR
      have lr := hR r hr
      have : smul k (plusV u j r) = plusV (smul k u) j (smul k r) := by
        apply ext_gt
        · rw [plus_len (by rw [smul_len, smul_len]; omega), smul_len, smul_len, plus_len (by omega)]
        · intro i _
          rw [gt_plus (by rw [smul_len, smul_len]; omega), gt_smul, gt_smul, gt_smul, gt_plus (by omega)]
          grind
      rw [this]
      exact .add j ih (List.mem_map.mpr ⟨r, hr, rfl⟩)
/-- the dual of the dual -/
theorem dual_dual {n : Nat} {R F F2 : List (List Int)} (hR : Sqr n R) (hd : detL R ≠ 0) (hF : NFull n (sdE R) F) (hF2 : NFull n (sdE F) F2) : SameL n (R.map (smul (scl F))) (F2.map (smul (scl R))) := by
  have dF : detL F ≠ 0 := by have := nf_det hF.sq hF.sh; omega
  have sR := scl_pos hd
  have sF := scl_pos dF
  have lR := hR.2.2.1
  apply SameL.of (sqr_smul hR _).2.2.2 (sqr_smul hF2.sq _).2.2.2
  · intro w hw
    obtain ⟨b, hb, rfl⟩ := List.mem_map.mp hw
    have lb := hR.2.2.2 b hb
    rw [lat_smul hF2.sq.2.2.2]
    have dv : ∀ i, i < n → scl R ∣ scl F * gt b i := fun i hi => by
      have h1 := (hF.same _).mpr (unit_scl hF.sq dF hi)
      have h2 := ((sd_iff hR hd _).mp h1).2 b hb
      rwa [dot_unit hi b lb] at h2
    refine ⟨b.map fun x => (scl F * x).fdiv (scl R), ?_, ?_⟩
    · have hv : smul (scl R) (b.map fun x => (scl F * x).fdiv (scl R)) = smul (scl F) b := by
        unfold smul
        rw [List.map_map]
        apply List.map_congr_left
        intro x hx
        obtain ⟨i, hi, rfl⟩ := List.getElem_of_mem hx
        have := dv i (by omega)
        rw [gt_lt hi] at this
        simp only [Function.comp_apply]
        rw [Int.mul_comm]; exact Int.fdiv_mul_cancel this
      rw [← hF2.same, sd_iff hF.sq dF]
      refine ⟨by rw [List.length_map]; exact lb, fun f hf => ?_⟩
      have h1 := ((sd_iff hR hd f).mp ((hF.same f).mpr (Lat.of_mem hf (hF.sq.2.2.2 f hf)))).2 b hb
      obtain ⟨c, hc⟩ := h1
      refine ⟨c, Int.eq_of_mul_eq_mul_left (show scl R ≠ 0 by omega) ?_⟩
      rw [← dot_smul, hv, dot_smul, dot_comm, hc]
      grind
    · unfold smul
      rw [List.map_map]
      apply List.map_congr_left
      intro x hx
      obtain ⟨i, hi, rfl⟩ := List.getElem_of_mem hx
      have := dv i (by omega)
      rw [gt_lt hi] at this
      simp only [Function.comp_apply]
      rw [Int.mul_comm (scl R)]; exact (Int.fdiv_mul_cancel this).symm
  · intro w hw
    obtain ⟨v, hv, rfl⟩ := List.mem_map.mp hw
    have lv := hF2.sq.2.2.2 v hv
    have hv2 := ((sd_iff hF.sq dF v).mp ((hF2.same v).mpr (Lat.of_mem hv lv))).2
    have hk : ∀ i, i < n → scl F ∣ dot (row (sdE R) i) v := fun i hi => by
      have : row (sdE R) i ∈ sdE R := mem_row.mpr ⟨i, by rw [(sd_sqr hR hd).2.2.1]; exact hi, rfl⟩
      exact dl_lat hF.sq.2.2.2 hv2 ((hF.same _).mp (Lat.of_mem this ((sd_sqr hR hd).2.2.2 _ this)))
    have hk2 : ∃ k : Nat → Int, ∀ i, i < n → dot (row (sdE R) i) v = scl F * k i := by
      refine ⟨fun i => if hi : i < n then (hk i hi).choose else 0, fun i hi => ?_⟩
      simp only [hi, dite_true]
      exact (hk i hi).choose_spec
    obtain ⟨k, hk⟩ := hk2
    have c := cramV hR lv
    rw [← dual_sol hR lv] at c
    have eq : smul (scl R) v = mixV ((List.range n).map k) (R.map (smul (scl F))) := by
      apply ext_gt (by rw [mixV_len, smul_len, List.length_map, lR, lv])
      intro j hj
      rw [smul_len, lv] at hj
      apply Int.eq_of_mul_eq_mul_left hd
      have c1 := congrArg (fun u => gt u j) c
      simp only [gt_smul] at c1
      rw [gt_mix lR _ hj] at c1
      rw [gt_smul, gt_mix (by rw [List.length_map, lR]) _ hj]
      have e1 : ∀ (l : List Nat) (g : Nat → Int) (a : Int), a * (l.map g).sum = (l.map fun x => a * g x).sum := by
        intro l g a
        induction l with
        | nil => simp
        | cons x l ih => simp only [List.map_cons, List.sum_cons, Int.mul_add, ih]
      rw [Int.mul_comm (scl R), ← Int.mul_assoc, c1, Int.mul_comm _ (scl R), e1, e1]
      congr 1
      apply List.map_congr_left
      intro i hi
      have hi' : i < n := by simpa using hi
      have g1 : gt ((dualR R).map fun r => dot r v) i = dot (row (dualR R) i) v := by
        rw [gt_lt (by simp [dual_len]; omega), row_lt (by rw [dual_len]; omega)]
        simp
      have g2 : gt ((List.range n).map k) i = k i := by
        rw [gt_lt (by simpa using hi')]; simp
      have g3 := congrArg (fun u => dot u v) (sd_row hR hd hi')
      simp only [dot_smul_l] at g3
      rw [g1, g2, row_map (f := smul (scl F)) (by omega), gt_smul]
      rw [hk i hi'] at g3
      have : scl R * (dot (row (dualR R) i) v * gt (row R i) j) = (scl R * dot (row (dualR R) i) v) * gt (row R i) j := by grind
      rw [this, ← g3]
      grind
    rw [eq]
    exact lat_mix (sqr_smul hR _) (by simp)
/-! #### MM -/
/-! Is a vector generated by rows in normal form? -/
/-- the place of the first entry that is not 0 -/
def lead : List Int → Nat
  | [] => 0
  | x :: r => if x ≠ 0 then 0 else lead r + 1
theorem lead_at : ∀ {v : List Int} {p : Nat}, zb p v → gt v p ≠ 0 → lead v = p
  | [], p, _, h => absurd (gt_ge (Nat.zero_le _)) h
  | x :: r, 0, _, h => by
    have : x ≠ 0 := h
    simp [lead, this]
  | x :: r, p + 1, z, h => by
    have h0 : x = 0 := z 0 (Nat.succ_pos _)
    have zr : zb p r := fun i hi => z (i + 1) (Nat.succ_lt_succ hi)
    have := lead_at zr (show gt r p ≠ 0 from h)
    simp [lead, h0, this]
def redStep (v f : List Int) : List Int := plusV v (-(gt v (lead f)).fdiv (gt f (lead f))) f
def redV (F : List (List Int)) (v : List Int) : List Int := F.foldl redStep v
theorem redStep_len {v f : List Int} (h : v.length = f.length) : (redStep v f).length = v.length := plus_len h
theorem redV_len {n : Nat} : ∀ {F : List (List Int)} {v : List Int}, Len n F → v.length = n → (redV F v).length = n
  | [], v, _, h => h
  | f :: F, v, hF, h => by
    have hf := hF f (by simp)
    exact redV_len (F := F) (v := redStep v f) (fun r hr => hF r (List.mem_cons_of_mem _ hr)) (by rw [redStep_len (by omega), h])
theorem plus_back {n : Nat} {v f : List Int} (hv : v.length = n) (hf : f.length = n) (k : Int) : plusV (plusV v k f) (-k) f = v := by
  have l1 : (plusV v k f).length = n := by rw [plus_len (by omega), hv]
  apply ext_gt
  · rw [plus_len (by omega), l1, hv]
  · intro i _
    rw [gt_plus (by omega), gt_plus (by omega)]
    rw [Int.neg_mul]; omega
theorem gen_lat {n : Nat} {R : List (List Int)} (hR : Len n R) : ∀ {F : List (List Int)} {v : List Int}, (∀ f ∈ F, Lat n R f) → v.length = n → (Lat n R (redV F v) ↔ Lat n R v)
  | [], v, _, _ => Iff.rfl
  | f :: F, v, hF, hv => by
    have lf := hF f (by simp)
    have hf : f.length = n := lf.len hR
    have step : (redStep v f).length = n := by rw [redStep_len (by omega), hv]
    refine (gen_lat hR (F := F) (v := redStep v f) (fun r hr => hF r (List.mem_cons_of_mem _ hr)) step).trans ⟨fun h => ?_, fun h => ?_⟩
    · have := Lat.comb hR h (-(-(gt v (lead f)).fdiv (gt f (lead f)))) lf
      unfold redStep at this
      rwa [plus_back hv hf] at this
    · exact Lat.comb hR h _ lf
theorem rowsOf_suc (p : Nat) (g : Nat → Option (List Int)) : rowsOf (p + 1) g = rowsOf p g ++ (g p).toList := by
  unfold rowsOf
  rw [List.range_succ, List.filterMap_append]
  cases h : g p <;> simp [h]
theorem redV_app (F G : List (List Int)) (v : List Int) : redV (F ++ G) v = redV G (redV F v) := List.foldl_append
theorem gen_zb {n : Nat} {R : List (List Int)} (hR : Len n R) {g : Nat → Option (List Int)} (hg : EchP n n (Lat n R) g) {v : List Int} (hv : Lat n R v) : ∀ p, p ≤ n → Lat n R (redV (rowsOf p g) v) ∧ zb p (redV (rowsOf p g) v)
  | 0, _ => ⟨hv, fun i hi => absurd hi (Nat.not_lt_zero _)⟩
  | p + 1, hp => by
    obtain ⟨lw, zw⟩ := gen_zb hR hg hv p (by omega)
    obtain ⟨g0, g1⟩ := hg p (by omega)
    rw [rowsOf_suc, redV_app]
    generalize redV (rowsOf p g) v = w at lw zw
    cases e : g p with
    | none =>
      refine ⟨lw, fun i hi => ?_⟩
      rcases Nat.lt_succ_iff_lt_or_eq.mp hi with q | q
      · exact zw i q
      · rw [q]; exact g0 e w lw zw
    | some f =>
      obtain ⟨lf, hf, zf, pf, dv, _⟩ := g1 f e
      have hw := lw.len hR
      have ld : lead f = p := lead_at zf (by omega)
      show Lat n R (redStep w f) ∧ zb (p + 1) (redStep w f)
      refine ⟨Lat.comb hR lw _ lf, fun i hi => ?_⟩
      unfold redStep
      rw [gt_plus (by omega), ld]
      rcases Nat.lt_succ_iff_lt_or_eq.mp hi with q | q
      · rw [zw i q, zf i q]; simp
      · subst q
        obtain ⟨c, hc⟩ := dv w lw zw
        rw [hc, Int.mul_fdiv_cancel_left _ (by omega)]
        rw [Int.neg_mul, Int.mul_comm c]; omega
/-- a vector is in the grid just if it is reduced to 0 -/
theorem gen_iff {n : Nat} {R F : List (List Int)} (hR : Len n R) (h : IsNF n R F) {v : List Int} (hv : v.length = n) : (redV F v).all (· == 0) = true ↔ Lat n R v := by
  obtain ⟨g, rfl, hg⟩ := h
  have hF : ∀ f ∈ rowsOf n g, Lat n R f := fun f hf => by
    obtain ⟨q, hq, e⟩ := List.mem_filterMap.mp hf
    exact ((hg q (List.mem_range.mp hq)).2 f e).1
  have hl : (redV (rowsOf n g) v).length = n := redV_len (fun f hf => (hF f hf).len hR) hv
  constructor
  · intro z
    refine (gen_lat hR hF hv).mp ?_
    have : redV (rowsOf n g) v = List.replicate n 0 := by
      refine List.eq_replicate_iff.mpr ⟨hl, fun x hx => ?_⟩
      simpa using List.all_eq_true.mp z x hx
    rw [this]; exact .zero
  · intro z
    obtain ⟨_, zb'⟩ := gen_zb hR hg z n (Nat.le_refl _)
    rw [List.all_eq_true]
    intro x hx
    obtain ⟨i, hi, e⟩ := List.getElem_of_mem hx
    have := zb' i (by omega)
    rw [gt_lt hi, e] at this
    simpa using this
/-! #### FX -/
/-! ### what a call ends with -/
inductive Oc (α : Type) where
  | ret (a : α)
  | rai (k : Int)
deriving DecidableEq
theorem eqv2 (a b : Str) (P Q : PyData) : PyData.eqv (.tuple [.str a, P]) (.tuple [.str b, Q]) = ((a == b) && PyData.eqv P Q) := by
  simp only [PyData.eqv, PyData.eqvAll, Bool.and_true]
theorem sok1 : PyData.strOk "returned" = true := by decide +kernel
theorem sok2 : PyData.strOk "raised" = true := by decide +kernel
def eO {α : Type} [DecidableEq α] (E : Enc α) : Enc (Oc α) where
  e o := match o with
    | .ret a => .tup [.str "returned", E.e a]
    | .rai k => .tup [.str "raised", .int k]
  p o := match o with
    | .ret a => .tuple [.str "returned", E.p a]
    | .rai k => .tuple [.str "raised", .int k]
  n := E.n + 1
  hp o := by
    cases o with
    | ret a => simp [pyD, pyDs, E.hp]
    | rai k => simp [pyD, pyDs]
  lay o := by
    cases o with
    | ret a => simp [PyData.canLay0, PyData.canLayAll0, E.lay, sok1]
    | rai k => simp [PyData.canLay0, PyData.canLayAll0, sok2]
  dp o := by
    cases o with
    | ret a => have := E.dp a; simp only [PyData.depth, PyData.depthAll]; omega
    | rai k => simp only [PyData.depth, PyData.depthAll]; omega
  eq a b := by
    have e1 : (("returned" : Str) == ("raised" : Str)) = false := by decide
    have e2 : (("raised" : Str) == ("returned" : Str)) = false := by decide
    cases a with
    | ret a =>
      cases b with
      | ret b => rw [eqv2, E.eq, beq_self_eq_true, Bool.true_and]; simp
      | rai k => rw [eqv2, e1, Bool.false_and]; simp
    | rai j =>
      cases b with
      | ret b => rw [eqv2, e2, Bool.false_and]; simp
      | rai k =>
        rw [eqv2, beq_self_eq_true, Bool.true_and]
        have := eI.eq j k
        rw [show PyData.eqv (.int j) (.int k) = decide (j = k) from this]
        simp
theorem Enc.shp {α : Type} [DecidableEq α] (E : Enc α) (hn : E.n ≤ 60) (a : α) : SeqAt.shaped (E.p a) = true := by
  unfold SeqAt.shaped
  rw [E.lay]
  have := E.dp a
  simp
  omega
theorem oEq_O {α : Type} [DecidableEq α] (E : Enc α) (hn : E.n ≤ 50) (a b : Oc α) (S : Sto) (Q : QD) (h : Q (.bl (decide (a = b))) S) : oEq ((eO E).e a) ((eO E).e b) S Q := by
  have hn' : (eO E).n ≤ 60 := by show E.n + 1 ≤ 60; omega
  have h1 := (eO E).hp a
  have h2 := (eO E).hp b
  rw [← (eO E).eq] at h
  cases a <;> cases b <;> exact ⟨_, _, h1, h2, (eO E).shp hn' _, (eO E).shp hn' _, h⟩
theorem oNe_O {α : Type} [DecidableEq α] (E : Enc α) (hn : E.n ≤ 50) (a b : Oc α) (S : Sto) (Q : QD) (h : Q (.bl (!decide (a = b))) S) : oNe ((eO E).e a) ((eO E).e b) S Q := by
  have hn' : (eO E).n ≤ 60 := by show E.n + 1 ≤ 60; omega
  have h1 := (eO E).hp a
  have h2 := (eO E).hp b
  rw [← (eO E).eq] at h
  cases a <;> cases b <;> exact ⟨_, _, h1, h2, (eO E).shp hn' _, (eO E).shp hn' _, h⟩
/-! ### the class of an exception -/
def exIx (x : Str) : Nat := exNs.idxOf x
theorem ex_key : ∀ x ∈ exNs, (exNs.map (fun y => decide (x = y))).count true = 1 ∧ (exNs.map (fun y => decide (x = y)))[exIx x]? = some true ∧ ∀ m, m < exIx x → (exNs.map (fun y => decide (x = y)))[m]? ≠ some true := by
  decide +kernel
def c__law_name : Ct := fun ds S Q _ => ∃ x, ds = [.exc x] ∧ x ∈ exNs ∧ Q (.int (exIx x : Nat)) S
/-- _law_name -/
def N__law_name : List Str := ["caught", "found"]
def b__law_name : DB := (DB.cons (DS.iff (DT.not (DT.val (DE.isVE (DE.var 0)))) (DB.cons (DS.ret (DE.neg (DE.con (.int 1))))
  DB.nil) DB.nil)
  (DB.cons (DS.set 1 (DE.lst (DL.dis (DA.cons (DE.isX "InvalidBasis" (DE.var 0)) (DA.cons (DE.isX "InvalidVector" (DE.var 0)) DA.nil)))))
  (DB.cons (DS.set 1 (DE.op .Add (DE.var 1) (DE.lst (DL.dis (DA.cons (DE.isX "InvalidLength" (DE.var 0)) (DA.cons (DE.isX "InvalidPoint" (DE.var 0)) DA.nil))))))
  (DB.cons (DS.set 1 (DE.op .Add (DE.var 1) (DE.lst (DL.dis (DA.cons (DE.isX "InvalidDimension" (DE.var 0)) (DA.cons (DE.isX "InvalidNumber" (DE.var 0)) DA.nil))))))
  (DB.cons (DS.set 1 (DE.op .Add (DE.var 1) (DE.lst (DL.dis (DA.cons (DE.isX "InvalidText" (DE.var 0)) (DA.cons (DE.isX "Unlike" (DE.var 0)) DA.nil))))))
  (DB.cons (DS.set 1 (DE.op .Add (DE.var 1) (DE.lst (DL.dis (DA.cons (DE.isX "NotPart" (DE.var 0)) (DA.cons (DE.isX "TooMany" (DE.var 0)) DA.nil))))))
  (DB.cons (DS.set 1 (DE.op .Add (DE.var 1) (DE.lst (DL.dis (DA.cons (DE.isX "TooLarge" (DE.var 0)) (DA.cons (DE.isX "NothingToUndo" (DE.var 0)) DA.nil))))))
  (DB.cons (DS.ret (DE.ite (DT.cmp .Eq (DE.count (DE.var 1) (DE.con (.bl true))) (DE.con (.int 1))) (DE.index (DE.var 1) (DE.con (.bl true))) (DE.neg (DE.con (.int 1)))))
  DB.nil))))))))
theorem w__law_name {ds : List D} {S : Sto} {Q : QD} {X : XD} (h : c__law_name ds S Q X) : ctOf N__law_name.length b__law_name ds S Q X := by
  obtain ⟨x, rfl, hx, h⟩ := h
  unfold b__law_name N__law_name
  walk_at "wp"
  refine ⟨x, rfl, hx, ?_⟩
  walk_at "wp"
  obtain ⟨k1, k2, k3⟩ := ex_key x hx
  refine ⟨x, rfl, hx, x, rfl, hx, x, rfl, hx, x, rfl, hx, szLe (by omega), x, rfl, hx, x, rfl, hx, szLe (by omega), x, rfl, hx, x, rfl, hx, szLe (by omega), x, rfl, hx, x, rfl, hx, szLe (by omega), x, rfl, hx, x, rfl, hx, szLe (by omega), ?_⟩
  refine ⟨rfl, exNs.map (fun y => decide (x = y)), rfl, ?_⟩
  rw [k1]
  walk_at "wp"
  exact ⟨rfl, exNs.map (fun y => decide (x = y)), exIx x, rfl, k2, k3, h⟩
def lawNs : List Str := ["basis", "vector", "length", "point", "dimension", "number", "text", "unlike", "part", "many", "large", "undo"]
def c__law_raises : Ct := fun ds S Q _ => ∃ (s : Str) (j : Nat), ds = [.str s] ∧ lawNs[j]? = some s ∧ (∀ m, m < j → lawNs[m]? ≠ some s) ∧ Q (.tup [.str "raised", .int (j : Nat)]) S
/-- _law_raises -/
def N__law_raises : List Str := ["name", "names"]
def b__law_raises : DB := (DB.cons (DS.set 1 (DE.lst (DL.dis (DA.cons (DE.con (.str "basis")) (DA.cons (DE.con (.str "vector")) (DA.cons (DE.con (.str "length")) (DA.cons (DE.con (.str "point")) (DA.cons (DE.con (.str "dimension")) (DA.cons (DE.con (.str "number")) DA.nil)))))))))
  (DB.cons (DS.set 1 (DE.op .Add (DE.var 1) (DE.lst (DL.dis (DA.cons (DE.con (.str "text")) (DA.cons (DE.con (.str "unlike")) (DA.cons (DE.con (.str "part")) (DA.cons (DE.con (.str "many")) (DA.cons (DE.con (.str "large")) (DA.cons (DE.con (.str "undo")) DA.nil))))))))))
  (DB.cons (DS.ret (DE.tup (DA.cons (DE.con (.str "raised")) (DA.cons (DE.index (DE.var 1) (DE.var 0)) DA.nil))))
  DB.nil)))
theorem w__law_raises {ds : List D} {S : Sto} {Q : QD} {X : XD} (h : c__law_raises ds S Q X) : ctOf N__law_raises.length b__law_raises ds S Q X := by
  obtain ⟨s, j, rfl, hj, hm, h⟩ := h
  unfold b__law_raises N__law_raises
  walk_at "wp"
  exact ⟨szLe (by simp), rfl, lawNs, j, rfl, hj, hm, h⟩
/-! #### FS -/
/-! ### sessions -/
structure SV where
  n : Nat
  cur : List (List Int)
  er : List D
  dn : List D
  un : List D
  e : Nat
  d : Nat
  u : Nat
structure Ses (S : Sto) (i : Nat) (s : SV) : Prop where
  ins : S[i]? = some (.ins "Session" (sesF (.int s.n) (.tup (s.cur.map VE)) (.han s.e) (.han s.d) (.han s.u)))
  her : S[s.e]? = some (.lst s.er)
  hdn : S[s.d]? = some (.lst s.dn)
  hun : S[s.u]? = some (.lst s.un)
  ed : s.e ≠ s.d
  eu : s.e ≠ s.u
  du : s.d ≠ s.u
/-- all but the places L stand as they were -/
def Frm (L : List Nat) (S S' : Sto) : Prop := S.length ≤ S'.length ∧ ∀ j, j < S.length → j ∉ L → S'[j]? = S[j]?
def c_Session_generators : Ct := fun ds S Q _ => ∃ i s, ds = [.han i] ∧ Ses S i s ∧ Q (.tup (s.cur.map VE)) S
/-- Session_generators -/
def N_Session_generators : List Str := ["self"]
def b_Session_generators : DB := (DB.cons (DS.ret (DE.fld "Session" (DE.var 0) "current"))
  DB.nil)
theorem w_Session_generators {ds : List D} {S : Sto} {Q : QD} {X : XD} (h : c_Session_generators ds S Q X) : ctOf N_Session_generators.length b_Session_generators ds S Q X := by
  obtain ⟨i, s, rfl, hs, h⟩ := h
  unfold b_Session_generators N_Session_generators
  walk_at "wp"
  exact ⟨_, hs.ins, _, sg1 _ _ _ _ _, h⟩
def c_Session___len__ : Ct := fun ds S Q _ => ∃ i s, ds = [.han i] ∧ Ses S i s ∧ s.cur.length ≤ 1000 ∧ Q (.int s.cur.length) S
/-- Session___len__ -/
def N_Session___len__ : List Str := ["self"]
def b_Session___len__ : DB := (DB.cons (DS.ret (DE.len (DA.cons (DE.fld "Session" (DE.var 0) "current") DA.nil)))
  DB.nil)
theorem w_Session___len__ {ds : List D} {S : Sto} {Q : QD} {X : XD} (h : c_Session___len__ ds S Q X) : ctOf N_Session___len__.length b_Session___len__ ds S Q X := by
  obtain ⟨i, s, rfl, hs, hl, h⟩ := h
  unfold b_Session___len__ N_Session___len__
  walk_at "wp"
  refine ⟨_, hs.ins, _, sg1 _ _ _ _ _, ?_⟩
  walk_at "wp"
  rw [List.length_map]
  exact h
def c_Session_perform : Ct := fun ds S Q _ => ∃ i s new op, ds = [.han i, .tup (new.map VE), op] ∧ Ses S i s ∧ s.er.length ≤ 1000 ∧ s.dn.length ≤ 1000 ∧
  ∀ S', Ses S' i ⟨s.n, new, s.er ++ [.tup (s.cur.map VE)], s.dn ++ [op], [], s.e, s.d, S.length⟩ → Frm [i, s.e, s.d] S S' → Q .non S'
/-- Session_perform -/
def N_Session_perform : List Str := ["self", "vectors", "operation"]
def b_Session_perform : DB := (DB.cons (DS.expr (DE.append (DE.fld "Session" (DE.var 0) "earlier") (DE.fld "Session" (DE.var 0) "current")))
  (DB.cons (DS.fld "Session" (DE.var 0) "current" (DE.var 1))
  (DB.cons (DS.expr (DE.append (DE.fld "Session" (DE.var 0) "done") (DE.var 2)))
  (DB.cons (DS.fld "Session" (DE.var 0) "undone" (DE.thw (DL.dis DA.nil)))
  DB.nil))))
theorem w_Session_perform {ds : List D} {S : Sto} {Q : QD} {X : XD} (h : c_Session_perform ds S Q X) : ctOf N_Session_perform.length b_Session_perform ds S Q X := by
  obtain ⟨i, s, new, op, rfl, hs, h1, h2, h⟩ := h
  have a1 := hs.ins; have a2 := hs.her; have a3 := hs.hdn; have a4 := hs.hun
  have n1 : i ≠ s.e := fun e => by rw [e, a2] at a1; cases a1
  have n2 : i ≠ s.d := fun e => by rw [e, a3] at a1; cases a1
  have l1 : i < S.length := (List.getElem?_eq_some_iff.mp a1).1
  have l2 : s.e < S.length := (List.getElem?_eq_some_iff.mp a2).1
  have l3 : s.d < S.length := (List.getElem?_eq_some_iff.mp a3).1
  have l4 : s.u < S.length := (List.getElem?_eq_some_iff.mp a4).1
  have n3 := hs.ed
  unfold b_Session_perform N_Session_perform
  walk_at "wp"
  refine ⟨_, a1, _, sg2 _ _ _ _ _, by simp [recD, a2], _, a1, _, sg1 _ _ _ _ _, _, a2, by rw [sizeLine_eq]; omega, ?_⟩
  have b1 : (S.set s.e (.lst (s.er ++ [.tup (s.cur.map VE)])))[i]? = some (.ins "Session" (sesF (.int s.n) (.tup (s.cur.map VE)) (.han s.e) (.han s.d) (.han s.u))) := by
    rw [List.getElem?_set_ne (Ne.symm n1)]; exact a1
  refine ⟨_, b1, by rw [sl0]; omega, ?_⟩
  walk_at "wp"
  generalize hT : (S.set s.e (.lst (s.er ++ [.tup (s.cur.map VE)]))).set i (.ins "Session" (sesF (.int s.n) (.tup (new.map VE)) (.han s.e) (.han s.d) (.han s.u))) = T
  have t0 : T.length = S.length := by rw [← hT]; simp
  have t1 : T[i]? = some (.ins "Session" (sesF (.int s.n) (.tup (new.map VE)) (.han s.e) (.han s.d) (.han s.u))) := by
    rw [← hT, List.getElem?_set_self (by simpa using l1)]
  have t2 : T[s.e]? = some (.lst (s.er ++ [.tup (s.cur.map VE)])) := by
    rw [← hT, List.getElem?_set_ne n1, List.getElem?_set_self l2]
  have t3 : T[s.d]? = some (.lst s.dn) := by
    rw [← hT, List.getElem?_set_ne n2, List.getElem?_set_ne n3]; exact a3
  have t4 : ∀ j, j ≠ i → j ≠ s.e → T[j]? = S[j]? := fun j h1 h2 => by
    rw [← hT, List.getElem?_set_ne (Ne.symm h1), List.getElem?_set_ne (Ne.symm h2)]
  clear hT
  refine ⟨_, t1, _, sg3 _ _ _ _ _, by simp [recD, t3], _, t3, by rw [sizeLine_eq]; omega, ?_⟩
  have g : ∀ j, j < S.length → (T.set s.d (.lst (s.dn ++ [op])) ++ [.lst []])[j]? = (T.set s.d (.lst (s.dn ++ [op])))[j]? := fun j hj => List.getElem?_append_left (by simpa [t0] using hj)
  refine ⟨_, (g i l1).trans (by rw [List.getElem?_set_ne (Ne.symm n2)]; exact t1), by rw [sl0]; omega, ?_⟩
  rw [sp4, show (T.set s.d (.lst (s.dn ++ [op]))).length = S.length by simp [t0]]
  refine h _ ⟨?_, ?_, ?_, ?_, n3, by show s.e ≠ S.length; omega, by show s.d ≠ S.length; omega⟩ ⟨by simp [t0], fun j hj nj => ?_⟩
  · rw [List.getElem?_set_self (by simp [t0]; omega)]
  · show (_ : Sto)[s.e]? = _
    rw [List.getElem?_set_ne n1, g _ l2, List.getElem?_set_ne (Ne.symm n3)]; exact t2
  · show (_ : Sto)[s.d]? = _
    rw [List.getElem?_set_ne n2, g _ l3, List.getElem?_set_self (by omega)]
  · show (_ : Sto)[S.length]? = _
    rw [List.getElem?_set_ne (by omega), List.getElem?_append_right (by simp [t0])]
    simp [t0]
  · simp only [List.mem_cons, List.not_mem_nil, or_false, not_or] at nj
    rw [List.getElem?_set_ne (Ne.symm nj.1), g _ hj, List.getElem?_set_ne (Ne.symm nj.2.2)]
    exact t4 j nj.1 nj.2.1
/-- what is always so -/
structure SOk (s : SV) : Prop where
  n1 : 1 ≤ s.n
  n3 : s.n ≤ 3
  len : Len s.n s.cur
  bd : ∀ u ∈ s.cur, Bd 1000000 u
  few : s.cur.length ≤ 8
  er : s.er.length ≤ 900
  dn : s.dn.length ≤ 900
def c_Session_rows : Ct := fun ds S Q _ => ∃ i s, ds = [.han i] ∧ Ses S i s ∧ SOk s ∧ ∀ F, IsNF s.n s.cur F → ((∀ u ∈ F, Bd (2 ^ bt 20 s.n) u) ∧ Pv s.n F) → Q (.tup (F.map VE)) S
/-- Session_rows -/
def N_Session_rows : List Str := ["self"]
def b_Session_rows : DB := (DB.cons (DS.ret (DE.call "echelon" c_echelon (DA.cons (DE.fld "Session" (DE.var 0) "current") (DA.cons (DE.fld "Session" (DE.var 0) "size") DA.nil))))
  DB.nil)
theorem w_Session_rows {ds : List D} {S : Sto} {Q : QD} {X : XD} (h : c_Session_rows ds S Q X) : ctOf N_Session_rows.length b_Session_rows ds S Q X := by
  obtain ⟨i, s, rfl, hs, ok, h⟩ := h
  unfold b_Session_rows N_Session_rows
  walk_at "wp"
  refine ⟨_, hs.ins, _, sg1 _ _ _ _ _, _, hs.ins, _, sg0 _ _ _ _ _, ?_⟩
  exact ⟨s.cur, _, s.n, 20, rfl, .inl rfl, ok.len, ok.n3, by have := ok.few; omega, by omega, fun u hu => (ok.bd u hu).mono (by decide), h⟩
def c_Session___init__ : Ct := fun ds S Q X => ∃ i x, ds = [.han i, x] ∧ okD x = true ∧ S[i]? = some (.ins "Session" []) ∧
  if btw 1 3 x = true then ∀ n : Nat, x = .int n → ∀ S', Ses S' i ⟨n, [], [], [], [], S.length, S.length + 1, S.length + 2⟩ → Frm [i] S S' → Q .non S' else X "InvalidDimension" S
/-- Session___init__ -/
def N_Session___init__ : List Str := ["self", "n"]
def b_Session___init__ : DB := (DB.cons (DS.iff (DT.not (DT.val (DE.call "is_between" c_is_between (DA.cons (DE.var 1) (DA.cons (DE.con (.int 1)) (DA.cons (DE.con (.int 3)) DA.nil)))))) (DB.cons (DS.raise "InvalidDimension")
  DB.nil) DB.nil)
  (DB.cons (DS.fld "Session" (DE.var 0) "size" (DE.var 1))
  (DB.cons (DS.fld "Session" (DE.var 0) "current" (DE.tup DA.nil))
  (DB.cons (DS.fld "Session" (DE.var 0) "earlier" (DE.thw (DL.dis DA.nil)))
  (DB.cons (DS.fld "Session" (DE.var 0) "done" (DE.thw (DL.dis DA.nil)))
  (DB.cons (DS.fld "Session" (DE.var 0) "undone" (DE.thw (DL.dis DA.nil)))
  DB.nil))))))
theorem w_Session___init__ {ds : List D} {S : Sto} {Q : QD} {X : XD} (h : c_Session___init__ ds S Q X) : ctOf N_Session___init__.length b_Session___init__ ds S Q X := by
  obtain ⟨i, x, rfl, hx, hi, h⟩ := h
  unfold b_Session___init__ N_Session___init__
  walk_at "wp"
  refine ⟨x, 1, 3, rfl, hx, ?_⟩
  walk_at "wp"
  by_cases hb : btw 1 3 x = true
  · rw [if_pos hb] at h
    rw [if_neg (by simp [hb])]
    obtain ⟨n, rfl⟩ : ∃ n : Nat, x = .int n := by
      cases x with
      | int m =>
        have : 1 ≤ m := by simp [btw] at hb; omega
        exact ⟨m.toNat, by rw [Int.toNat_of_nonneg (by omega)]⟩
      | _ => simp [btw] at hb
    have l : i < S.length := (List.getElem?_eq_some_iff.mp hi).1
    have k2 : ∀ (a b : O) (L : List O), (S.set i a ++ L).set i b = S.set i b ++ L := fun a b L => by
      rw [List.set_append_left _ _ (by simpa using l), List.set_set]
    have k3 : ∀ a : O, (S.set i a)[i]? = some a := fun a => List.getElem?_set_self l
    have k4 : ∀ (a : O) (L : List O), (S.set i a ++ L)[i]? = some a := fun a L => by
      rw [List.getElem?_append_left (by simpa using l)]; exact k3 a
    simp only [hi, List.set_set, k2, k3, k4, Option.some.injEq, O.ins.injEq, true_and, exists_eq_left', si0, si1, si2, si3, si4, sl1, sl2, sl3, sl4, List.length_nil, List.length_set, List.length_append, List.length_cons, List.append_assoc, List.cons_append, List.nil_append]
    refine ⟨by omega, by omega, by omega, by omega, by omega, ?_⟩
    refine h n rfl _ ⟨k4 _ _, ?_, ?_, ?_, ?_, ?_, ?_⟩ ⟨by simp, fun j hj nj => ?_⟩
    · simp
    · simp
    · simp
    · simp
    · simp
    · simp
    · have nj' : j ≠ i := by simpa using nj
      rw [List.getElem?_append_left (by simpa using hj), List.getElem?_set_ne (Ne.symm nj')]
  · rw [if_neg hb] at h
    rw [if_pos (by simp [hb])]
    exact h
def c_is_generated : Ct := fun ds S Q _ => ∃ (n : Nat) (F : List (List Int)) (v : List Int), ds = [.tup (F.map VE), VE v] ∧ Len n F ∧ v.length = n ∧ n ≤ 3 ∧ F.length ≤ 3 ∧ (∀ f ∈ F, ∃ p, zb p f ∧ gt f p ≠ 0 ∧ Sm 8889 (gt f p)) ∧
  (∀ f ∈ F, ∀ x ∈ f, Sm 40000 x) ∧ (∀ x ∈ v, Sm 21 x) ∧ Q (.bl ((redV F v).all (· == 0))) S
/-- is_generated -/
def N_is_generated : List Str := ["rows", "vector", "row", "place", "entry"]
def b_is_generated : DB := (DB.cons (DS.for (DG.nm 2) (DI.seq (DE.var 0)) (DB.cons (DS.set 3 (DE.index (DE.lst (DL.comp [("entry", 4)] (DG.nm 4) (DI.seq (DE.var 2)) DF.no (DE.cmp .NotEq (DE.var 4) (DE.con (.int 0))))) (DE.con (.bl true))))
  (DB.cons (DS.set 1 (DE.call "plus" c_plus (DA.cons (DE.var 1) (DA.cons (DE.neg (DE.op .FloorDiv (DE.ix (DE.var 1) (DE.var 3)) (DE.ix (DE.var 2) (DE.var 3)))) (DA.cons (DE.var 2) DA.nil)))))
  DB.nil)))
  (DB.cons (DS.ret (DE.all (DA.cons (DE.lst (DL.comp [("entry", 4)] (DG.nm 4) (DI.seq (DE.var 1)) DF.no (DE.cmp .Eq (DE.var 4) (DE.con (.int 0))))) DA.nil)))
  DB.nil))
theorem w_is_generated {ds : List D} {S : Sto} {Q : QD} {X : XD} (h : c_is_generated ds S Q X) : ctOf N_is_generated.length b_is_generated ds S Q X := by
  obtain ⟨n, F, v, rfl, hF, hv, hn, hl, hp, hb, hvb, h⟩ := h
  unfold b_is_generated N_is_generated
  walk_at "wpf"
  refine forGo_inv (fun ds env T => ∃ (post : List (List Int)) (w : List Int) (a2 a3 a4 : Option D) (j : Nat), ds = post.map VE ∧ env = [some (.tup (F.map VE)), some (VE w), a2, a3, a4] ∧ T = S ∧ redV post w = redV F v ∧ (∀ f ∈ post, f ∈ F) ∧ w.length = n ∧ j + post.length ≤ 3 ∧ ∀ x ∈ w, Sm (9000 + 60000 * j) x) ?_ ?_ _ _ _ ⟨F, v, none, none, none, 0, rfl, rfl, rfl, rfl, fun _ h => h, hv, by omega, fun x hx => (hvb x hx).mono (by omega)⟩
  · rintro d1 ds1 env1 S1 ⟨post, w, a2, a3, a4, j, hds, rfl, rfl, hr, hm, hw, hj, hs⟩
    match post, hds with
    | f :: post, hds =>
      simp only [List.map_cons, List.cons.injEq] at hds
      obtain ⟨rfl, rfl⟩ := hds
      refine ⟨trivial, _, rfl, fun nx hnx => ?_⟩
      have hf := hm f (by simp)
      obtain ⟨p, zp, gp, sp⟩ := hp f hf
      have lf := hF f hf
      have pl : p < f.length := by
        rcases Nat.lt_or_ge p f.length with q | q
        · exact q
        · exact absurd (gt_ge q) gp
      have jl : j ≤ 2 := by simp only [List.length_cons] at hj; omega
      walk_at "wpf"
      refine ⟨f.map .int, rfl, by rw [List.length_map]; exact szLe (by omega), compGo_all0 D.int (fun x => .bl (!decide (x = 0))) f (fun x hx => ⟨_, rfl, fun Qd hq => ?_⟩) ?_⟩
      · walk_at "wpf"
        exact hq
      refine ⟨rfl, f.map (fun x => !decide (x = 0)), p, by simp [lstOf], ?_, fun m hmp => ?_, ?_⟩
      · rw [List.getElem?_map, List.getElem?_eq_getElem pl]
        rw [gt_lt pl] at gp
        simp [gp]
      · have hm2 : m < f.length := by omega
        rw [List.getElem?_map, List.getElem?_eq_getElem hm2]
        have := zp m hmp
        rw [gt_lt hm2] at this
        simp [this]
      dsimp only
      rw [ix_V (by omega), ix_V pl, oDiv_ii]
      refine ⟨sp.div gp (by omega), ?_⟩
      have s1 : Sm (9000 + 60000 * j) (gt w p) := by
        rw [gt_lt (by omega)]; exact hs _ (List.getElem_mem _)
      have s2 : Sm (9001 + 60000 * j) (-(gt w p).fdiv (gt f p)) := by
        refine Sm.neg ?_
        have h1 := fd_le2 (gt w p) gp
        have h2 := sp.mono (show 8889 ≤ 9000 + 60000 * j by omega)
        unfold Sm at s1 h2 ⊢
        rw [show 9001 + 60000 * j = (9000 + 60000 * j) + 1 by omega, Nat.pow_succ]
        omega
      refine ⟨w, _, f, rfl, by omega, fun x hx => s2.ok (hb f hf x hx) (by omega), ?_⟩
      refine hnx _ _ ⟨post, _, _, _, _, j + 1, rfl, rfl, rfl, ?_, fun g hg => hm g (List.mem_cons_of_mem _ hg), by rw [plus_len (by omega)]; exact hw, by simp only [List.length_cons] at hj; omega, fun x hx => ?_⟩
      · rw [← hr]
        show _ = redV post (redStep w f)
        unfold redStep
        rw [lead_at zp gp]
      · obtain ⟨a, ha, b, hb', rfl⟩ := mem_plus hx
        exact ((hs a ha).add (s2.mul (hb f hf b hb'))).mono (by omega)
  · rintro env1 S1 ⟨post, w, a2, a3, a4, j, hds, rfl, rfl, hr, hm, hw, hj, hs⟩
    have : post = [] := by simpa using hds.symm
    subst this
    refine ⟨trivial, ?_⟩
    walk_at "wpf"
    refine ⟨w.map .int, rfl, by rw [List.length_map]; exact szLe (by omega), compGo_all0 D.int (fun x => .bl (decide (x = 0))) w (fun x hx => ⟨_, rfl, fun Qd hq => ?_⟩) ?_⟩
    · walk_at "wpf"
      exact hq
    have e : (w.map fun x => D.bl (decide (x = 0))) = (w.map fun x => decide (x = 0)).map .bl := by simp
    rw [e]
    refine oAll_l _ _ _ ?_
    have hr' : w = redV F v := hr
    rw [← hr'] at h
    have e2 : (w.map fun x => decide (x = 0)).all id = w.all (fun x => x == 0) := by
      rw [List.all_map]; rfl
    rw [e2]; exact h
/-! ### the methods that change -/
theorem nf_gen {n : Nat} {R F : List (List Int)} (hR : Len n R) (hn : n ≤ 3) (h : IsNF n R F) (hb : (∀ u ∈ F, Bd (2 ^ bt 20 n) u) ∧ Pv n F) : Len n F ∧ F.length ≤ 3 ∧ (∀ f ∈ F, ∃ p, zb p f ∧ gt f p ≠ 0 ∧ Sm 8889 (gt f p)) ∧ ∀ f ∈ F, ∀ x ∈ f, Sm 40000 x := by
  have hb1 := hb.1
  have hb2 := hb.2
  refine ⟨nf_len h, ?_, fun f hf => ?_, fun f hf x hx => ((hb1 f hf).sm hx).mono ?_⟩
  · obtain ⟨g, rfl, _⟩ := h
    have := List.length_filterMap_le g (List.range n)
    unfold rowsOf
    rw [List.length_range] at this
    omega
  · obtain ⟨g, rfl, hg⟩ := h
    obtain ⟨q, hq, e⟩ := mem_rowsOf.mp hf
    obtain ⟨_, _, z, p, _⟩ := (hg q hq).2 f e
    exact ⟨q, z, by omega, hb2 f hf q hq z (by omega)⟩
  · have : n = 0 ∨ n = 1 ∨ n = 2 ∨ n = 3 := by omega
    rcases this with rfl | rfl | rfl | rfl <;> simp [bt]
theorem gen_call {n : Nat} {R F : List (List Int)} {v : List Int} {S : Sto} {Q : QD} {X : XD} (hR : Len n R) (hn : n ≤ 3) (h : IsNF n R F) (hb : (∀ u ∈ F, Bd (2 ^ bt 20 n) u) ∧ Pv n F) (hv : isV n v = true)
    (q : ∀ b : Bool, (b = true ↔ Lat n R v) → Q (.bl b) S) : c_is_generated [.tup (F.map VE), VE v] S Q X := by
  obtain ⟨h1, h2, h3, h4⟩ := nf_gen hR hn h hb
  obtain ⟨l, m⟩ := isV_ok hv
  exact ⟨n, F, v, rfl, h1, l, hn, h2, h3, h4, fun x hx => (m x hx).mono (by omega), q _ (gen_iff hR h l)⟩
def addOp (v : List Int) : D := .tup [.str "add", VE v]
def remOp (j : Nat) : D := .tup [.str "remove", .int (j : Nat)]
def c_Session_contains : Ct := fun ds S Q X => ∃ i s d, ds = [.han i, d] ∧ Ses S i s ∧ SOk s ∧ okVecD d ∧
  if isVD s.n d = true then ∀ v, d = VE v → ∀ b : Bool, (b = true ↔ Lat s.n s.cur v) → Q (.bl b) S else X "InvalidVector" S
/-- Session_contains -/
def N_Session_contains : List Str := ["self", "vector"]
def b_Session_contains : DB := (DB.cons (DS.expr (DE.call "check_vector" c_check_vector (DA.cons (DE.fld "Session" (DE.var 0) "size") (DA.cons (DE.var 1) DA.nil))))
  (DB.cons (DS.ret (DE.call "is_generated" c_is_generated (DA.cons (DE.met0 "Session" "rows" c_Session_rows (DE.var 0)) (DA.cons (DE.var 1) DA.nil))))
  DB.nil))
theorem w_Session_contains {ds : List D} {S : Sto} {Q : QD} {X : XD} (h : c_Session_contains ds S Q X) : ctOf N_Session_contains.length b_Session_contains ds S Q X := by
  obtain ⟨i, s, d, rfl, hs, ok, hd, h⟩ := h
  unfold b_Session_contains N_Session_contains
  walk_at "wp"
  refine ⟨_, hs.ins, _, sg0 _ _ _ _ _, s.n, d, rfl, hd, ?_⟩
  by_cases e : isVD s.n d = true
  · rw [if_pos e] at h ⊢
    obtain ⟨e1, e2⟩ := isVD_inv e
    refine ⟨_, hs.ins, rfl, i, s, rfl, hs, ok, fun F hF hb => ?_⟩
    rw [e1]
    exact gen_call ok.len ok.n3 hF hb e2 fun b hb => h _ e1 b hb
  · rw [if_neg e] at h ⊢
    exact h
def c_Session_add : Ct := fun ds S Q X => ∃ i s d, ds = [.han i, d] ∧ Ses S i s ∧ SOk s ∧ okVecD d ∧
  if isVD s.n d = true then if s.cur.length = 8 then X "TooMany" S else ∀ v, d = VE v → isV s.n v = true → ∀ b : Bool, (b = false ↔ Lat s.n s.cur v) → ∀ S', Ses S' i ⟨s.n, s.cur ++ [v], s.er ++ [.tup (s.cur.map VE)], s.dn ++ [addOp v], [], s.e, s.d, S.length⟩ → Frm [i, s.e, s.d] S S' → Q (.bl b) S'
  else X "InvalidVector" S
/-- Session_add -/
def N_Session_add : List Str := ["self", "vector", "is_new"]
def b_Session_add : DB := (DB.cons (DS.expr (DE.call "check_vector" c_check_vector (DA.cons (DE.fld "Session" (DE.var 0) "size") (DA.cons (DE.var 1) DA.nil))))
  (DB.cons (DS.iff (DT.cmp .Eq (DE.len (DA.cons (DE.fld "Session" (DE.var 0) "current") DA.nil)) (DE.con (.int 8))) (DB.cons (DS.raise "TooMany")
  DB.nil) DB.nil)
  (DB.cons (DS.set 2 (DE.not (DE.call "is_generated" c_is_generated (DA.cons (DE.met0 "Session" "rows" c_Session_rows (DE.var 0)) (DA.cons (DE.var 1) DA.nil)))))
  (DB.cons (DS.expr (DE.met "Session" "perform" c_Session_perform (DE.var 0) (DA.cons (DE.op .Add (DE.fld "Session" (DE.var 0) "current") (DE.tup (DA.cons (DE.var 1) DA.nil))) (DA.cons (DE.tup (DA.cons (DE.con (.str "add")) (DA.cons (DE.var 1) DA.nil))) DA.nil))))
  (DB.cons (DS.ret (DE.var 2))
  DB.nil)))))
theorem w_Session_add {ds : List D} {S : Sto} {Q : QD} {X : XD} (h : c_Session_add ds S Q X) : ctOf N_Session_add.length b_Session_add ds S Q X := by
  obtain ⟨i, s, d, rfl, hs, ok, hd, h⟩ := h
  unfold b_Session_add N_Session_add
  walk_at "wp"
  refine ⟨_, hs.ins, _, sg0 _ _ _ _ _, s.n, d, rfl, hd, ?_⟩
  by_cases e : isVD s.n d = true
  · rw [if_pos e] at h ⊢
    obtain ⟨e1, e2⟩ := isVD_inv e
    refine ⟨_, hs.ins, _, sg1 _ _ _ _ _, ?_⟩
    walk_at "wp"
    rw [List.length_map]
    by_cases e8 : s.cur.length = 8
    · rw [if_pos e8] at h
      rw [if_pos (by omega)]
      exact h
    · rw [if_neg e8] at h
      rw [if_neg (by omega)]
      refine ⟨_, hs.ins, rfl, i, s, rfl, hs, ok, fun F hF hb => ?_⟩
      rw [e1]
      refine gen_call ok.len ok.n3 hF hb e2 fun b hb => ⟨b, rfl, _, hs.ins, rfl, _, hs.ins, _, sg1 _ _ _ _ _, ?_⟩
      have few := ok.few
      refine ⟨by simp only [List.length_map, List.length_singleton]; exact szLe (by omega), i, s, s.cur ++ [toV d], addOp (toV d), ?_, hs, by have := ok.er; omega, by have := ok.dn; omega, fun S' h1 h2 => ?_⟩
      · rw [List.map_append]; rfl
      · refine h _ e1 e2 (!b) ?_ S' h1 h2
        rw [← hb]
        cases b <;> simp
  · rw [if_neg e] at h ⊢
    exact h
theorem erase_take {α : Type} (l : List α) (j : Nat) : l.take j ++ l.drop (j + 1) = l.eraseIdx j := (List.eraseIdx_eq_take_drop_succ l j).symm
def c_Session_remove : Ct := fun ds S Q X => ∃ i s x, ds = [.han i, x] ∧ Ses S i s ∧ SOk s ∧ okD x = true ∧
  if btw 0 (s.cur.length - 1) x = true then ∀ (j : Nat) (hj : j < s.cur.length), x = .int (j : Nat) → ∀ S', Ses S' i ⟨s.n, s.cur.eraseIdx j, s.er ++ [.tup (s.cur.map VE)], s.dn ++ [remOp j], [], s.e, s.d, S.length⟩ → Frm [i, s.e, s.d] S S' → Q (VE s.cur[j]) S'
  else X "InvalidNumber" S
/-- Session_remove -/
def N_Session_remove : List Str := ["self", "number", "vector"]
def b_Session_remove : DB := (DB.cons (DS.iff (DT.not (DT.val (DE.call "is_between" c_is_between (DA.cons (DE.var 1) (DA.cons (DE.con (.int 0)) (DA.cons (DE.op .Sub (DE.len (DA.cons (DE.fld "Session" (DE.var 0) "current") DA.nil)) (DE.con (.int 1))) DA.nil)))))) (DB.cons (DS.raise "InvalidNumber")
  DB.nil) DB.nil)
  (DB.cons (DS.set 2 (DE.ix (DE.fld "Session" (DE.var 0) "current") (DE.var 1)))
  (DB.cons (DS.expr (DE.met "Session" "perform" c_Session_perform (DE.var 0) (DA.cons (DE.op .Add (DE.sl (DE.fld "Session" (DE.var 0) "current") DO.no (DO.so (DE.var 1))) (DE.sl (DE.fld "Session" (DE.var 0) "current") (DO.so (DE.op .Add (DE.var 1) (DE.con (.int 1)))) DO.no)) (DA.cons (DE.tup (DA.cons (DE.con (.str "remove")) (DA.cons (DE.var 1) DA.nil))) DA.nil))))
  (DB.cons (DS.ret (DE.var 2))
  DB.nil))))
theorem w_Session_remove {ds : List D} {S : Sto} {Q : QD} {X : XD} (h : c_Session_remove ds S Q X) : ctOf N_Session_remove.length b_Session_remove ds S Q X := by
  obtain ⟨i, s, x, rfl, hs, ok, hx, h⟩ := h
  unfold b_Session_remove N_Session_remove
  walk_at "wp"
  refine ⟨_, hs.ins, _, sg1 _ _ _ _ _, ?_⟩
  walk_at "wp"
  rw [List.length_map]
  refine ⟨x, 0, _, rfl, hx, ?_⟩
  by_cases e : btw 0 (s.cur.length - 1) x = true
  · rw [if_pos e] at h
    obtain ⟨j, hj, rfl⟩ : ∃ j : Nat, j < s.cur.length ∧ x = .int (j : Nat) := by
      cases x with
      | int m =>
        simp only [btw, Bool.and_eq_true, decide_eq_true_eq] at e
        exact ⟨m.toNat, by omega, by rw [Int.toNat_of_nonneg e.1]⟩
      | _ => simp [btw] at e
    refine ⟨_, rfl, ?_⟩
    rw [if_neg (by simp [e])]
    refine ⟨_, hs.ins, _, sg1 _ _ _ _ _, ?_⟩
    rw [ix_M hj]
    refine ⟨_, hs.ins, rfl, _, hs.ins, _, sg1 _ _ _ _ _, _, rfl, _, hs.ins, _, sg1 _ _ _ _ _, ?_⟩
    rw [oAdd_ii]
    refine ⟨_, rfl, ?_⟩
    rw [oSl_t, cut_to, show ((j : Int) + 1) = ((j + 1 : Nat) : Int) by omega, cut_from, oAdd_tt]
    have few := ok.few
    refine ⟨by rw [← List.map_take, ← List.map_drop]; simp only [List.length_map, List.length_take, List.length_drop]; exact szLe (by omega), ?_⟩
    refine ⟨i, s, s.cur.eraseIdx j, remOp j, ?_, hs, by have := ok.er; omega, by have := ok.dn; omega, fun S' h1 h2 => ?_⟩
    · rw [← List.map_take, ← List.map_drop, ← List.map_append, erase_take]; rfl
    · exact h j hj rfl S' h1 h2
  · rw [if_neg e] at h
    refine ⟨_, rfl, ?_⟩
    rw [if_pos (by simp [e])]
    exact h
/-! #### FV -/
/-! ### the town beside other things of the store -/
theorem Frm.refl (L : List Nat) (S : Sto) : Frm L S S := ⟨Nat.le_refl _, fun _ _ _ => rfl⟩
theorem Frm.mono {L M : List Nat} {S S' : Sto} (h : Frm L S S') (hm : ∀ j ∈ L, j ∈ M) : Frm M S S' := ⟨h.1, fun j hj nj => h.2 j hj fun q => nj (hm j q)⟩
theorem Frm.trans {L : List Nat} {S T U : Sto} (h : Frm L S T) (g : Frm L T U) : Frm L S U :=
  ⟨Nat.le_trans h.1 g.1, fun j hj nj => (g.2 j (Nat.lt_of_lt_of_le hj h.1) nj).trans (h.2 j hj nj)⟩
theorem Gr.frm {S T : Sto} (h : Gr S T) : Frm [] S T := by
  obtain ⟨J, rfl⟩ := h
  exact ⟨by simp, fun j hj _ => List.getElem?_append_left hj⟩
theorem Frm.at {L : List Nat} {S S' : Sto} (h : Frm L S S') {j : Nat} {o : O} (e : S[j]? = some o) (n : j ∉ L) : S'[j]? = some o :=
  (h.2 j (List.getElem?_eq_some_iff.mp e).1 n).trans e
theorem Tw.at0 {ns : List Int} {k : Nat} {S : Sto} (t : Tw ns k S) : 0 < S.length := by
  obtain ⟨c, ts, J, rfl, a, b, e⟩ := t
  simp [tw]
theorem Tw.frm {ns : List Int} {k : Nat} {S S' : Sto} (t : Tw ns k S) {L : List Nat} (f : Frm L S S') (h : 0 ∉ L) : Tw ns k S' := by
  have h1 := t.at0
  obtain ⟨c, ts, J, rfl, a, b, e⟩ := t
  have h0 := f.2 0 h1 h
  cases S' with
  | nil => simp [tw] at h0
  | cons o J' =>
    refine ⟨c, ts, J', ?_, a, b, e⟩
    simp [tw] at h0
    rw [h0]
theorem Tw.drawF {ns : List Int} {k : Nat} {S : Sto} {limit : Int} {Q : QD} {X : XD} (t : Tw ns (k + 1) S) (h0 : 0 < limit) (hl : limit ≤ 1000000000) (q : ∀ (r : Int) (S' : Sto), 0 ≤ r → r < limit → Tw ns k S' → Frm [0] S S' → S'.length = S.length → Q (.int r) S') : c__law_draw [.scr (ns.map .int), .han 0, .int limit] S Q X := by
  obtain ⟨c, ts, J, rfl, a, b, e⟩ := t
  refine draw_call ⟨a, b, by omega⟩ h0 hl fun r ts' r0 r1 h => q r _ r0 r1 ⟨c + 1, ts', J, rfl, a, h, by omega⟩ ⟨by simp [tw], fun j hj nj => ?_⟩ (by simp [tw])
  cases j with
  | zero => simp at nj
  | succ j => simp [tw]
theorem Tw.pickF {ns : List Int} {k : Nat} {S : Sto} {xs : List D} {Q : QD} {X : XD} (t : Tw ns (k + 1) S) (h0 : 0 < xs.length) (hl : xs.length ≤ 1000) (q : ∀ x ∈ xs, ∀ S', Tw ns k S' → Frm [0] S S' → S'.length = S.length → Q x S') : c__law_pick [.scr (ns.map .int), .han 0, .lst xs] S Q X := by
  obtain ⟨c, ts, J, rfl, a, b, e⟩ := t
  refine ⟨ns, ts, c, J, xs, rfl, rfl, ⟨a, b, by omega⟩, h0, hl, fun x hx ts' hts => q x hx _ ⟨_, ts', J, rfl, a, hts, by omega⟩ ⟨by simp [tw], fun j hj nj => ?_⟩ (by simp [tw])⟩
  cases j with
  | zero => simp at nj
  | succ j => simp [tw]
theorem Ses.frm {S S' : Sto} {i : Nat} {s : SV} (h : Ses S i s) {L : List Nat} (f : Frm L S S') (ni : i ∉ L) (ne : s.e ∉ L) (nd : s.d ∉ L) (nu : s.u ∉ L) : Ses S' i s :=
  ⟨f.at h.ins ni, f.at h.her ne, f.at h.hdn nd, f.at h.hun nu, h.ed, h.eu, h.du⟩
theorem Ses.ie {S : Sto} {i : Nat} {s : SV} (h : Ses S i s) : i ≠ s.e := fun e => by have := h.ins; rw [e, h.her] at this; cases this
theorem Ses.id {S : Sto} {i : Nat} {s : SV} (h : Ses S i s) : i ≠ s.d := fun e => by have := h.ins; rw [e, h.hdn] at this; cases this
theorem Ses.iu {S : Sto} {i : Nat} {s : SV} (h : Ses S i s) : i ≠ s.u := fun e => by have := h.ins; rw [e, h.hun] at this; cases this
/-- the town and one session; at most m operations so far -/
structure TS (ns : List Int) (k m : Nat) (S : Sto) (i : Nat) (s : SV) : Prop where
  tw : Tw ns k S
  ses : Ses S i s
  ok : SOk s
  em : s.er.length ≤ m
  dm : s.dn.length ≤ m
  i0 : i ≠ 0
  e0 : s.e ≠ 0
  d0 : s.d ≠ 0
  u0 : s.u ≠ 0
theorem TS.mono {ns : List Int} {k j m : Nat} {S : Sto} {i : Nat} {s : SV} (t : TS ns k m S i s) (h : j ≤ k) : TS ns j m S i s := ⟨t.tw.mono h, t.ses, t.ok, t.em, t.dm, t.i0, t.e0, t.d0, t.u0⟩
theorem TS.frm {ns : List Int} {k m : Nat} {S S' : Sto} {i : Nat} {s : SV} (t : TS ns k m S i s) (f : Frm [] S S') : TS ns k m S' i s :=
  ⟨t.tw.frm f (by simp), t.ses.frm f (by simp) (by simp) (by simp) (by simp), t.ok, t.em, t.dm, t.i0, t.e0, t.d0, t.u0⟩
theorem TS.draw {ns : List Int} {k m : Nat} {S : Sto} {i : Nat} {s : SV} {limit : Int} {Q : QD} {X : XD} (t : TS ns (k + 1) m S i s) (h0 : 0 < limit) (hl : limit ≤ 1000000000) (q : ∀ (r : Int) (S' : Sto), 0 ≤ r → r < limit → TS ns k m S' i s → Q (.int r) S') : c__law_draw [.scr (ns.map .int), .han 0, .int limit] S Q X :=
  t.tw.drawF h0 hl fun r S' r0 r1 t' f _ => q r S' r0 r1 ⟨t', t.ses.frm f (by simpa using t.i0) (by simpa using t.e0) (by simpa using t.d0) (by simpa using t.u0), t.ok, t.em, t.dm, t.i0, t.e0, t.d0, t.u0⟩
theorem TS.pick {ns : List Int} {k m : Nat} {S : Sto} {i : Nat} {s : SV} {xs : List D} {Q : QD} {X : XD} (t : TS ns (k + 1) m S i s) (h0 : 0 < xs.length) (hl : xs.length ≤ 1000) (q : ∀ x ∈ xs, ∀ S', TS ns k m S' i s → Q x S') : c__law_pick [.scr (ns.map .int), .han 0, .lst xs] S Q X :=
  t.tw.pickF h0 hl fun x hx S' t' f _ => q x hx S' ⟨t', t.ses.frm f (by simpa using t.i0) (by simpa using t.e0) (by simpa using t.d0) (by simpa using t.u0), t.ok, t.em, t.dm, t.i0, t.e0, t.d0, t.u0⟩
theorem isV_bd {n : Int} {v : List Int} (h : isV n v = true) : (v.length : Int) = n ∧ Bd 1000000 v := by
  simp only [isV, Bool.and_eq_true, decide_eq_true_eq, List.all_eq_true] at h
  exact ⟨h.1, fun x hx => lim_iff.mp (h.2 x hx)⟩
theorem SOk.add {s : SV} (h : SOk s) {v : List Int} (hv : isV s.n v = true) (hl : s.cur.length < 8) {er dn un : List D} {e d u : Nat} (h1 : er.length ≤ 900) (h2 : dn.length ≤ 900) : SOk ⟨s.n, s.cur ++ [v], er, dn, un, e, d, u⟩ where
  n1 := h.n1
  n3 := h.n3
  len := fun r hr => by
    rcases List.mem_append.mp hr with q | q
    · exact h.len r q
    · have : r = v := by simpa using q
      subst this
      have := (isV_bd hv).1
      show r.length = s.n
      omega
  bd := fun r hr => by
    rcases List.mem_append.mp hr with q | q
    · exact h.bd r q
    · have : r = v := by simpa using q
      subst this
      exact (isV_bd hv).2
  few := by simp; omega
  er := h1
  dn := h2
theorem SOk.sub {s : SV} (h : SOk s) {C : List (List Int)} (hc : ∀ r ∈ C, r ∈ s.cur) (hl : C.length ≤ 8) {er dn un : List D} {e d u : Nat} (h1 : er.length ≤ 900) (h2 : dn.length ≤ 900) : SOk ⟨s.n, C, er, dn, un, e, d, u⟩ where
  n1 := h.n1
  n3 := h.n3
  len := fun r hr => h.len r (hc r hr)
  bd := fun r hr => h.bd r (hc r hr)
  few := hl
  er := h1
  dn := h2
theorem TS.next {ns : List Int} {k m : Nat} {S S' : Sto} {i : Nat} {s : SV} {C : List (List Int)} {x y : D} (t : TS ns k m S i s) (ok : SOk ⟨s.n, C, s.er ++ [x], s.dn ++ [y], [], s.e, s.d, S.length⟩) (h : Ses S' i ⟨s.n, C, s.er ++ [x], s.dn ++ [y], [], s.e, s.d, S.length⟩) (f : Frm [i, s.e, s.d] S S') :
    TS ns k (m + 1) S' i ⟨s.n, C, s.er ++ [x], s.dn ++ [y], [], s.e, s.d, S.length⟩ := by
  have := t.em; have := t.dm
  exact ⟨t.tw.frm f (by simp [t.i0.symm, t.e0.symm, t.d0.symm]), h, ok, by simp; omega, by simp; omega, t.i0, t.e0, t.d0, by have := t.tw.at0; show S.length ≠ 0; omega⟩
theorem TS.add {ns : List Int} {k m : Nat} {S : Sto} {i : Nat} {s : SV} {v : List Int} {Q : QD} {X : XD} (t : TS ns k m S i s) (hm : m < 900) (hv : isV s.n v = true) (hl : s.cur.length < 8)
    (q : ∀ (b : Bool) (S' : Sto) (s' : SV), (b = false ↔ Lat s.n s.cur v) → TS ns k (m + 1) S' i s' → s'.n = s.n → s'.cur = s.cur ++ [v] → Q (.bl b) S') : c_Session_add [.han i, VE v] S Q X := by
  have e1 := t.em; have e2 := t.dm; have n3 := t.ok.n3
  refine ⟨i, s, VE v, rfl, t.ses, t.ok, okVec_V (by have := (isV_bd hv).1; omega), ?_⟩
  rw [if_pos (by rw [isVD_V]; exact hv), if_neg (by omega)]
  intro v' ev hv' b hb S' h1 h2
  have ev' : v = v' := by
    have := congrArg toV ev
    rwa [toV_V, toV_V] at this
  subst ev'
  exact q b S' _ hb (t.next (t.ok.add hv hl (by simp; omega) (by simp; omega)) h1 h2) rfl rfl
theorem TS.remove {ns : List Int} {k m : Nat} {S : Sto} {i j : Nat} {s : SV} {Q : QD} {X : XD} (t : TS ns k m S i s) (hm : m < 900) (hj : j < s.cur.length)
    (q : ∀ (S' : Sto) (s' : SV), TS ns k (m + 1) S' i s' → s'.n = s.n → s'.cur = s.cur.eraseIdx j → Q (VE s.cur[j]) S') : c_Session_remove [.han i, .int (j : Nat)] S Q X := by
  have e1 := t.em; have e2 := t.dm
  refine ⟨i, s, _, rfl, t.ses, t.ok, rfl, ?_⟩
  rw [if_pos (by simp [btw]; omega)]
  intro j' hj' ej S' h1 h2
  have ej' : j = j' := by
    have : (j : Int) = j' := by injection ej
    omega
  subst ej'
  refine q S' _ (t.next (t.ok.sub (fun r hr => List.mem_of_mem_eraseIdx hr) ?_ (by simp; omega) (by simp; omega)) h1 h2) rfl rfl
  have := List.length_eraseIdx_le s.cur j
  have := t.ok.few
  omega
theorem TS.contains {ns : List Int} {k m : Nat} {S : Sto} {i : Nat} {s : SV} {v : List Int} {Q : QD} {X : XD} (t : TS ns k m S i s) (hv : isV s.n v = true)
    (q : ∀ b : Bool, (b = true ↔ Lat s.n s.cur v) → Q (.bl b) S) : c_Session_contains [.han i, VE v] S Q X := by
  have n3 := t.ok.n3
  refine ⟨i, s, VE v, rfl, t.ses, t.ok, okVec_V (by have := (isV_bd hv).1; omega), ?_⟩
  rw [if_pos (by rw [isVD_V]; exact hv)]
  intro v' ev b hb
  have ev' : v = v' := by
    have := congrArg toV ev
    rwa [toV_V, toV_V] at this
  subst ev'
  exact q b hb
theorem TS.make {ns : List Int} {k n : Nat} {S : Sto} {P : Sto → Prop} {X : XD} (t : Tw ns k S) (h1 : 1 ≤ n) (h3 : n ≤ 3) (q : ∀ (S' : Sto) (s : SV), TS ns k 0 S' S.length s → s.n = n → s.cur = [] → P S') :
    c_Session___init__ [.han S.length, .int n] (S ++ [.ins "Session" []]) (fun v S2 => v = .non ∧ P S2) X := by
  have l := t.at0
  refine ⟨S.length, .int n, rfl, rfl, by simp, ?_⟩
  rw [if_pos (by simp [btw]; omega)]
  intro n' en S' hs hf
  have en' : n = n' := by
    have : (n : Int) = n' := by injection en
    omega
  subst en'
  refine ⟨rfl, q S' _ ⟨t.frm (L := [S.length]) ⟨by have := hf.1; simp at this; omega, fun j hj nj => ?_⟩ (by simp; omega), hs, ⟨h1, h3, by intro r hr; simp at hr, by intro r hr; simp at hr, by simp, by simp, by simp⟩, by simp, by simp, by omega, by simp, by simp, by simp⟩ rfl rfl⟩
  rw [hf.2 j (by simp; omega) nj]
  exact List.getElem?_append_left hj
/-- a list of values, some draws each -/
theorem compGo_dr {α β : Type} {bd : D → Env → Sto → Option Env} {e : WE} {env : Env} {Q : QL} (enc : α → D) (out : β → D) (P : α → β → Prop) (I : Nat → Sto → Prop) (k m : Nat) : ∀ (L : List α) (acc : List D) (S : Sto), I (k + m * L.length) S →
    (∀ a ∈ L, ∀ j S', I (j + m) S' → ∃ env', bd (enc a) env S' = some env' ∧ ∀ Qd : QD, (∀ x S'', P a x → I j S'' → Qd (out x) S'') → e env' S' Qd noX) →
    (∀ (xs : List β) S', All2 P L xs → I k S' → Q (acc ++ xs.map out) S') → compGo bd wYes e env [] (L.map enc) S acc Q
  | [], acc, S, t, _, hq => ⟨True.intro, by simpa using hq [] S .nil (by simpa using t)⟩
  | a :: L, acc, S, t, h, hq => by
    have t' : I ((k + m * L.length) + m) S := by
      rw [List.length_cons, Nat.mul_add, Nat.mul_one, ← Nat.add_assoc] at t; exact t
    obtain ⟨env', hb, he⟩ := h a List.mem_cons_self _ S t'
    refine ⟨True.intro, env', hb, ?_⟩
    show if true = true then e env' S (fun x S2 => compGo bd wYes e env [] (List.map enc L) S2 (acc ++ [x]) Q) noX else compGo bd wYes e env [] (List.map enc L) S acc Q
    rw [if_pos rfl]
    refine he _ fun x S'' hp t'' => compGo_dr enc out P I k m L _ S'' t'' (fun b hb => h b (List.mem_cons_of_mem _ hb)) fun xs S3 hx t3 => ?_
    have := hq (x :: xs) S3 (.cons hp hx) t3
    simpa using this
theorem atI_last {α : Type} (l : List α) (x : α) : atI (l ++ [x]) (-1) = some x := by
  unfold atI ixN
  simp
  rw [if_pos (by omega)]
  simp [show (-1 + ((l.length : Int) + 1)).toNat = l.length by omega]
theorem ix_last {C : List (List Int)} {g : List Int} {S : Sto} {Q : QD} (q : Q (VE g) S) : oIx (.tup ((C ++ [g]).map VE)) (.int (-1)) S Q :=
  ⟨_, _, rfl, by rw [List.map_append]; exact atI_last _ _, q⟩
/-! #### L62 -/
def c__law_call : Ct := fun ds S Q X => ∃ i d, (ds = [.int 0, .tup [.han i, d]] ∧ c_Session_add [.han i, d] S Q X) ∨ (ds = [.int 1, .tup [.han i, d]] ∧ c_Session_remove [.han i, d] S Q X) ∨
  (ds = [.int 2, .tup [.han i, d]] ∧ c_Session___init__ [.han S.length, d] (S ++ [.ins "Session" []]) (fun v S2 => v = .non ∧ Q (.han S.length) S2) X) ∨ (ds = [.int 3, .tup [.han i, d]] ∧ c_Session_contains [.han i, d] S Q X)
/-- _law_call -/
def N__law_call : List Str := ["way", "arguments", "session", "one"]
def b__law_call : DB := (DB.cons (DS.asg (DG.tp (DGs.cons 2 (DGs.cons 3 DGs.nil))) (DE.var 1))
  (DB.cons (DS.iff (DT.cmp .Eq (DE.var 0) (DE.con (.int 0))) (DB.cons (DS.ret (DE.met "Session" "add" c_Session_add (DE.var 2) (DA.cons (DE.var 3) DA.nil)))
  DB.nil) DB.nil)
  (DB.cons (DS.iff (DT.cmp .Eq (DE.var 0) (DE.con (.int 1))) (DB.cons (DS.ret (DE.met "Session" "remove" c_Session_remove (DE.var 2) (DA.cons (DE.var 3) DA.nil)))
  DB.nil) DB.nil)
  (DB.cons (DS.ret (DE.ite (DT.cmp .Eq (DE.var 0) (DE.con (.int 2))) (DE.make "Session" c_Session___init__ (DA.cons (DE.var 3) DA.nil)) (DE.met "Session" "contains" c_Session_contains (DE.var 2) (DA.cons (DE.var 3) DA.nil))))
  DB.nil))))
theorem w__law_call {ds : List D} {S : Sto} {Q : QD} {X : XD} (h : c__law_call ds S Q X) : ctOf N__law_call.length b__law_call ds S Q X := by
  unfold b__law_call N__law_call
  obtain ⟨i, d, ⟨rfl, h⟩ | ⟨rfl, h⟩ | ⟨rfl, h⟩ | ⟨rfl, h⟩⟩ := h
  · walk_at "wpf"
    obtain ⟨_, s, _, e, hs, _⟩ := id h
    cases e
    exact ⟨_, hs.ins, rfl, h⟩
  · walk_at "wpf"
    obtain ⟨_, s, _, e, hs, _⟩ := id h
    cases e
    exact ⟨_, hs.ins, rfl, h⟩
  · walk_at "wpf"
    exact h
  · walk_at "wpf"
    obtain ⟨_, s, _, e, hs, _⟩ := id h
    cases e
    exact ⟨_, hs.ins, rfl, h⟩
def c__law_outcome : Ct := fun ds S' Q _ => ∃ a b, ds = [a, b] ∧ ∀ (Q2 : QD) (X2 : XD), (∀ d S2, Q (.tup [.str "returned", d]) S2 → Q2 d S2) → (∀ x S2, x ∈ exNs → Q (.tup [.str "raised", .int (exIx x : Nat)]) S2 → X2 x S2) → c__law_call [a, b] S' Q2 X2
/-- _law_outcome -/
def N__law_outcome : List Str := ["way", "arguments", "caught", "result", "error"]
def b__law_outcome : DB := (DB.cons (DS.set 2 (DE.con .non))
  (DB.cons (DS.set 3 (DE.con .non))
  (DB.cons (DS.tryK 4 2 (DB.cons (DS.set 3 (DE.call "_law_call" c__law_call (DA.cons (DE.var 0) (DA.cons (DE.var 1) DA.nil))))
  DB.nil))
  (DB.cons (DS.iff (DT.cmp .Is (DE.var 2) (DE.con .non)) (DB.cons (DS.ret (DE.tup (DA.cons (DE.con (.str "returned")) (DA.cons (DE.var 3) DA.nil))))
  DB.nil) DB.nil)
  (DB.cons (DS.ret (DE.tup (DA.cons (DE.con (.str "raised")) (DA.cons (DE.call "_law_name" c__law_name (DA.cons (DE.var 2) DA.nil)) DA.nil))))
  DB.nil)))))
theorem w__law_outcome {ds : List D} {S' : Sto} {Q : QD} {X : XD} (h : c__law_outcome ds S' Q X) : ctOf N__law_outcome.length b__law_outcome ds S' Q X := by
  obtain ⟨a, b, rfl, h⟩ := h
  unfold b__law_outcome N__law_outcome
  walk_at "wpf"
  refine h _ _ (fun d S2 hq => ?_) (fun x S2 hx hq => ?_)
  · exact hq
  · refine ⟨hx, by omega, false, rfl, ?_⟩
    walk_at "wpf"
    exact ⟨x, rfl, hx, hq⟩
theorem ex_vec : ("InvalidVector" : Str) ∈ exNs ∧ exIx "InvalidVector" = 1 := by decide +kernel
theorem ex_dim : ("InvalidDimension" : Str) ∈ exNs ∧ exIx "InvalidDimension" = 4 := by decide +kernel
theorem ex_num : ("InvalidNumber" : Str) ∈ exNs ∧ exIx "InvalidNumber" = 5 := by decide +kernel
theorem ex_many : ("TooMany" : Str) ∈ exNs ∧ exIx "TooMany" = 9 := by decide +kernel
theorem rai_vec {S : Sto} {Q : QD} {X : XD} (q : Q (.tup [.str "raised", .int 1]) S) : c__law_raises [.str "vector"] S Q X := ⟨"vector", 1, rfl, by decide +kernel, by decide +kernel, q⟩
theorem rai_dim {S : Sto} {Q : QD} {X : XD} (q : Q (.tup [.str "raised", .int 4]) S) : c__law_raises [.str "dimension"] S Q X := ⟨"dimension", 4, rfl, by decide +kernel, by decide +kernel, q⟩
theorem rai_num {S : Sto} {Q : QD} {X : XD} (q : Q (.tup [.str "raised", .int 5]) S) : c__law_raises [.str "number"] S Q X := ⟨"number", 5, rfl, by decide +kernel, by decide +kernel, q⟩
theorem rai_many {S : Sto} {Q : QD} {X : XD} (q : Q (.tup [.str "raised", .int 9]) S) : c__law_raises [.str "many"] S Q X := ⟨"many", 9, rfl, by decide +kernel, by decide +kernel, q⟩
theorem oNe_rai (j k : Int) (S' : Sto) (Q : QD) (h : Q (.bl (!decide (j = k))) S') : oNe (.tup [.str "raised", .int j]) (.tup [.str "raised", .int k]) S' Q := by
  refine oNe_O eI (by decide) (Oc.rai j) (Oc.rai k) S' Q ?_
  simpa using h
theorem out_vec {S : Sto} {i : Nat} {s : SV} {d : D} {Q : QD} {X : XD} {w : Int} (hw : w = 0 ∨ w = 3) (hs : Ses S i s) (ok : SOk s) (hd : okVecD d) (hb : isVD s.n d = false) (q : Q (.tup [.str "raised", .int 1]) S) : c__law_outcome [.int w, .tup [.han i, d]] S Q X := by
  refine ⟨_, _, rfl, fun Q2 X2 hQ hX => ?_⟩
  have hx : X2 "InvalidVector" S := hX _ _ ex_vec.1 (by rw [ex_vec.2]; exact q)
  rcases hw with rfl | rfl
  · exact ⟨i, d, .inl ⟨rfl, i, s, d, rfl, hs, ok, hd, by rw [if_neg (by rw [hb]; simp)]; exact hx⟩⟩
  · exact ⟨i, d, .inr <| .inr <| .inr ⟨rfl, i, s, d, rfl, hs, ok, hd, by rw [if_neg (by rw [hb]; simp)]; exact hx⟩⟩
theorem out_num {S : Sto} {i : Nat} {s : SV} {d : D} {Q : QD} {X : XD} (hs : Ses S i s) (ok : SOk s) (hd : okD d = true) (hb : btw 0 (s.cur.length - 1) d = false) (q : Q (.tup [.str "raised", .int 5]) S) : c__law_outcome [.int 1, .tup [.han i, d]] S Q X := by
  refine ⟨_, _, rfl, fun Q2 X2 hQ hX => ?_⟩
  have hx : X2 "InvalidNumber" S := hX _ _ ex_num.1 (by rw [ex_num.2]; exact q)
  exact ⟨i, d, .inr <| .inl ⟨rfl, i, s, d, rfl, hs, ok, hd, by rw [if_neg (by rw [hb]; simp)]; exact hx⟩⟩
theorem out_dim {S : Sto} {i : Nat} {d : D} {Q : QD} {X : XD} (hd : okD d = true) (hb : btw 1 3 d = false) (q : Q (.tup [.str "raised", .int 4]) (S ++ [.ins "Session" []])) : c__law_outcome [.int 2, .tup [.han i, d]] S Q X := by
  refine ⟨_, _, rfl, fun Q2 X2 hQ hX => ?_⟩
  have hx : X2 "InvalidDimension" (S ++ [.ins "Session" []]) := hX _ _ ex_dim.1 (by rw [ex_dim.2]; exact q)
  exact ⟨i, d, .inr <| .inr <| .inl ⟨rfl, S.length, d, rfl, hd, by simp, by rw [if_neg (by rw [hb]; simp)]; exact hx⟩⟩
theorem out_many {S : Sto} {i : Nat} {s : SV} {v : List Int} {Q : QD} {X : XD} (hs : Ses S i s) (ok : SOk s) (hv : isV s.n v = true) (h8 : s.cur.length = 8) (q : Q (.tup [.str "raised", .int 9]) S) : c__law_outcome [.int 0, .tup [.han i, VE v]] S Q X := by
  refine ⟨_, _, rfl, fun Q2 X2 hQ hX => ?_⟩
  have hx : X2 "TooMany" S := hX _ _ ex_many.1 (by rw [ex_many.2]; exact q)
  have n3 := ok.n3
  refine ⟨i, VE v, .inl ⟨rfl, i, s, VE v, rfl, hs, ok, okVec_V (by have := (isV_bd hv).1; omega), ?_⟩⟩
  rw [if_pos (by rw [isVD_V]; exact hv), if_pos h8]
  exact hx
/-- law -/
def N_law : List Str := ["script", "town", "n", "session", "many", "k", "vectors", "zero", "bads", "bad", "great", "before", "number", "j", "way"]
def b_law_f4 : DB := (DB.cons (DS.expr (DE.met "Session" "add" c_Session_add (DE.var 3) (DA.cons (DE.tuple (DA.cons (DE.lst (DL.comp [("j", 13)] (DG.nm 13) (DI.range1 (DE.var 2)) DF.no (DE.op .Sub (DE.call "_law_draw" c__law_draw (DA.cons (DE.var 0) (DA.cons (DE.var 1) (DA.cons (DE.con (.int 9)) DA.nil)))) (DE.con (.int 4))))) DA.nil)) DA.nil)))
  DB.nil)
def b_law_f8 : DB := (DB.cons (DS.iff (DT.cmp .NotEq (DE.lst (DL.comp [("way", 14)] (DG.nm 14) (DI.seq (DE.tup (DA.cons (DE.con (.int 0)) (DA.cons (DE.con (.int 3)) DA.nil)))) DF.no (DE.call "_law_outcome" c__law_outcome (DA.cons (DE.var 14) (DA.cons (DE.tup (DA.cons (DE.var 3) (DA.cons (DE.var 9) DA.nil))) DA.nil))))) (DE.lst (DL.rep (DE.lst (DL.dis (DA.cons (DE.call "_law_raises" c__law_raises (DA.cons (DE.con (.str "vector")) DA.nil)) DA.nil))) (DE.con (.int 2))))) (DB.cons (DS.ret (DE.con (.bl false)))
  DB.nil) DB.nil)
  DB.nil)
def b_law_f9 : DB := (DB.cons (DS.iff (DT.cmp .NotEq (DE.call "_law_outcome" c__law_outcome (DA.cons (DE.con (.int 1)) (DA.cons (DE.tup (DA.cons (DE.var 3) (DA.cons (DE.var 9) DA.nil))) DA.nil))) (DE.call "_law_raises" c__law_raises (DA.cons (DE.con (.str "number")) DA.nil))) (DB.cons (DS.ret (DE.con (.bl false)))
  DB.nil) DB.nil)
  DB.nil)
def b_law_f10 : DB := (DB.cons (DS.iff (DT.cmp .NotEq (DE.call "_law_outcome" c__law_outcome (DA.cons (DE.con (.int 2)) (DA.cons (DE.tup (DA.cons (DE.var 3) (DA.cons (DE.var 9) DA.nil))) DA.nil))) (DE.call "_law_raises" c__law_raises (DA.cons (DE.con (.str "dimension")) DA.nil))) (DB.cons (DS.ret (DE.con (.bl false)))
  DB.nil) DB.nil)
  DB.nil)
def b_law_f13 : DB := (DB.cons (DS.iff (DT.cmp .Eq (DE.met "Session" "contains" c_Session_contains (DE.var 3) (DA.cons (DE.var 10) DA.nil)) (DE.met "Session" "add" c_Session_add (DE.var 3) (DA.cons (DE.var 10) DA.nil))) (DB.cons (DS.ret (DE.con (.bl false)))
  DB.nil) DB.nil)
  DB.nil)
def b_law_c17 : DB := (DB.cons (DS.set 12 (DE.call "_law_draw" c__law_draw (DA.cons (DE.var 0) (DA.cons (DE.var 1) (DA.cons (DE.con (.int 8)) DA.nil)))))
  (DB.cons (DS.iff (DT.bool (DW.cons (DT.cmp .NotEq (DE.met "Session" "remove" c_Session_remove (DE.var 3) (DA.cons (DE.var 12) DA.nil)) (DE.ix (DE.var 11) (DE.var 12))) (DW.one .Or (DT.cmp .NotEq (DE.met0 "Session" "generators" c_Session_generators (DE.var 3)) (DE.op .Add (DE.sl (DE.var 11) DO.no (DO.so (DE.var 12))) (DE.sl (DE.var 11) (DO.so (DE.op .Add (DE.var 12) (DE.con (.int 1)))) DO.no)))))) (DB.cons (DS.ret (DE.con (.bl false)))
  DB.nil) DB.nil)
  (DB.cons (DS.ret (DE.cmp .Is (DE.met "Session" "add" c_Session_add (DE.var 3) (DA.cons (DE.var 7) DA.nil)) (DE.con (.bl false))))
  DB.nil)))
def b_law_c15 : DB := (DB.cons (DS.set 11 (DE.met0 "Session" "generators" c_Session_generators (DE.var 3)))
  (DB.cons (DS.iff (DT.bool (DW.cons (DT.cmp .NotEq (DE.call "_law_outcome" c__law_outcome (DA.cons (DE.con (.int 0)) (DA.cons (DE.tup (DA.cons (DE.var 3) (DA.cons (DE.var 7) DA.nil))) DA.nil))) (DE.call "_law_raises" c__law_raises (DA.cons (DE.con (.str "many")) DA.nil))) (DW.one .Or (DT.cmp .NotEq (DE.met0 "Session" "generators" c_Session_generators (DE.var 3)) (DE.var 11))))) (DB.cons (DS.ret (DE.con (.bl false)))
  DB.nil) DB.nil)
  b_law_c17))
def b_law_c14 : DB := (DB.cons (DS.iff (DT.bool (DW.cons (DT.cmp .NotEq (DE.lenO "Session" c_Session___len__ (DE.var 3)) (DE.con (.int 8))) (DW.one .Or (DT.bool (DW.cons (DT.cmp .Lt (DE.var 4) (DE.con (.int 8))) (DW.one .And (DT.cmp .NotEq (DE.ix (DE.met0 "Session" "generators" c_Session_generators (DE.var 3)) (DE.neg (DE.con (.int 1)))) (DE.var 10)))))))) (DB.cons (DS.ret (DE.con (.bl false)))
  DB.nil) DB.nil)
  b_law_c15)
def b_law_c13 : DB := (DB.cons (DS.for (DG.nm 5) (DI.range2 (DE.var 4) (DE.con (.int 8))) b_law_f13)
  b_law_c14)
def b_law_c11 : DB := (DB.cons (DS.iff (DT.bool (DW.cons (DT.cmp .NotEq (DE.met0 "Session" "generators" c_Session_generators (DE.var 3)) (DE.var 6)) (DW.cons (DT.cmp .NotEq (DE.lenO "Session" c_Session___len__ (DE.var 3)) (DE.var 4)) (DW.one .Or (DT.cmp .IsNot (DE.met "Session" "contains" c_Session_contains (DE.var 3) (DA.cons (DE.var 7) DA.nil)) (DE.con (.bl true))))))) (DB.cons (DS.ret (DE.con (.bl false)))
  DB.nil) DB.nil)
  (DB.cons (DS.set 10 (DE.op .Add (DE.sl (DE.var 7) (DO.so (DE.con (.int 1))) DO.no) (DE.tup (DA.cons (DE.op .Pow (DE.con (.int 10)) (DE.con (.int 6))) DA.nil))))
  b_law_c13))
def b_law_c10 : DB := (DB.cons (DS.for (DG.nm 9) (DI.seq (DE.tup (DA.cons (DE.con (.int 0)) (DA.cons (DE.con (.int 4)) (DA.cons (DE.con (.bl true)) (DA.cons (DE.con .non) (DA.cons (DE.con (.str "1")) (DA.cons (DE.tup (DA.cons (DE.con (.int 1)) DA.nil)) DA.nil)))))))) b_law_f10)
  b_law_c11)
def b_law_c9 : DB := (DB.cons (DS.for (DG.nm 9) (DI.seq (DE.tup (DA.cons (DE.neg (DE.con (.int 1))) (DA.cons (DE.var 4) (DA.cons (DE.con (.bl true)) (DA.cons (DE.con .non) (DA.cons (DE.con (.str "0")) (DA.cons (DE.tup (DA.cons (DE.con (.int 0)) DA.nil)) DA.nil)))))))) b_law_f9)
  b_law_c10)
def b_law_c8 : DB := (DB.cons (DS.for (DG.nm 9) (DI.seq (DE.op .Add (DE.var 8) (DE.lst (DL.dis (DA.cons (DE.op .Mult (DE.tup (DA.cons (DE.con .non) DA.nil)) (DE.var 2)) DA.nil))))) b_law_f8)
  b_law_c9)
def b_law_c5 : DB := (DB.cons (DS.set 6 (DE.met0 "Session" "generators" c_Session_generators (DE.var 3)))
  (DB.cons (DS.set 7 (DE.op .Mult (DE.tup (DA.cons (DE.con (.int 0)) DA.nil)) (DE.var 2)))
  (DB.cons (DS.set 8 (DE.lst (DL.dis (DA.cons (DE.con .non) (DA.cons (DE.con (.int 5)) (DA.cons (DE.tup DA.nil) (DA.cons (DE.op .Add (DE.var 7) (DE.tup (DA.cons (DE.con (.int 0)) DA.nil))) (DA.cons (DE.sl (DE.var 7) (DO.so (DE.con (.int 1))) DO.no) (DA.cons (DE.lst (DL.rep (DE.lst (DL.dis (DA.cons (DE.con (.int 0)) DA.nil))) (DE.var 2))) (DA.cons (DE.op .Mult (DE.tup (DA.cons (DE.con (.bl true)) DA.nil)) (DE.var 2)) (DA.cons (DE.op .Add (DE.sl (DE.var 7) (DO.so (DE.con (.int 1))) DO.no) (DE.tup (DA.cons (DE.op .Add (DE.op .Pow (DE.con (.int 10)) (DE.con (.int 6))) (DE.con (.int 1))) DA.nil))) (DA.cons (DE.op .Mult (DE.con (.str "0")) (DE.var 2)) DA.nil))))))))))))
  b_law_c8)))
def b_law_c4 : DB := (DB.cons (DS.for (DG.nm 5) (DI.range1 (DE.var 4)) b_law_f4)
  b_law_c5)
def b_law : DB := (DB.cons (DS.set 1 (DE.call "_law_town" c__law_town (DA.cons (DE.var 0) DA.nil)))
  (DB.cons (DS.set 2 (DE.op .Add (DE.con (.int 1)) (DE.call "_law_draw" c__law_draw (DA.cons (DE.var 0) (DA.cons (DE.var 1) (DA.cons (DE.con (.int 3)) DA.nil))))))
  (DB.cons (DS.set 3 (DE.make "Session" c_Session___init__ (DA.cons (DE.var 2) DA.nil)))
  (DB.cons (DS.set 4 (DE.call "_law_pick" c__law_pick (DA.cons (DE.var 0) (DA.cons (DE.var 1) (DA.cons (DE.lst (DL.dis (DA.cons (DE.con (.int 0)) (DA.cons (DE.con (.int 3)) (DA.cons (DE.con (.int 8)) DA.nil))))) DA.nil)))))
  b_law_c4))))
theorem rep1 {α : Type} (x : α) : ∀ n : Nat, (List.replicate n [x]).flatten = List.replicate n x
  | 0 => rfl
  | n + 1 => by rw [List.replicate_succ, List.flatten_cons, rep1 x n]; rfl
def zV (n : Nat) : List Int := List.replicate n 0
theorem zV_is (n : Nat) : isV n (zV n) = true := by
  simp [isV, zV, lim]
theorem VE_z (n : Nat) : VE (zV n) = .tup (List.replicate n (.int 0)) := by simp [VE, zV]
/-- the adds at the start -/
theorem k62_f4 {E : DEnds} {ns : List Int} {n i many : Nat} {s : SV} {a5 a6 a7 a8 a9 a10 a11 a12 a13 a14 : Option D} {S : Sto} (hm : many ≤ 8) (t : TS ns 900000 0 S i s) (hn : s.n = n) (hc : s.cur = [])
    (hE : ∀ a5 a13 S2 s2, TS ns 800000 8 S2 i s2 → s2.n = n → s2.cur.length = many → E.nx [some (.scr (ns.map .int)), some (.han 0), some (.int n), some (.han i), some (.int many), a5, a6, a7, a8, a9, a10, a11, a12, a13, a14] S2) :
    forGo (DG.nm 5).bd b_law_f4.wp E [] (rangeD 0 many) [some (.scr (ns.map .int)), some (.han 0), some (.int n), some (.han i), some (.int many), a5, a6, a7, a8, a9, a10, a11, a12, a13, a14] S := by
  have n3 := t.ok.n3
  refine forGo_inv (fun ds env T => ∃ (a5 a13 : Option D) (s2 : SV), env = [some (.scr (ns.map .int)), some (.han 0), some (.int n), some (.han i), some (.int many), a5, a6, a7, a8, a9, a10, a11, a12, a13, a14] ∧
    s2.n = n ∧ s2.cur.length + ds.length = many ∧ TS ns (850000 + 10 * ds.length) s2.cur.length T i s2) ?_ ?_ _ _ _ ⟨a5, a13, s, rfl, hn, by rw [hc, range_len]; simp, by rw [hc]; exact t.mono (by rw [range_len]; omega)⟩
  · rintro d1 ds1 env1 S1 ⟨a5, a13, s2, rfl, e1, e2, t⟩
    rw [List.length_cons] at t e2
    refine ⟨trivial, _, rfl, fun nx hnx => ?_⟩
    unfold b_law_f4
    walk_at "wpf"
    refine ⟨_, t.ses.ins, rfl, by omega, by omega, by rw [range_len]; exact szLe (by omega), ?_⟩
    refine compGo_dr (fun j : Nat => D.int (0 + (j : Nat))) D.int (fun _ x => x.natAbs ≤ 1000000) (fun k T => TS ns k s2.cur.length T i s2) (850000 + 10 * ds1.length) 1 (List.range n) [] S1 (t.mono (by rw [List.length_range]; omega)) (fun a ha j S' t' => ⟨_, rfl, fun Qd hq => ?_⟩) fun xs S' hx t' => ?_
    · walk_at "wpf"
      refine t'.draw (by omega) (by omega) fun r S3 r0 r1 t3 => ?_
      walk_at "wpf"
      exact hq _ _ (by omega) t3
    · walk_at "wpf"
      have lx : xs.length = n := by have := hx.len; rwa [List.length_range] at this
      have hv : isV s2.n xs = true := by
        simp only [isV, Bool.and_eq_true, decide_eq_true_eq, List.all_eq_true]
        exact ⟨by omega, fun x hx' => lim_iff.mpr (let ⟨_, _, p⟩ := hx.mem x hx'; p)⟩
      refine t'.add (by omega) hv (by omega) fun b S4 s4 _ t4 en ec => ?_
      have ln : s4.cur.length = s2.cur.length + 1 := by rw [ec]; simp
      exact hnx _ _ ⟨_, _, s4, rfl, by omega, by omega, by rw [ln]; exact t4⟩
  · rintro env1 S1 ⟨a5, a13, s2, rfl, e1, e2, t⟩
    have t8 := t.ok.few
    refine ⟨trivial, hE _ _ _ s2 ⟨t.tw.mono (by omega), t.ses, t.ok, by have := t.em; omega, by have := t.dm; omega, t.i0, t.e0, t.d0, t.u0⟩ e1 (by simpa using e2)⟩
/-- the draws left are not asked any more -/
theorem k62_c17 {E : DEnds} {ns : List Int} {n i : Nat} {s : SV} {a4 a5 a6 a8 a9 a10 a12 a13 a14 : Option D} {S : Sto} (t : TS ns 100 50 S i s) (hn : s.n = n) (h8 : s.cur.length = 8) (hE : ∀ S2, E.rt (.bl true) S2) :
    b_law_c17.wp E [some (.scr (ns.map .int)), some (.han 0), some (.int n), some (.han i), a4, a5, a6, some (VE (zV n)), a8, a9, a10, some (.tup (s.cur.map VE)), a12, a13, a14] S := by
  unfold b_law_c17
  walk_at "wpf"
  refine t.draw (k := 99) (by omega) (by omega) fun r S2 r0 r1 t2 => ?_
  obtain ⟨j, rfl⟩ := Int.eq_ofNat_of_zero_le r0
  walk_at "wpf"
  have hj : j < s.cur.length := by omega
  refine ⟨_, t2.ses.ins, rfl, t2.remove (by omega) hj fun S3 s3 t3 en ec => ?_⟩
  refine ⟨_, by rw [atI_map, atI_some hj]; rfl, ?_⟩
  refine oNe_V _ _ _ _ ⟨_, rfl, ?_⟩
  simp only [decide_true, Bool.not_true, Bool.false_eq_true, if_false]
  refine ⟨_, t3.ses.ins, rfl, i, s3, rfl, t3.ses, ?_⟩
  rw [cut_to, show ((j : Int) + 1) = ((j + 1 : Nat) : Int) by omega, cut_from]
  refine ⟨by rw [← List.map_take, ← List.map_drop]; simp only [List.length_map, List.length_take, List.length_drop]; exact szLe (by omega), ?_⟩
  rw [← List.map_take, ← List.map_drop, ← List.map_append, erase_take, ec]
  refine oNe_M _ _ _ _ ⟨_, rfl, ?_⟩
  simp only [decide_true, Bool.not_true, Bool.false_eq_true, if_false]
  refine ⟨_, t3.ses.ins, rfl, t3.add (v := zV n) (by omega) (by rw [en, hn]; exact zV_is n) ?_ fun b S4 s4 hb t4 _ _ => ?_⟩
  · rw [ec, List.length_eraseIdx_of_lt hj]; omega
  have : b = false := hb.mpr (by rw [en, hn]; exact .zero)
  subst this
  exact hE _
theorem k62_c15 {E : DEnds} {ns : List Int} {n i : Nat} {s : SV} {a4 a5 a6 a8 a9 a10 a11 a12 a13 a14 : Option D} {S : Sto} (t : TS ns 100 50 S i s) (hn : s.n = n) (h8 : s.cur.length = 8) (hE : ∀ S2, E.rt (.bl true) S2) :
    b_law_c15.wp E [some (.scr (ns.map .int)), some (.han 0), some (.int n), some (.han i), a4, a5, a6, some (VE (zV n)), a8, a9, a10, a11, a12, a13, a14] S := by
  unfold b_law_c15
  walk_at "wpf"
  refine ⟨_, t.ses.ins, rfl, i, s, rfl, t.ses, ?_⟩
  walk_at "wpf"
  refine out_many t.ses t.ok (by rw [hn]; exact zV_is n) h8 (rai_many (oNe_rai _ _ _ _ ⟨_, rfl, ?_⟩))
  simp only [decide_true, Bool.not_true, Bool.false_eq_true, if_false]
  refine ⟨_, t.ses.ins, rfl, i, s, rfl, t.ses, oNe_M _ _ _ _ ⟨_, rfl, ?_⟩⟩
  simp only [decide_true, Bool.not_true, Bool.false_eq_true, if_false]
  exact k62_c17 t hn h8 hE
theorem k62_c13 {E : DEnds} {ns : List Int} {n i many : Nat} {s : SV} {a5 a6 a8 a9 a11 a12 a13 a14 : Option D} {S : Sto} {g : List Int} (hg : isV n g = true) (hm : many ≤ 8) (t : TS ns 100 8 S i s) (hn : s.n = n) (hc : s.cur.length = many) (hE : ∀ S2, E.rt (.bl true) S2) :
    b_law_c13.wp E [some (.scr (ns.map .int)), some (.han 0), some (.int n), some (.han i), some (.int many), a5, a6, some (VE (zV n)), a8, a9, some (VE g), a11, a12, a13, a14] S := by
  unfold b_law_c13
  walk_at "wpf"
  refine ⟨⟨by omega, by omega, by omega, by omega⟩, ?_⟩
  refine forGo_inv (fun ds env T => ∃ (a5 : Option D) (s2 : SV), env = [some (.scr (ns.map .int)), some (.han 0), some (.int n), some (.han i), some (.int many), a5, a6, some (VE (zV n)), a8, a9, some (VE g), a11, a12, a13, a14] ∧
    s2.n = n ∧ s2.cur.length + ds.length = 8 ∧ TS ns 100 (8 + s2.cur.length) T i s2 ∧ (many < s2.cur.length → ∃ C, s2.cur = C ++ [g]) ∧ many ≤ s2.cur.length) ?_ ?_ _ _ _ ⟨a5, s, rfl, hn, by rw [hc, range_len]; omega, ⟨t.tw, t.ses, t.ok, by have := t.em; omega, by have := t.dm; omega, t.i0, t.e0, t.d0, t.u0⟩, by omega, by omega⟩
  · rintro d1 ds1 env1 S1 ⟨a5, s2, rfl, e1, e2, t, e3, e4⟩
    rw [List.length_cons] at e2
    refine ⟨trivial, _, rfl, fun nx hnx => ?_⟩
    unfold b_law_f13
    walk_at "wpf"
    refine ⟨_, t.ses.ins, rfl, t.contains (by rw [e1]; exact hg) fun b hb => ⟨_, t.ses.ins, rfl, t.add (by omega) (by rw [e1]; exact hg) (by omega) fun b2 S4 s4 hb2 t4 en ec => ?_⟩⟩
    refine oEq_bb _ _ _ _ ⟨_, rfl, ?_⟩
    rw [if_neg (by
      cases b <;> cases b2 <;> simp_all)]
    have ln : s4.cur.length = s2.cur.length + 1 := by rw [ec]; simp
    exact hnx _ _ ⟨_, s4, rfl, by omega, by omega, by rw [ln]; exact t4, fun _ => ⟨_, ec⟩, by omega⟩
  · rintro env1 S1 ⟨a5, s2, rfl, e1, e2, t, e3, e4⟩
    have e2' : s2.cur.length = 8 := by simpa using e2
    refine ⟨trivial, ?_⟩
    unfold b_law_c14
    walk_at "wpf"
    refine ⟨_, t.ses.ins, i, s2, rfl, t.ses, by omega, ?_⟩
    rw [e2']
    refine ⟨_, rfl, by omega, by omega, ?_⟩
    walk_at "wpf"
    have t' : TS ns 100 50 S1 i s2 := ⟨t.tw, t.ses, t.ok, by have := t.em; omega, by have := t.dm; omega, t.i0, t.e0, t.d0, t.u0⟩
    by_cases em : many < 8
    · rw [if_pos (by omega)]
      obtain ⟨C, eC⟩ := e3 (by omega)
      refine ⟨_, t.ses.ins, rfl, i, s2, rfl, t.ses, ?_⟩
      show oIx (.tup (s2.cur.map VE)) (.int (-1)) S1 _
      rw [eC]
      refine ix_last ?_
      refine oNe_V _ _ _ _ ⟨_, rfl, ?_⟩
      simp only [decide_true, Bool.not_true, Bool.false_eq_true, if_false]
      exact k62_c15 t' e1 e2' hE
    · rw [if_neg (by omega)]
      exact k62_c15 t' e1 e2' hE
theorem k62_c11 {E : DEnds} {ns : List Int} {n i many : Nat} {s : SV} {a5 a8 a9 a10 a11 a12 a13 a14 : Option D} {S : Sto} (hm : many ≤ 8) (t : TS ns 100 8 S i s) (hn : s.n = n) (hc : s.cur.length = many) (hE : ∀ S2, E.rt (.bl true) S2) :
    b_law_c11.wp E [some (.scr (ns.map .int)), some (.han 0), some (.int n), some (.han i), some (.int many), a5, some (.tup (s.cur.map VE)), some (VE (zV n)), a8, a9, a10, a11, a12, a13, a14] S := by
  have n1 := t.ok.n1
  have n3 := t.ok.n3
  unfold b_law_c11
  walk_at "wpf"
  refine ⟨_, t.ses.ins, rfl, i, s, rfl, t.ses, oNe_M _ _ _ _ ⟨_, rfl, ?_⟩⟩
  simp only [decide_true, Bool.not_true, Bool.false_eq_true, if_false]
  refine ⟨_, t.ses.ins, i, s, rfl, t.ses, by omega, _, rfl, by omega, by omega, ?_⟩
  rw [hc]
  walk_at "wpf"
  refine ⟨_, t.ses.ins, rfl, t.contains (by rw [hn]; exact zV_is n) fun b hb => ?_⟩
  have : b = true := hb.mpr (by rw [hn]; exact .zero)
  subst this
  walk_at "wpf"
  have e : zV n = (0 : Int) :: zV (n - 1) := by
    have : n = (n - 1) + 1 := by omega
    unfold zV
    conv => lhs; rw [this, List.replicate_succ]
  rw [e, VE_eq, List.map_cons]
  walk_at "wpf"
  refine ⟨by decide, szLe (by simp [zV]; omega), ?_⟩
  have eg : (zV (n - 1)).map D.int ++ [D.int (10 ^ 6)] = (zV (n - 1) ++ [10 ^ 6]).map D.int := by simp
  rw [eg, ← VE_eq, ← List.map_cons, ← VE_eq, ← e]
  refine k62_c13 ?_ hm t hn hc hE
  simp [isV, zV, lim]
  omega
theorem k62_c10 {E : DEnds} {ns : List Int} {n i many : Nat} {s : SV} {a5 a8 a9 a10 a11 a12 a13 a14 : Option D} {S : Sto} (hm : many ≤ 8) (t : TS ns 100 8 S i s) (hn : s.n = n) (hc : s.cur.length = many) (hE : ∀ S2, E.rt (.bl true) S2) :
    b_law_c10.wp E [some (.scr (ns.map .int)), some (.han 0), some (.int n), some (.han i), some (.int many), a5, some (.tup (s.cur.map VE)), some (VE (zV n)), a8, a9, a10, a11, a12, a13, a14] S := by
  unfold b_law_c10
  walk_at "wpf"
  refine forGo_inv (fun ds env T => ∃ (a9 : Option D), env = [some (.scr (ns.map .int)), some (.han 0), some (.int n), some (.han i), some (.int many), a5, some (.tup (s.cur.map VE)), some (VE (zV n)), a8, a9, a10, a11, a12, a13, a14] ∧
    (∀ d ∈ ds, okD d = true ∧ btw 1 3 d = false) ∧ TS ns 100 8 T i s) ?_ ?_ _ _ _ ⟨a9, rfl, ?_, t⟩
  · rintro d1 ds1 env1 S1 ⟨a9, rfl, hd, t⟩
    refine ⟨trivial, _, rfl, fun nx hnx => ?_⟩
    unfold b_law_f10
    walk_at "wpf"
    obtain ⟨h1, h2⟩ := hd d1 (by simp)
    refine out_dim h1 h2 (rai_dim (oNe_rai _ _ _ _ ⟨_, rfl, ?_⟩))
    simp only [decide_true, Bool.not_true, Bool.false_eq_true, if_false]
    exact hnx _ _ ⟨_, rfl, fun d h => hd d (List.mem_cons_of_mem _ h), t.frm (Gr.frm ⟨_, rfl⟩)⟩
  · rintro env1 S1 ⟨a9, rfl, hd, t⟩
    exact ⟨trivial, k62_c11 hm t hn hc hE⟩
  · intro d hd
    simp only [List.mem_cons, List.not_mem_nil, or_false] at hd
    rcases hd with rfl | rfl | rfl | rfl | rfl | rfl <;> exact ⟨rfl, by decide⟩
theorem k62_c9 {E : DEnds} {ns : List Int} {n i many : Nat} {s : SV} {a5 a8 a9 a10 a11 a12 a13 a14 : Option D} {S : Sto} (hm : many ≤ 8) (t : TS ns 100 8 S i s) (hn : s.n = n) (hc : s.cur.length = many) (hE : ∀ S2, E.rt (.bl true) S2) :
    b_law_c9.wp E [some (.scr (ns.map .int)), some (.han 0), some (.int n), some (.han i), some (.int many), a5, some (.tup (s.cur.map VE)), some (VE (zV n)), a8, a9, a10, a11, a12, a13, a14] S := by
  unfold b_law_c9
  walk_at "wpf"
  refine forGo_inv (fun ds env T => ∃ (a9 : Option D), env = [some (.scr (ns.map .int)), some (.han 0), some (.int n), some (.han i), some (.int many), a5, some (.tup (s.cur.map VE)), some (VE (zV n)), a8, a9, a10, a11, a12, a13, a14] ∧
    (∀ d ∈ ds, okD d = true ∧ btw 0 (s.cur.length - 1) d = false) ∧ TS ns 100 8 T i s) ?_ ?_ _ _ _ ⟨a9, rfl, ?_, t⟩
  · rintro d1 ds1 env1 S1 ⟨a9, rfl, hd, t⟩
    refine ⟨trivial, _, rfl, fun nx hnx => ?_⟩
    unfold b_law_f9
    walk_at "wpf"
    obtain ⟨h1, h2⟩ := hd d1 (by simp)
    refine out_num t.ses t.ok h1 h2 (rai_num (oNe_rai _ _ _ _ ⟨_, rfl, ?_⟩))
    simp only [decide_true, Bool.not_true, Bool.false_eq_true, if_false]
    exact hnx _ _ ⟨_, rfl, fun d h => hd d (List.mem_cons_of_mem _ h), t⟩
  · rintro env1 S1 ⟨a9, rfl, hd, t⟩
    exact ⟨trivial, k62_c10 hm t hn hc hE⟩
  · intro d hd
    simp only [List.mem_cons, List.not_mem_nil, or_false] at hd
    rcases hd with rfl | rfl | rfl | rfl | rfl | rfl
    · exact ⟨rfl, by simp [btw]⟩
    · exact ⟨rfl, by simp [btw, hc]; omega⟩
    · exact ⟨rfl, rfl⟩
    · exact ⟨rfl, rfl⟩
    · exact ⟨rfl, rfl⟩
    · exact ⟨rfl, rfl⟩
theorem k62_c8 {E : DEnds} {ns : List Int} {n i many : Nat} {s : SV} {a5 a9 a10 a11 a12 a13 a14 : Option D} {L : List D} {S : Sto} (hm : many ≤ 8) (t : TS ns 100 8 S i s) (hn : s.n = n) (hc : s.cur.length = many) (hl : L.length ≤ 100) (hL : ∀ d ∈ L, okVecD d ∧ isVD n d = false) (hE : ∀ S2, E.rt (.bl true) S2) :
    b_law_c8.wp E [some (.scr (ns.map .int)), some (.han 0), some (.int n), some (.han i), some (.int many), a5, some (.tup (s.cur.map VE)), some (VE (zV n)), some (.lst L), a9, a10, a11, a12, a13, a14] S := by
  have n1 := t.ok.n1
  have n3 := t.ok.n3
  unfold b_law_c8
  walk_at "wpf"
  refine ⟨by simp, by omega, by omega, by omega, szLe (by simp; omega), ?_⟩
  refine forGo_inv (fun ds env T => ∃ (a9 a14 : Option D), env = [some (.scr (ns.map .int)), some (.han 0), some (.int n), some (.han i), some (.int many), a5, some (.tup (s.cur.map VE)), some (VE (zV n)), some (.lst L), a9, a10, a11, a12, a13, a14] ∧
    (∀ d ∈ ds, okVecD d ∧ isVD n d = false) ∧ TS ns 100 8 T i s) ?_ ?_ _ _ _ ⟨a9, a14, rfl, ?_, t⟩
  · rintro d1 ds1 env1 S1 ⟨a9, a14, rfl, hd, t⟩
    refine ⟨trivial, _, rfl, fun nx hnx => ?_⟩
    unfold b_law_f8
    walk_at "wpf"
    obtain ⟨h1, h2⟩ := hd d1 (by simp)
    refine ⟨szLe (by omega), out_vec (.inl rfl) t.ses t.ok h1 (by rw [hn]; exact h2) ?_⟩
    refine out_vec (.inr rfl) t.ses t.ok h1 (by rw [hn]; exact h2) ?_
    walk_at "wpf"
    refine rai_vec ⟨by decide, by decide, szLe (by omega), ?_⟩
    refine oNe_L (eO eI) (by decide) [Oc.rai 1, Oc.rai 1] [Oc.rai 1, Oc.rai 1] _ _ ⟨_, rfl, ?_⟩
    simp only [decide_true, Bool.not_true, Bool.false_eq_true, if_false]
    exact hnx _ _ ⟨_, _, rfl, fun d h => hd d (List.mem_cons_of_mem _ h), t⟩
  · rintro env1 S1 ⟨a9, a14, rfl, hd, t⟩
    exact ⟨trivial, k62_c9 hm t hn hc hE⟩
  · intro d hd
    rcases List.mem_append.mp hd with q | q
    · exact hL d q
    · have : d = .tup (List.replicate n [D.non]).flatten := by simpa using q
      subst this
      rw [rep1]
      have n1' : n ≠ 0 := by omega
      refine ⟨⟨by simp; omega, fun e he => ?_⟩, ?_⟩
      · rw [(List.mem_replicate.mp he).2]; rfl
      · simp [isVD, btw, n1']
theorem w_law {ds : List D} {S' : Sto} {Q : QD} {X : XD} (h : cLaw ds S' Q X) : ctOf N_law.length b_law ds S' Q X := by
  obtain ⟨ns, rfl, hl, rfl, h⟩ := h
  unfold b_law N_law
  walk_at "wpf"
  refine Tw.town hl fun S1 t1 => ?_
  walk_at "wpf"
  refine t1.draw (k := 999998) (by omega) (by omega) fun r S2 r0 r1 t2 => ?_
  obtain ⟨n, en, n1, n3⟩ : ∃ n : Nat, 1 + r = (n : Int) ∧ 1 ≤ n ∧ n ≤ 3 := ⟨(1 + r).toNat, by omega, by omega, by omega⟩
  walk_at "wpf"
  rw [en]
  refine TS.make t2 n1 n3 fun S3 s t3 hn hc => ?_
  walk_at "wpf"
  refine t3.pick (k := 999997) (by simp) (by simp) fun x hx S4 t4 => ?_
  obtain ⟨many, rfl, hm⟩ : ∃ many : Nat, x = .int (many : Nat) ∧ many ≤ 8 := by
    simp only [List.mem_cons, List.not_mem_nil, or_false] at hx
    rcases hx with rfl | rfl | rfl
    · exact ⟨0, rfl, by omega⟩
    · exact ⟨3, rfl, by omega⟩
    · exact ⟨8, rfl, by omega⟩
  unfold b_law_c4
  walk_at "wpf"
  refine ⟨by omega, by omega, k62_f4 hm (t4.mono (by omega)) hn hc fun a5 a13 S5 s5 t5 hn5 hc5 => ?_⟩
  unfold b_law_c5
  walk_at "wpf"
  refine ⟨_, t5.ses.ins, rfl, S2.length, s5, rfl, t5.ses, ?_⟩
  walk_at "wpf"
  rw [rep1, ← VE_z]
  refine ⟨by simp, by omega, by omega, ?_⟩
  refine ⟨by omega, szLe (by simp; omega), by omega, by omega, szLe (by omega), by simp, by omega, by omega, by omega, by decide, szLe (by simp; omega), ⟨by omega, by omega, by decide +kernel⟩, ?_⟩
  refine k62_c8 hm (t5.mono (by omega)) hn5 hc5 (by simp) (fun d hd => ?_) h
  rw [rep1] at hd
  have n1' : n ≠ 0 := by omega
  simp only [List.mem_cons, List.not_mem_nil, or_false] at hd
  rcases hd with rfl | rfl | rfl | rfl | rfl | rfl | rfl | rfl | rfl
  · exact ⟨rfl, rfl⟩
  · exact ⟨rfl, rfl⟩
  · exact ⟨⟨by simp, by simp⟩, by simp [isVD]; omega⟩
  · refine ⟨⟨by simp; omega, fun e he => ?_⟩, by simp [isVD]; omega⟩
    rcases List.mem_append.mp he with q | q
    · rw [(List.mem_replicate.mp q).2]; rfl
    · have : e = .int 0 := by simpa using q
      rw [this]; rfl
  · refine ⟨⟨by simp; omega, fun e he => ?_⟩, by simp [isVD]; omega⟩
    rw [(List.mem_replicate.mp (List.mem_of_mem_drop he)).2]; rfl
  · exact ⟨rfl, rfl⟩
  · refine ⟨⟨by simp; omega, fun e he => ?_⟩, by simp [isVD, btw, n1']⟩
    rw [(List.mem_replicate.mp he).2]; rfl
  · refine ⟨⟨by simp; omega, fun e he => ?_⟩, by simp [isVD, btw]⟩
    rcases List.mem_append.mp he with q | q
    · rw [(List.mem_replicate.mp (List.mem_of_mem_drop q)).2]; rfl
    · have : e = .int (10 ^ 6 + 1) := by simpa using q
      rw [this]; rfl
  · exact ⟨rfl, rfl⟩
def topS (i : Nat) : Stmt := PySem.Challenge.pw_gridbases_k62_session_ends.main.body.getD i (.Pass ⟨0, 0, 0, 0⟩)
theorem m_is_integer : b_is_integer.mt ⟨N_is_integer, defScope (topS 16), fun _ => true⟩ (defBody (topS 16)) = true := by decide +kernel
theorem sc_is_integer : FnScope N_is_integer ["value"] (defScope (topS 16)) := ⟨rfl, rfl, rfl, by decide +kernel, rfl, by decide +kernel, by decide +kernel⟩
theorem m_is_between : b_is_between.mt ⟨N_is_between, defScope (topS 17), fun _ => true⟩ (defBody (topS 17)) = true := by decide +kernel
theorem sc_is_between : FnScope N_is_between ["value", "low", "high"] (defScope (topS 17)) := ⟨rfl, rfl, rfl, by decide +kernel, rfl, by decide +kernel, by decide +kernel⟩
theorem m_is_vector : b_is_vector.mt ⟨N_is_vector, defScope (topS 20), fun _ => true⟩ (defBody (topS 20)) = true := by decide +kernel
theorem sc_is_vector : FnScope N_is_vector ["n", "value"] (defScope (topS 20)) := ⟨rfl, rfl, rfl, by decide +kernel, rfl, by decide +kernel, by decide +kernel⟩
theorem m_check_vector : b_check_vector.mt ⟨N_check_vector, defScope (topS 21), fun _ => true⟩ (defBody (topS 21)) = true := by decide +kernel
theorem sc_check_vector : FnScope N_check_vector ["n", "value"] (defScope (topS 21)) := ⟨rfl, rfl, rfl, by decide +kernel, rfl, by decide +kernel, by decide +kernel⟩
theorem m_plus : b_plus.mt ⟨N_plus, defScope (topS 22), fun _ => true⟩ (defBody (topS 22)) = true := by decide +kernel
theorem sc_plus : FnScope N_plus ["one", "factor", "other"] (defScope (topS 22)) := ⟨rfl, rfl, rfl, by decide +kernel, rfl, by decide +kernel, by decide +kernel⟩
theorem m_sifted : b_sifted.mt ⟨N_sifted, defScope (topS 23), fun _ => true⟩ (defBody (topS 23)) = true := by decide +kernel
theorem sc_sifted : FnScope N_sifted ["rows", "n"] (defScope (topS 23)) := ⟨rfl, rfl, rfl, by decide +kernel, rfl, by decide +kernel, by decide +kernel⟩
theorem m_echelon : b_echelon.mt ⟨N_echelon, defScope (topS 24), fun _ => true⟩ (defBody (topS 24)) = true := by decide +kernel
theorem sc_echelon : FnScope N_echelon ["rows", "n"] (defScope (topS 24)) := ⟨rfl, rfl, rfl, by decide +kernel, rfl, by decide +kernel, by decide +kernel⟩
theorem m_is_generated : b_is_generated.mt ⟨N_is_generated, defScope (topS 26), fun _ => true⟩ (defBody (topS 26)) = true := by decide +kernel
theorem sc_is_generated : FnScope N_is_generated ["rows", "vector"] (defScope (topS 26)) := ⟨rfl, rfl, rfl, by decide +kernel, rfl, by decide +kernel, by decide +kernel⟩
theorem m__law_town : b__law_town.mt ⟨N__law_town, defScope (topS 29), fun _ => true⟩ (defBody (topS 29)) = true := by decide +kernel
theorem sc__law_town : FnScope N__law_town ["script"] (defScope (topS 29)) := ⟨rfl, rfl, rfl, by decide +kernel, rfl, by decide +kernel, by decide +kernel⟩
theorem m__law_draw : b__law_draw.mt ⟨N__law_draw, defScope (topS 30), fun _ => true⟩ (defBody (topS 30)) = true := by decide +kernel
theorem sc__law_draw : FnScope N__law_draw ["script", "town", "limit"] (defScope (topS 30)) := ⟨rfl, rfl, rfl, by decide +kernel, rfl, by decide +kernel, by decide +kernel⟩
theorem m__law_pick : b__law_pick.mt ⟨N__law_pick, defScope (topS 31), fun _ => true⟩ (defBody (topS 31)) = true := by decide +kernel
theorem sc__law_pick : FnScope N__law_pick ["script", "town", "choices"] (defScope (topS 31)) := ⟨rfl, rfl, rfl, by decide +kernel, rfl, by decide +kernel, by decide +kernel⟩
theorem m_Session_rows : b_Session_rows.mt ⟨N_Session_rows, defScope (inClass (topS 27) 8), fun _ => true⟩ (defBody (inClass (topS 27) 8)) = true := by decide +kernel
theorem sc_Session_rows : FnScope N_Session_rows ["self"] (defScope (inClass (topS 27) 8)) := ⟨rfl, rfl, rfl, by decide +kernel, rfl, by decide +kernel, by decide +kernel⟩
theorem m_Session_perform : b_Session_perform.mt ⟨N_Session_perform, defScope (inClass (topS 27) 4), fun _ => true⟩ (defBody (inClass (topS 27) 4)) = true := by decide +kernel
theorem sc_Session_perform : FnScope N_Session_perform ["self", "vectors", "operation"] (defScope (inClass (topS 27) 4)) := ⟨rfl, rfl, rfl, by decide +kernel, rfl, by decide +kernel, by decide +kernel⟩
theorem m_Session_add : b_Session_add.mt ⟨N_Session_add, defScope (inClass (topS 27) 5), fun _ => true⟩ (defBody (inClass (topS 27) 5)) = true := by decide +kernel
theorem sc_Session_add : FnScope N_Session_add ["self", "vector"] (defScope (inClass (topS 27) 5)) := ⟨rfl, rfl, rfl, by decide +kernel, rfl, by decide +kernel, by decide +kernel⟩
theorem m_Session_remove : b_Session_remove.mt ⟨N_Session_remove, defScope (inClass (topS 27) 6), fun _ => true⟩ (defBody (inClass (topS 27) 6)) = true := by decide +kernel
theorem sc_Session_remove : FnScope N_Session_remove ["self", "number"] (defScope (inClass (topS 27) 6)) := ⟨rfl, rfl, rfl, by decide +kernel, rfl, by decide +kernel, by decide +kernel⟩
theorem m_Session_contains : b_Session_contains.mt ⟨N_Session_contains, defScope (inClass (topS 27) 9), fun _ => true⟩ (defBody (inClass (topS 27) 9)) = true := by decide +kernel
theorem sc_Session_contains : FnScope N_Session_contains ["self", "vector"] (defScope (inClass (topS 27) 9)) := ⟨rfl, rfl, rfl, by decide +kernel, rfl, by decide +kernel, by decide +kernel⟩
theorem m_Session___init__ : b_Session___init__.mt ⟨N_Session___init__, defScope (inClass (topS 27) 0), fun _ => true⟩ (defBody (inClass (topS 27) 0)) = true := by decide +kernel
theorem sc_Session___init__ : FnScope N_Session___init__ ["self", "n"] (defScope (inClass (topS 27) 0)) := ⟨rfl, rfl, rfl, by decide +kernel, rfl, by decide +kernel, by decide +kernel⟩
theorem m__law_call : b__law_call.mt ⟨N__law_call, defScope (topS 35), fun _ => true⟩ (defBody (topS 35)) = true := by decide +kernel
theorem sc__law_call : FnScope N__law_call ["way", "arguments"] (defScope (topS 35)) := ⟨rfl, rfl, rfl, by decide +kernel, rfl, by decide +kernel, by decide +kernel⟩
theorem m__law_name : b__law_name.mt ⟨N__law_name, defScope (topS 33), fun _ => true⟩ (defBody (topS 33)) = true := by decide +kernel
theorem sc__law_name : FnScope N__law_name ["caught"] (defScope (topS 33)) := ⟨rfl, rfl, rfl, by decide +kernel, rfl, by decide +kernel, by decide +kernel⟩
theorem m__law_outcome : b__law_outcome.mt ⟨N__law_outcome, defScope (topS 32), fun _ => true⟩ (defBody (topS 32)) = true := by decide +kernel
theorem sc__law_outcome : FnScope N__law_outcome ["way", "arguments"] (defScope (topS 32)) := ⟨rfl, rfl, rfl, by decide +kernel, rfl, by decide +kernel, by decide +kernel⟩
theorem m__law_raises : b__law_raises.mt ⟨N__law_raises, defScope (topS 34), fun _ => true⟩ (defBody (topS 34)) = true := by decide +kernel
theorem sc__law_raises : FnScope N__law_raises ["name"] (defScope (topS 34)) := ⟨rfl, rfl, rfl, by decide +kernel, rfl, by decide +kernel, by decide +kernel⟩
theorem m_Session_generators : b_Session_generators.mt ⟨N_Session_generators, defScope (inClass (topS 27) 7), fun _ => true⟩ (defBody (inClass (topS 27) 7)) = true := by decide +kernel
theorem sc_Session_generators : FnScope N_Session_generators ["self"] (defScope (inClass (topS 27) 7)) := ⟨rfl, rfl, rfl, by decide +kernel, rfl, by decide +kernel, by decide +kernel⟩
theorem m_Session___len__ : b_Session___len__.mt ⟨N_Session___len__, defScope (inClass (topS 27) 1), fun _ => true⟩ (defBody (inClass (topS 27) 1)) = true := by decide +kernel
theorem sc_Session___len__ : FnScope N_Session___len__ ["self"] (defScope (inClass (topS 27) 1)) := ⟨rfl, rfl, rfl, by decide +kernel, rfl, by decide +kernel, by decide +kernel⟩
theorem m_law : b_law.mt ⟨N_law, defScope (topS 36), fun _ => true⟩ (defBody (topS 36)) = true := by decide +kernel
theorem sc_law : FnScope N_law ["script"] (defScope (topS 36)) := ⟨rfl, rfl, rfl, by decide +kernel, rfl, by decide +kernel, by decide +kernel⟩
theorem all_mk {l : PySem.W.OpenLaw} {w : World} {K : PySem.W.Frag} {h : Heap} {mg : Str → Option Value} {fa : Addr} (X : K.In h) (G : h.Ns mainGlobals mg) (hfa : mg "law" = some (.ref fa))
    {CS : Addr}
    {fis_integer : Addr} {odis_integer anis_integer : Option Addr} {slis_integer : Array (Option Value)} {ocis_integer kVis_integer dcis_integer pmis_integer cdis_integer ctis_integer : Value}
    {fis_between : Addr} {odis_between anis_between : Option Addr} {slis_between : Array (Option Value)} {ocis_between kVis_between dcis_between pmis_between cdis_between ctis_between : Value}
    {fis_vector : Addr} {odis_vector anis_vector : Option Addr} {slis_vector : Array (Option Value)} {ocis_vector kVis_vector dcis_vector pmis_vector cdis_vector ctis_vector : Value}
    {fcheck_vector : Addr} {odcheck_vector ancheck_vector : Option Addr} {slcheck_vector : Array (Option Value)} {occheck_vector kVcheck_vector dccheck_vector pmcheck_vector cdcheck_vector ctcheck_vector : Value}
    {fplus : Addr} {odplus anplus : Option Addr} {slplus : Array (Option Value)} {ocplus kVplus dcplus pmplus cdplus ctplus : Value}
    {fsifted : Addr} {odsifted ansifted : Option Addr} {slsifted : Array (Option Value)} {ocsifted kVsifted dcsifted pmsifted ctsifted : Value}
    {fechelon : Addr} {odechelon anechelon : Option Addr} {slechelon : Array (Option Value)} {ocechelon kVechelon dcechelon pmechelon cdechelon ctechelon : Value}
    {fis_generated : Addr} {odis_generated anis_generated : Option Addr} {slis_generated : Array (Option Value)} {ocis_generated kVis_generated dcis_generated pmis_generated cdis_generated ctis_generated : Value}
    {f_law_town : Addr} {od_law_town an_law_town : Option Addr} {sl_law_town : Array (Option Value)} {oc_law_town kV_law_town dc_law_town pm_law_town cd_law_town ct_law_town : Value}
    {f_law_draw : Addr} {od_law_draw an_law_draw : Option Addr} {sl_law_draw : Array (Option Value)} {oc_law_draw kV_law_draw dc_law_draw pm_law_draw cd_law_draw ct_law_draw : Value}
    {f_law_pick : Addr} {od_law_pick an_law_pick : Option Addr} {sl_law_pick : Array (Option Value)} {oc_law_pick kV_law_pick dc_law_pick pm_law_pick cd_law_pick ct_law_pick : Value}
    {fSession_rows : Addr} {odSession_rows anSession_rows : Option Addr} {slSession_rows : Array (Option Value)} {ocSession_rows kVSession_rows dcSession_rows pmSession_rows cdSession_rows ctSession_rows : Value}
    {fSession_perform : Addr} {odSession_perform anSession_perform : Option Addr} {slSession_perform : Array (Option Value)} {ocSession_perform kVSession_perform dcSession_perform pmSession_perform cdSession_perform ctSession_perform : Value}
    {fSession_add : Addr} {odSession_add anSession_add : Option Addr} {slSession_add : Array (Option Value)} {ocSession_add kVSession_add dcSession_add pmSession_add cdSession_add ctSession_add : Value}
    {fSession_remove : Addr} {odSession_remove anSession_remove : Option Addr} {slSession_remove : Array (Option Value)} {ocSession_remove kVSession_remove dcSession_remove pmSession_remove cdSession_remove ctSession_remove : Value}
    {fSession_contains : Addr} {odSession_contains anSession_contains : Option Addr} {slSession_contains : Array (Option Value)} {ocSession_contains kVSession_contains dcSession_contains pmSession_contains cdSession_contains ctSession_contains : Value}
    {fSession___init__ : Addr} {odSession___init__ anSession___init__ : Option Addr} {slSession___init__ : Array (Option Value)} {ocSession___init__ kVSession___init__ dcSession___init__ pmSession___init__ cdSession___init__ ctSession___init__ : Value}
    {f_law_call : Addr} {od_law_call an_law_call : Option Addr} {sl_law_call : Array (Option Value)} {oc_law_call kV_law_call dc_law_call pm_law_call cd_law_call ct_law_call : Value}
    {f_law_name : Addr} {od_law_name an_law_name : Option Addr} {sl_law_name : Array (Option Value)} {oc_law_name kV_law_name dc_law_name pm_law_name cd_law_name ct_law_name : Value}
    {f_law_outcome : Addr} {od_law_outcome an_law_outcome : Option Addr} {sl_law_outcome : Array (Option Value)} {oc_law_outcome kV_law_outcome dc_law_outcome pm_law_outcome cd_law_outcome ct_law_outcome : Value}
    {f_law_raises : Addr} {od_law_raises an_law_raises : Option Addr} {sl_law_raises : Array (Option Value)} {oc_law_raises kV_law_raises dc_law_raises pm_law_raises cd_law_raises ct_law_raises : Value}
    {fSession_generators : Addr} {odSession_generators anSession_generators : Option Addr} {slSession_generators : Array (Option Value)} {ocSession_generators kVSession_generators dcSession_generators pmSession_generators cdSession_generators ctSession_generators : Value}
    {fSession___len__ : Addr} {odSession___len__ anSession___len__ : Option Addr} {slSession___len__ : Array (Option Value)} {ocSession___len__ kVSession___len__ dcSession___len__ pmSession___len__ cdSession___len__ ctSession___len__ : Value}
    {flaw : Addr} {odlaw anlaw : Option Addr} {sllaw : Array (Option Value)} {oclaw kVlaw dclaw pmlaw cdlaw ctlaw : Value}
    {tLIMIT : Tok}
    {CInvalidDimension : Addr}
    {CInvalidNumber : Addr}
    {CInvalidVector : Addr}
    {CTooMany : Addr}
    {cS PS : Addr} {ocS : Value} {odS : Option Addr} {vsS : Array Value} {slS : Array (Option Value)}
    (aCS : PySem.W.nsIn K mainGlobals "Session" = some (some (.ref CS))) (pgCS : PySem.W.plainGet K CS Str.empty = true) (hdCS : PySem.W.hasDictIn K CS = true) (poCS : PySem.W.plainOver K CS = true) (saCS : PySem.W.findIn K (.ref CS) "__setattr__" = some (some (.builtin "object.__setattr__"))) (mkCS : PySem.W.makesIn K CS = true) (kcCS : PySem.W.keepIn K (.ref CS) = true)
    (nfcurrent : PySem.W.findIn K (.ref CS) "current" = some none)
    (nfdone : PySem.W.findIn K (.ref CS) "done" = some none)
    (nfearlier : PySem.W.findIn K (.ref CS) "earlier" = some none)
    (nfsize : PySem.W.findIn K (.ref CS) "size" = some none)
    (nfundone : PySem.W.findIn K (.ref CS) "undone" = some none)
    (ais_integer : PySem.W.nsIn K mainGlobals "is_integer" = some (some (.ref fis_integer))) (lis_integer : K.lookup fis_integer = some ⟨ocis_integer, odis_integer, .func (PySem.W.fnOf "is_integer" "is_integer" (defArgs (topS 16)) (defBody (topS 16)) (defScope (topS 16)) .none kVis_integer dcis_integer pmis_integer anis_integer cdis_integer ctis_integer), slis_integer⟩) (cis_integer : PySem.W.codeIn K cdis_integer "is_integer" = true) (kis_integer : PySem.W.keepIn K (.ref fis_integer) = true)
    (ais_between : PySem.W.nsIn K mainGlobals "is_between" = some (some (.ref fis_between))) (lis_between : K.lookup fis_between = some ⟨ocis_between, odis_between, .func (PySem.W.fnOf "is_between" "is_between" (defArgs (topS 17)) (defBody (topS 17)) (defScope (topS 17)) .none kVis_between dcis_between pmis_between anis_between cdis_between ctis_between), slis_between⟩) (cis_between : PySem.W.codeIn K cdis_between "is_between" = true) (kis_between : PySem.W.keepIn K (.ref fis_between) = true)
    (ais_vector : PySem.W.nsIn K mainGlobals "is_vector" = some (some (.ref fis_vector))) (lis_vector : K.lookup fis_vector = some ⟨ocis_vector, odis_vector, .func (PySem.W.fnOf "is_vector" "is_vector" (defArgs (topS 20)) (defBody (topS 20)) (defScope (topS 20)) .none kVis_vector dcis_vector pmis_vector anis_vector cdis_vector ctis_vector), slis_vector⟩) (cis_vector : PySem.W.codeIn K cdis_vector "is_vector" = true) (kis_vector : PySem.W.keepIn K (.ref fis_vector) = true)
    (acheck_vector : PySem.W.nsIn K mainGlobals "check_vector" = some (some (.ref fcheck_vector))) (lcheck_vector : K.lookup fcheck_vector = some ⟨occheck_vector, odcheck_vector, .func (PySem.W.fnOf "check_vector" "check_vector" (defArgs (topS 21)) (defBody (topS 21)) (defScope (topS 21)) .none kVcheck_vector dccheck_vector pmcheck_vector ancheck_vector cdcheck_vector ctcheck_vector), slcheck_vector⟩) (ccheck_vector : PySem.W.codeIn K cdcheck_vector "check_vector" = true) (kcheck_vector : PySem.W.keepIn K (.ref fcheck_vector) = true)
    (aplus : PySem.W.nsIn K mainGlobals "plus" = some (some (.ref fplus))) (lplus : K.lookup fplus = some ⟨ocplus, odplus, .func (PySem.W.fnOf "plus" "plus" (defArgs (topS 22)) (defBody (topS 22)) (defScope (topS 22)) .none kVplus dcplus pmplus anplus cdplus ctplus), slplus⟩) (cplus : PySem.W.codeIn K cdplus "plus" = true) (kplus : PySem.W.keepIn K (.ref fplus) = true)
    (asifted : PySem.W.nsIn K mainGlobals "sifted" = some (some (.ref fsifted))) (lsifted : K.lookup fsifted = some ⟨ocsifted, odsifted, .func (PySem.W.fnOf "sifted" "sifted" (defArgs (topS 23)) (defBody (topS 23)) (defScope (topS 23)) .none kVsifted dcsifted pmsifted ansifted (.ref cS) ctsifted), slsifted⟩) (csifted : PySem.W.codeIn K (.ref cS) "sifted" = true) (ksifted : PySem.W.keepIn K (.ref fsifted) = true)
    (aechelon : PySem.W.nsIn K mainGlobals "echelon" = some (some (.ref fechelon))) (lechelon : K.lookup fechelon = some ⟨ocechelon, odechelon, .func (PySem.W.fnOf "echelon" "echelon" (defArgs (topS 24)) (defBody (topS 24)) (defScope (topS 24)) .none kVechelon dcechelon pmechelon anechelon cdechelon ctechelon), slechelon⟩) (cechelon : PySem.W.codeIn K cdechelon "echelon" = true) (kechelon : PySem.W.keepIn K (.ref fechelon) = true)
    (ais_generated : PySem.W.nsIn K mainGlobals "is_generated" = some (some (.ref fis_generated))) (lis_generated : K.lookup fis_generated = some ⟨ocis_generated, odis_generated, .func (PySem.W.fnOf "is_generated" "is_generated" (defArgs (topS 26)) (defBody (topS 26)) (defScope (topS 26)) .none kVis_generated dcis_generated pmis_generated anis_generated cdis_generated ctis_generated), slis_generated⟩) (cis_generated : PySem.W.codeIn K cdis_generated "is_generated" = true) (kis_generated : PySem.W.keepIn K (.ref fis_generated) = true)
    (a_law_town : PySem.W.nsIn K mainGlobals "_law_town" = some (some (.ref f_law_town))) (l_law_town : K.lookup f_law_town = some ⟨oc_law_town, od_law_town, .func (PySem.W.fnOf "_law_town" "_law_town" (defArgs (topS 29)) (defBody (topS 29)) (defScope (topS 29)) .none kV_law_town dc_law_town pm_law_town an_law_town cd_law_town ct_law_town), sl_law_town⟩) (c_law_town : PySem.W.codeIn K cd_law_town "_law_town" = true) (k_law_town : PySem.W.keepIn K (.ref f_law_town) = true)
    (a_law_draw : PySem.W.nsIn K mainGlobals "_law_draw" = some (some (.ref f_law_draw))) (l_law_draw : K.lookup f_law_draw = some ⟨oc_law_draw, od_law_draw, .func (PySem.W.fnOf "_law_draw" "_law_draw" (defArgs (topS 30)) (defBody (topS 30)) (defScope (topS 30)) .none kV_law_draw dc_law_draw pm_law_draw an_law_draw cd_law_draw ct_law_draw), sl_law_draw⟩) (c_law_draw : PySem.W.codeIn K cd_law_draw "_law_draw" = true) (k_law_draw : PySem.W.keepIn K (.ref f_law_draw) = true)
    (a_law_pick : PySem.W.nsIn K mainGlobals "_law_pick" = some (some (.ref f_law_pick))) (l_law_pick : K.lookup f_law_pick = some ⟨oc_law_pick, od_law_pick, .func (PySem.W.fnOf "_law_pick" "_law_pick" (defArgs (topS 31)) (defBody (topS 31)) (defScope (topS 31)) .none kV_law_pick dc_law_pick pm_law_pick an_law_pick cd_law_pick ct_law_pick), sl_law_pick⟩) (c_law_pick : PySem.W.codeIn K cd_law_pick "_law_pick" = true) (k_law_pick : PySem.W.keepIn K (.ref f_law_pick) = true)
    (aSession_rows : PySem.W.findIn K (.ref CS) "rows" = some (some (.ref fSession_rows))) (iSession_rows : PySem.W.isFn K (.ref fSession_rows) = true) (lSession_rows : K.lookup fSession_rows = some ⟨ocSession_rows, odSession_rows, .func (PySem.W.fnOf "rows" "Session.rows" (defArgs (inClass (topS 27) 8)) (defBody (inClass (topS 27) 8)) (defScope (inClass (topS 27) 8)) .none kVSession_rows dcSession_rows pmSession_rows anSession_rows cdSession_rows ctSession_rows), slSession_rows⟩) (cSession_rows : PySem.W.codeIn K cdSession_rows "Session.rows" = true) (kSession_rows : PySem.W.keepIn K (.ref fSession_rows) = true)
    (aSession_perform : PySem.W.findIn K (.ref CS) "perform" = some (some (.ref fSession_perform))) (iSession_perform : PySem.W.isFn K (.ref fSession_perform) = true) (lSession_perform : K.lookup fSession_perform = some ⟨ocSession_perform, odSession_perform, .func (PySem.W.fnOf "perform" "Session.perform" (defArgs (inClass (topS 27) 4)) (defBody (inClass (topS 27) 4)) (defScope (inClass (topS 27) 4)) .none kVSession_perform dcSession_perform pmSession_perform anSession_perform cdSession_perform ctSession_perform), slSession_perform⟩) (cSession_perform : PySem.W.codeIn K cdSession_perform "Session.perform" = true) (kSession_perform : PySem.W.keepIn K (.ref fSession_perform) = true)
    (aSession_add : PySem.W.findIn K (.ref CS) "add" = some (some (.ref fSession_add))) (iSession_add : PySem.W.isFn K (.ref fSession_add) = true) (lSession_add : K.lookup fSession_add = some ⟨ocSession_add, odSession_add, .func (PySem.W.fnOf "add" "Session.add" (defArgs (inClass (topS 27) 5)) (defBody (inClass (topS 27) 5)) (defScope (inClass (topS 27) 5)) .none kVSession_add dcSession_add pmSession_add anSession_add cdSession_add ctSession_add), slSession_add⟩) (cSession_add : PySem.W.codeIn K cdSession_add "Session.add" = true) (kSession_add : PySem.W.keepIn K (.ref fSession_add) = true)
    (aSession_remove : PySem.W.findIn K (.ref CS) "remove" = some (some (.ref fSession_remove))) (iSession_remove : PySem.W.isFn K (.ref fSession_remove) = true) (lSession_remove : K.lookup fSession_remove = some ⟨ocSession_remove, odSession_remove, .func (PySem.W.fnOf "remove" "Session.remove" (defArgs (inClass (topS 27) 6)) (defBody (inClass (topS 27) 6)) (defScope (inClass (topS 27) 6)) .none kVSession_remove dcSession_remove pmSession_remove anSession_remove cdSession_remove ctSession_remove), slSession_remove⟩) (cSession_remove : PySem.W.codeIn K cdSession_remove "Session.remove" = true) (kSession_remove : PySem.W.keepIn K (.ref fSession_remove) = true)
    (aSession_contains : PySem.W.findIn K (.ref CS) "contains" = some (some (.ref fSession_contains))) (iSession_contains : PySem.W.isFn K (.ref fSession_contains) = true) (lSession_contains : K.lookup fSession_contains = some ⟨ocSession_contains, odSession_contains, .func (PySem.W.fnOf "contains" "Session.contains" (defArgs (inClass (topS 27) 9)) (defBody (inClass (topS 27) 9)) (defScope (inClass (topS 27) 9)) .none kVSession_contains dcSession_contains pmSession_contains anSession_contains cdSession_contains ctSession_contains), slSession_contains⟩) (cSession_contains : PySem.W.codeIn K cdSession_contains "Session.contains" = true) (kSession_contains : PySem.W.keepIn K (.ref fSession_contains) = true)
    (aSession___init__ : PySem.W.findIn K (.ref CS) "__init__" = some (some (.ref fSession___init__))) (iSession___init__ : PySem.W.isFn K (.ref fSession___init__) = true) (lSession___init__ : K.lookup fSession___init__ = some ⟨ocSession___init__, odSession___init__, .func (PySem.W.fnOf "__init__" "Session.__init__" (defArgs (inClass (topS 27) 0)) (defBody (inClass (topS 27) 0)) (defScope (inClass (topS 27) 0)) .none kVSession___init__ dcSession___init__ pmSession___init__ anSession___init__ cdSession___init__ ctSession___init__), slSession___init__⟩) (cSession___init__ : PySem.W.codeIn K cdSession___init__ "Session.__init__" = true) (kSession___init__ : PySem.W.keepIn K (.ref fSession___init__) = true)
    (a_law_call : PySem.W.nsIn K mainGlobals "_law_call" = some (some (.ref f_law_call))) (l_law_call : K.lookup f_law_call = some ⟨oc_law_call, od_law_call, .func (PySem.W.fnOf "_law_call" "_law_call" (defArgs (topS 35)) (defBody (topS 35)) (defScope (topS 35)) .none kV_law_call dc_law_call pm_law_call an_law_call cd_law_call ct_law_call), sl_law_call⟩) (c_law_call : PySem.W.codeIn K cd_law_call "_law_call" = true) (k_law_call : PySem.W.keepIn K (.ref f_law_call) = true)
    (a_law_name : PySem.W.nsIn K mainGlobals "_law_name" = some (some (.ref f_law_name))) (l_law_name : K.lookup f_law_name = some ⟨oc_law_name, od_law_name, .func (PySem.W.fnOf "_law_name" "_law_name" (defArgs (topS 33)) (defBody (topS 33)) (defScope (topS 33)) .none kV_law_name dc_law_name pm_law_name an_law_name cd_law_name ct_law_name), sl_law_name⟩) (c_law_name : PySem.W.codeIn K cd_law_name "_law_name" = true) (k_law_name : PySem.W.keepIn K (.ref f_law_name) = true)
    (a_law_outcome : PySem.W.nsIn K mainGlobals "_law_outcome" = some (some (.ref f_law_outcome))) (l_law_outcome : K.lookup f_law_outcome = some ⟨oc_law_outcome, od_law_outcome, .func (PySem.W.fnOf "_law_outcome" "_law_outcome" (defArgs (topS 32)) (defBody (topS 32)) (defScope (topS 32)) .none kV_law_outcome dc_law_outcome pm_law_outcome an_law_outcome cd_law_outcome ct_law_outcome), sl_law_outcome⟩) (c_law_outcome : PySem.W.codeIn K cd_law_outcome "_law_outcome" = true) (k_law_outcome : PySem.W.keepIn K (.ref f_law_outcome) = true)
    (a_law_raises : PySem.W.nsIn K mainGlobals "_law_raises" = some (some (.ref f_law_raises))) (l_law_raises : K.lookup f_law_raises = some ⟨oc_law_raises, od_law_raises, .func (PySem.W.fnOf "_law_raises" "_law_raises" (defArgs (topS 34)) (defBody (topS 34)) (defScope (topS 34)) .none kV_law_raises dc_law_raises pm_law_raises an_law_raises cd_law_raises ct_law_raises), sl_law_raises⟩) (c_law_raises : PySem.W.codeIn K cd_law_raises "_law_raises" = true) (k_law_raises : PySem.W.keepIn K (.ref f_law_raises) = true)
    (aSession_generators : PySem.W.findIn K (.ref CS) "generators" = some (some (.ref fSession_generators))) (iSession_generators : PySem.W.isFn K (.ref fSession_generators) = true) (lSession_generators : K.lookup fSession_generators = some ⟨ocSession_generators, odSession_generators, .func (PySem.W.fnOf "generators" "Session.generators" (defArgs (inClass (topS 27) 7)) (defBody (inClass (topS 27) 7)) (defScope (inClass (topS 27) 7)) .none kVSession_generators dcSession_generators pmSession_generators anSession_generators cdSession_generators ctSession_generators), slSession_generators⟩) (cSession_generators : PySem.W.codeIn K cdSession_generators "Session.generators" = true) (kSession_generators : PySem.W.keepIn K (.ref fSession_generators) = true)
    (aSession___len__ : PySem.W.findIn K (.ref CS) "__len__" = some (some (.ref fSession___len__))) (iSession___len__ : PySem.W.isFn K (.ref fSession___len__) = true) (lSession___len__ : K.lookup fSession___len__ = some ⟨ocSession___len__, odSession___len__, .func (PySem.W.fnOf "__len__" "Session.__len__" (defArgs (inClass (topS 27) 1)) (defBody (inClass (topS 27) 1)) (defScope (inClass (topS 27) 1)) .none kVSession___len__ dcSession___len__ pmSession___len__ anSession___len__ cdSession___len__ ctSession___len__), slSession___len__⟩) (cSession___len__ : PySem.W.codeIn K cdSession___len__ "Session.__len__" = true) (kSession___len__ : PySem.W.keepIn K (.ref fSession___len__) = true)
    (alaw : PySem.W.nsIn K mainGlobals "law" = some (some (.ref flaw))) (llaw : K.lookup flaw = some ⟨oclaw, odlaw, .func (PySem.W.fnOf "law" "law" (defArgs (topS 36)) (defBody (topS 36)) (defScope (topS 36)) .none kVlaw dclaw pmlaw anlaw cdlaw ctlaw), sllaw⟩) (claw : PySem.W.codeIn K cdlaw "law" = true) (klaw : PySem.W.keepIn K (.ref flaw) = true)
    (zValueError : PySem.W.nsIn K mainGlobals "ValueError" = some none)
    (zabs : PySem.W.nsIn K mainGlobals "abs" = some none)
    (zall : PySem.W.nsIn K mainGlobals "all" = some none)
    (zbool : PySem.W.nsIn K mainGlobals "bool" = some none)
    (zint : PySem.W.nsIn K mainGlobals "int" = some none)
    (zisinstance : PySem.W.nsIn K mainGlobals "isinstance" = some none)
    (zlen : PySem.W.nsIn K mainGlobals "len" = some none)
    (zlist : PySem.W.nsIn K mainGlobals "list" = some none)
    (zrange : PySem.W.nsIn K mainGlobals "range" = some none)
    (zsorted : PySem.W.nsIn K mainGlobals "sorted" = some none)
    (ztuple : PySem.W.nsIn K mainGlobals "tuple" = some none)
    (zzip : PySem.W.nsIn K mainGlobals "zip" = some none)
    (gLIMIT : PySem.W.nsIn K mainGlobals "LIMIT" = some (some (.int 1000000 tLIMIT)))
    (xaInvalidDimension : PySem.W.nsIn K mainGlobals "InvalidDimension" = some (some (.ref CInvalidDimension))) (xxInvalidDimension : PySem.W.excIn K CInvalidDimension [.type "ValueError", .type "Exception", .type "BaseException", .type "object"] "ValueError.__new__" = true) (xkInvalidDimension : PySem.W.keepIn K (.ref CInvalidDimension) = true) (xsInvalidDimension : PySem.W.subIn K (.ref CInvalidDimension) (.type "BaseException") = some true) (xtInvalidDimension : PySem.W.typeIn K (.ref CInvalidDimension) = some (.type "type"))
    (xaInvalidNumber : PySem.W.nsIn K mainGlobals "InvalidNumber" = some (some (.ref CInvalidNumber))) (xxInvalidNumber : PySem.W.excIn K CInvalidNumber [.type "ValueError", .type "Exception", .type "BaseException", .type "object"] "ValueError.__new__" = true) (xkInvalidNumber : PySem.W.keepIn K (.ref CInvalidNumber) = true) (xsInvalidNumber : PySem.W.subIn K (.ref CInvalidNumber) (.type "BaseException") = some true) (xtInvalidNumber : PySem.W.typeIn K (.ref CInvalidNumber) = some (.type "type"))
    (xaInvalidVector : PySem.W.nsIn K mainGlobals "InvalidVector" = some (some (.ref CInvalidVector))) (xxInvalidVector : PySem.W.excIn K CInvalidVector [.type "ValueError", .type "Exception", .type "BaseException", .type "object"] "ValueError.__new__" = true) (xkInvalidVector : PySem.W.keepIn K (.ref CInvalidVector) = true) (xsInvalidVector : PySem.W.subIn K (.ref CInvalidVector) (.type "BaseException") = some true) (xtInvalidVector : PySem.W.typeIn K (.ref CInvalidVector) = some (.type "type"))
    (xaTooMany : PySem.W.nsIn K mainGlobals "TooMany" = some (some (.ref CTooMany))) (xxTooMany : PySem.W.excIn K CTooMany [.type "ValueError", .type "Exception", .type "BaseException", .type "object"] "ValueError.__new__" = true) (xkTooMany : PySem.W.keepIn K (.ref CTooMany) = true) (xsTooMany : PySem.W.subIn K (.ref CTooMany) (.type "BaseException") = some true) (xtTooMany : PySem.W.typeIn K (.ref CTooMany) = some (.type "type"))
    (xball : excAllB K = true)
    (lS : K.lookup cS = some ⟨ocS, odS, .fields vsS, slS⟩) (pS : vsS[11]? = some (.ref PS)) (hS : PySem.W.codeHdIn K cS PS = true) (nS : K.lookup PS = none) (tS : h.get? PS = some (PySem.W.tabObj #[])) :
    LamX.LawAtS l w K (L2.CX l.prog w) 60 63 "script" mg fa h := by
  have e := hfa.symm.trans (PySem.W.mg_of X G alaw)
  cases e
  have wValueError := PySem.W.mg_none_of X G zValueError
  have wabs := PySem.W.mg_none_of X G zabs
  have wall := PySem.W.mg_none_of X G zall
  have wbool := PySem.W.mg_none_of X G zbool
  have wint := PySem.W.mg_none_of X G zint
  have wisinstance := PySem.W.mg_none_of X G zisinstance
  have wlen := PySem.W.mg_none_of X G zlen
  have wlist := PySem.W.mg_none_of X G zlist
  have wrange := PySem.W.mg_none_of X G zrange
  have wsorted := PySem.W.mg_none_of X G zsorted
  have wtuple := PySem.W.mg_none_of X G ztuple
  have wzip := PySem.W.mg_none_of X G zzip
  have wLIMIT : ∃ t, mg "LIMIT" = some (.int 1000000 t) := ⟨_, PySem.W.mg_of X G gLIMIT⟩
  have wInvalidDimension := PySem.W.mg_of X G xaInvalidDimension
  have wInvalidNumber := PySem.W.mg_of X G xaInvalidNumber
  have wInvalidVector := PySem.W.mg_of X G xaInvalidVector
  have wTooMany := PySem.W.mg_of X G xaTooMany
  have wExc := exc_tab X G xball
  have clCS : Cls K CS := ⟨pgCS, hdCS, poCS, saCS⟩
  refine ⟨PySem.W.fnOf "law" "law" (defArgs (topS 36)) (defBody (topS 36)) (defScope (topS 36)) .none kVlaw dclaw pmlaw anlaw cdlaw ctlaw, [(cS, PS)], spOf ⟨K, [(PS, "sifted" ++ ".<locals>." ++ "<lambda>")]⟩ mg 1 cLaw, ?_, ?_, ?_, fun s v => .of_eq rfl, ?_, fun base KB GB TB => ?_⟩
  · intro p hp; have : p = (cS, PS) := by simpa using hp
    subst this; exact tS
  · intro p hp; have : p = (cS, PS) := by simpa using hp
    subst this; exact nS
  · intro p hp; have : p = (cS, PS) := by simpa using hp
    subst this; exact PySem.W.codeHd_of_K X hS
  · exact fun H a ns hl _ hH hS => law_spT hl hS (hH (cS, PS) (by simp)) nS
  have F_is_integer : FnAt l.prog w ⟨K, [(PS, "sifted" ++ ".<locals>." ++ "<lambda>")]⟩ mg base 1 "is_integer" 1 c_is_integer := fn_atK (K := ⟨K, [(PS, "sifted" ++ ".<locals>." ++ "<lambda>")]⟩) X G ais_integer lis_integer cis_integer kis_integer sc_is_integer rfl (fun _ _ _ _ _ _ us hl => match us, hl with | [_], _ => rfl) m_is_integer w_is_integer (fun A hr => by
    simp only [b_is_integer, q0, q1, q2, q3, q4, q5, q6, q7, q8, q9, q10, q11, q12, q13, q14, q15, q16, q17, q18, q19, q20, q21, q22, q23, q24, q25, q26, q27, q28, q29, q30, q31, q32, q33, q34, q35, q36, q37, q38, q39, q40, q41, q42, q43, q44, q45, q46, q47, q48, q49, q50, q51, q52, q53, q54, q55, q56, q57, q58, q59, q60, q61, q62, q63, q64, q65, q66, q67, q68, q69, q70, q71, q72, q73, q74, q75, qn0, qn1, r0, r1, r2, r3, r4, r5, r6, r7, r8, r9, r10, r11, r12, r13, r14, and_true, true_and, and_self, Nat.reduceAdd, Nat.zero_add]
    (try exact trivial)
    all_goals (repeat' (first | apply And.intro | assumption | exact ⟨_, aCS, clCS, nfcurrent⟩ | exact ⟨_, aCS, clCS, nfdone⟩ | exact ⟨_, aCS, clCS, nfearlier⟩ | exact ⟨_, aCS, clCS, nfsize⟩ | exact ⟨_, aCS, clCS, nfundone⟩ | exact ⟨_, wInvalidDimension, xxInvalidDimension, xkInvalidDimension, xsInvalidDimension, xtInvalidDimension⟩ | exact ⟨_, wInvalidNumber, xxInvalidNumber, xkInvalidNumber, xsInvalidNumber, xtInvalidNumber⟩ | exact ⟨_, wInvalidVector, xxInvalidVector, xkInvalidVector, xsInvalidVector, xtInvalidVector⟩ | exact ⟨_, wTooMany, xxTooMany, xkTooMany, xsTooMany, xtTooMany⟩)))
  have F_is_between : FnAt l.prog w ⟨K, [(PS, "sifted" ++ ".<locals>." ++ "<lambda>")]⟩ mg base 2 "is_between" 3 c_is_between := fn_atK (K := ⟨K, [(PS, "sifted" ++ ".<locals>." ++ "<lambda>")]⟩) X G ais_between lis_between cis_between kis_between sc_is_between rfl (fun _ _ _ _ _ _ us hl => match us, hl with | [_, _, _], _ => rfl) m_is_between w_is_between (fun A hr => by
    simp only [b_is_between, q0, q1, q2, q3, q4, q5, q6, q7, q8, q9, q10, q11, q12, q13, q14, q15, q16, q17, q18, q19, q20, q21, q22, q23, q24, q25, q26, q27, q28, q29, q30, q31, q32, q33, q34, q35, q36, q37, q38, q39, q40, q41, q42, q43, q44, q45, q46, q47, q48, q49, q50, q51, q52, q53, q54, q55, q56, q57, q58, q59, q60, q61, q62, q63, q64, q65, q66, q67, q68, q69, q70, q71, q72, q73, q74, q75, qn0, qn1, r0, r1, r2, r3, r4, r5, r6, r7, r8, r9, r10, r11, r12, r13, r14, and_true, true_and, and_self, Nat.reduceAdd, Nat.zero_add]
    (try exact trivial)
    all_goals (repeat' (first | apply And.intro | assumption | exact ⟨1, F_is_integer.mono (by decide), hr⟩ | exact ⟨_, aCS, clCS, nfcurrent⟩ | exact ⟨_, aCS, clCS, nfdone⟩ | exact ⟨_, aCS, clCS, nfearlier⟩ | exact ⟨_, aCS, clCS, nfsize⟩ | exact ⟨_, aCS, clCS, nfundone⟩ | exact ⟨_, wInvalidDimension, xxInvalidDimension, xkInvalidDimension, xsInvalidDimension, xtInvalidDimension⟩ | exact ⟨_, wInvalidNumber, xxInvalidNumber, xkInvalidNumber, xsInvalidNumber, xtInvalidNumber⟩ | exact ⟨_, wInvalidVector, xxInvalidVector, xkInvalidVector, xsInvalidVector, xtInvalidVector⟩ | exact ⟨_, wTooMany, xxTooMany, xkTooMany, xsTooMany, xtTooMany⟩)))
  have F_is_vector : FnAt l.prog w ⟨K, [(PS, "sifted" ++ ".<locals>." ++ "<lambda>")]⟩ mg base 3 "is_vector" 2 c_is_vector := fn_atK (K := ⟨K, [(PS, "sifted" ++ ".<locals>." ++ "<lambda>")]⟩) X G ais_vector lis_vector cis_vector kis_vector sc_is_vector rfl (fun _ _ _ _ _ _ us hl => match us, hl with | [_, _], _ => rfl) m_is_vector w_is_vector (fun A hr => by
    simp only [b_is_vector, q0, q1, q2, q3, q4, q5, q6, q7, q8, q9, q10, q11, q12, q13, q14, q15, q16, q17, q18, q19, q20, q21, q22, q23, q24, q25, q26, q27, q28, q29, q30, q31, q32, q33, q34, q35, q36, q37, q38, q39, q40, q41, q42, q43, q44, q45, q46, q47, q48, q49, q50, q51, q52, q53, q54, q55, q56, q57, q58, q59, q60, q61, q62, q63, q64, q65, q66, q67, q68, q69, q70, q71, q72, q73, q74, q75, qn0, qn1, r0, r1, r2, r3, r4, r5, r6, r7, r8, r9, r10, r11, r12, r13, r14, and_true, true_and, and_self, Nat.reduceAdd, Nat.zero_add]
    (try exact trivial)
    all_goals (repeat' (first | apply And.intro | assumption | exact ⟨2, F_is_between.mono (by decide), hr⟩ | exact ⟨_, aCS, clCS, nfcurrent⟩ | exact ⟨_, aCS, clCS, nfdone⟩ | exact ⟨_, aCS, clCS, nfearlier⟩ | exact ⟨_, aCS, clCS, nfsize⟩ | exact ⟨_, aCS, clCS, nfundone⟩ | exact ⟨_, wInvalidDimension, xxInvalidDimension, xkInvalidDimension, xsInvalidDimension, xtInvalidDimension⟩ | exact ⟨_, wInvalidNumber, xxInvalidNumber, xkInvalidNumber, xsInvalidNumber, xtInvalidNumber⟩ | exact ⟨_, wInvalidVector, xxInvalidVector, xkInvalidVector, xsInvalidVector, xtInvalidVector⟩ | exact ⟨_, wTooMany, xxTooMany, xkTooMany, xsTooMany, xtTooMany⟩)))
  have F_check_vector : FnAt l.prog w ⟨K, [(PS, "sifted" ++ ".<locals>." ++ "<lambda>")]⟩ mg base 4 "check_vector" 2 c_check_vector := fn_atK (K := ⟨K, [(PS, "sifted" ++ ".<locals>." ++ "<lambda>")]⟩) X G acheck_vector lcheck_vector ccheck_vector kcheck_vector sc_check_vector rfl (fun _ _ _ _ _ _ us hl => match us, hl with | [_, _], _ => rfl) m_check_vector w_check_vector (fun A hr => by
    simp only [b_check_vector, q0, q1, q2, q3, q4, q5, q6, q7, q8, q9, q10, q11, q12, q13, q14, q15, q16, q17, q18, q19, q20, q21, q22, q23, q24, q25, q26, q27, q28, q29, q30, q31, q32, q33, q34, q35, q36, q37, q38, q39, q40, q41, q42, q43, q44, q45, q46, q47, q48, q49, q50, q51, q52, q53, q54, q55, q56, q57, q58, q59, q60, q61, q62, q63, q64, q65, q66, q67, q68, q69, q70, q71, q72, q73, q74, q75, qn0, qn1, r0, r1, r2, r3, r4, r5, r6, r7, r8, r9, r10, r11, r12, r13, r14, and_true, true_and, and_self, Nat.reduceAdd, Nat.zero_add]
    (try exact trivial)
    all_goals (repeat' (first | apply And.intro | assumption | exact ⟨3, F_is_vector.mono (by decide), hr⟩ | exact ⟨_, aCS, clCS, nfcurrent⟩ | exact ⟨_, aCS, clCS, nfdone⟩ | exact ⟨_, aCS, clCS, nfearlier⟩ | exact ⟨_, aCS, clCS, nfsize⟩ | exact ⟨_, aCS, clCS, nfundone⟩ | exact ⟨_, wInvalidDimension, xxInvalidDimension, xkInvalidDimension, xsInvalidDimension, xtInvalidDimension⟩ | exact ⟨_, wInvalidNumber, xxInvalidNumber, xkInvalidNumber, xsInvalidNumber, xtInvalidNumber⟩ | exact ⟨_, wInvalidVector, xxInvalidVector, xkInvalidVector, xsInvalidVector, xtInvalidVector⟩ | exact ⟨_, wTooMany, xxTooMany, xkTooMany, xsTooMany, xtTooMany⟩)))
  have F_plus : FnAt l.prog w ⟨K, [(PS, "sifted" ++ ".<locals>." ++ "<lambda>")]⟩ mg base 5 "plus" 3 c_plus := fn_atK (K := ⟨K, [(PS, "sifted" ++ ".<locals>." ++ "<lambda>")]⟩) X G aplus lplus cplus kplus sc_plus rfl (fun _ _ _ _ _ _ us hl => match us, hl with | [_, _, _], _ => rfl) m_plus w_plus (fun A hr => by
    simp only [b_plus, q0, q1, q2, q3, q4, q5, q6, q7, q8, q9, q10, q11, q12, q13, q14, q15, q16, q17, q18, q19, q20, q21, q22, q23, q24, q25, q26, q27, q28, q29, q30, q31, q32, q33, q34, q35, q36, q37, q38, q39, q40, q41, q42, q43, q44, q45, q46, q47, q48, q49, q50, q51, q52, q53, q54, q55, q56, q57, q58, q59, q60, q61, q62, q63, q64, q65, q66, q67, q68, q69, q70, q71, q72, q73, q74, q75, qn0, qn1, r0, r1, r2, r3, r4, r5, r6, r7, r8, r9, r10, r11, r12, r13, r14, and_true, true_and, and_self, Nat.reduceAdd, Nat.zero_add]
    (try exact trivial)
    all_goals (repeat' (first | apply And.intro | assumption | exact ⟨_, aCS, clCS, nfcurrent⟩ | exact ⟨_, aCS, clCS, nfdone⟩ | exact ⟨_, aCS, clCS, nfearlier⟩ | exact ⟨_, aCS, clCS, nfsize⟩ | exact ⟨_, aCS, clCS, nfundone⟩ | exact ⟨_, wInvalidDimension, xxInvalidDimension, xkInvalidDimension, xsInvalidDimension, xtInvalidDimension⟩ | exact ⟨_, wInvalidNumber, xxInvalidNumber, xkInvalidNumber, xsInvalidNumber, xtInvalidNumber⟩ | exact ⟨_, wInvalidVector, xxInvalidVector, xkInvalidVector, xsInvalidVector, xtInvalidVector⟩ | exact ⟨_, wTooMany, xxTooMany, xkTooMany, xsTooMany, xtTooMany⟩)))
  have F_sifted : FnAt l.prog w ⟨K, [(PS, "sifted" ++ ".<locals>." ++ "<lambda>")]⟩ mg base 6 "sifted" 2 c_sifted := fn_atK (K := ⟨K, [(PS, "sifted" ++ ".<locals>." ++ "<lambda>")]⟩) X G asifted lsifted csifted ksifted sc_sifted rfl (fun _ _ _ _ _ _ us hl => match us, hl with | [_, _], _ => rfl) m_sifted w_sifted (fun A hr => by
    simp only [b_sifted, q0, q1, q2, q3, q4, q5, q6, q7, q8, q9, q10, q11, q12, q13, q14, q15, q16, q17, q18, q19, q20, q21, q22, q23, q24, q25, q26, q27, q28, q29, q30, q31, q32, q33, q34, q35, q36, q37, q38, q39, q40, q41, q42, q43, q44, q45, q46, q47, q48, q49, q50, q51, q52, q53, q54, q55, q56, q57, q58, q59, q60, q61, q62, q63, q64, q65, q66, q67, q68, q69, q70, q71, q72, q73, q74, q75, qn0, qn1, r0, r1, r2, r3, r4, r5, r6, r7, r8, r9, r10, r11, r12, r13, r14, and_true, true_and, and_self, Nat.reduceAdd, Nat.zero_add]
    (try exact trivial)
    all_goals (repeat' (first | apply And.intro | assumption | exact ⟨5, F_plus.mono (by decide), hr⟩ | exact ⟨_, aCS, clCS, nfcurrent⟩ | exact ⟨_, aCS, clCS, nfdone⟩ | exact ⟨_, aCS, clCS, nfearlier⟩ | exact ⟨_, aCS, clCS, nfsize⟩ | exact ⟨_, aCS, clCS, nfundone⟩ | exact ⟨_, wInvalidDimension, xxInvalidDimension, xkInvalidDimension, xsInvalidDimension, xtInvalidDimension⟩ | exact ⟨_, wInvalidNumber, xxInvalidNumber, xkInvalidNumber, xsInvalidNumber, xtInvalidNumber⟩ | exact ⟨_, wInvalidVector, xxInvalidVector, xkInvalidVector, xsInvalidVector, xtInvalidVector⟩ | exact ⟨_, wTooMany, xxTooMany, xkTooMany, xsTooMany, xtTooMany⟩ | exact ⟨cS, PS, rfl, TB (cS, PS) (by simp), rfl⟩)))
  have F_echelon : FnAt l.prog w ⟨K, [(PS, "sifted" ++ ".<locals>." ++ "<lambda>")]⟩ mg base 7 "echelon" 2 c_echelon := fn_atK (K := ⟨K, [(PS, "sifted" ++ ".<locals>." ++ "<lambda>")]⟩) X G aechelon lechelon cechelon kechelon sc_echelon rfl (fun _ _ _ _ _ _ us hl => match us, hl with | [_, _], _ => rfl) m_echelon w_echelon (fun A hr => by
    simp only [b_echelon, q0, q1, q2, q3, q4, q5, q6, q7, q8, q9, q10, q11, q12, q13, q14, q15, q16, q17, q18, q19, q20, q21, q22, q23, q24, q25, q26, q27, q28, q29, q30, q31, q32, q33, q34, q35, q36, q37, q38, q39, q40, q41, q42, q43, q44, q45, q46, q47, q48, q49, q50, q51, q52, q53, q54, q55, q56, q57, q58, q59, q60, q61, q62, q63, q64, q65, q66, q67, q68, q69, q70, q71, q72, q73, q74, q75, qn0, qn1, r0, r1, r2, r3, r4, r5, r6, r7, r8, r9, r10, r11, r12, r13, r14, and_true, true_and, and_self, Nat.reduceAdd, Nat.zero_add]
    (try exact trivial)
    all_goals (repeat' (first | apply And.intro | assumption | exact ⟨6, F_sifted.mono (by decide), hr⟩ | exact ⟨_, aCS, clCS, nfcurrent⟩ | exact ⟨_, aCS, clCS, nfdone⟩ | exact ⟨_, aCS, clCS, nfearlier⟩ | exact ⟨_, aCS, clCS, nfsize⟩ | exact ⟨_, aCS, clCS, nfundone⟩ | exact ⟨_, wInvalidDimension, xxInvalidDimension, xkInvalidDimension, xsInvalidDimension, xtInvalidDimension⟩ | exact ⟨_, wInvalidNumber, xxInvalidNumber, xkInvalidNumber, xsInvalidNumber, xtInvalidNumber⟩ | exact ⟨_, wInvalidVector, xxInvalidVector, xkInvalidVector, xsInvalidVector, xtInvalidVector⟩ | exact ⟨_, wTooMany, xxTooMany, xkTooMany, xsTooMany, xtTooMany⟩)))
  have F_is_generated : FnAt l.prog w ⟨K, [(PS, "sifted" ++ ".<locals>." ++ "<lambda>")]⟩ mg base 8 "is_generated" 2 c_is_generated := fn_atK (K := ⟨K, [(PS, "sifted" ++ ".<locals>." ++ "<lambda>")]⟩) X G ais_generated lis_generated cis_generated kis_generated sc_is_generated rfl (fun _ _ _ _ _ _ us hl => match us, hl with | [_, _], _ => rfl) m_is_generated w_is_generated (fun A hr => by
    simp only [b_is_generated, q0, q1, q2, q3, q4, q5, q6, q7, q8, q9, q10, q11, q12, q13, q14, q15, q16, q17, q18, q19, q20, q21, q22, q23, q24, q25, q26, q27, q28, q29, q30, q31, q32, q33, q34, q35, q36, q37, q38, q39, q40, q41, q42, q43, q44, q45, q46, q47, q48, q49, q50, q51, q52, q53, q54, q55, q56, q57, q58, q59, q60, q61, q62, q63, q64, q65, q66, q67, q68, q69, q70, q71, q72, q73, q74, q75, qn0, qn1, r0, r1, r2, r3, r4, r5, r6, r7, r8, r9, r10, r11, r12, r13, r14, and_true, true_and, and_self, Nat.reduceAdd, Nat.zero_add]
    (try exact trivial)
    all_goals (repeat' (first | apply And.intro | assumption | exact ⟨7, F_plus.mono (by decide), hr⟩ | exact ⟨_, aCS, clCS, nfcurrent⟩ | exact ⟨_, aCS, clCS, nfdone⟩ | exact ⟨_, aCS, clCS, nfearlier⟩ | exact ⟨_, aCS, clCS, nfsize⟩ | exact ⟨_, aCS, clCS, nfundone⟩ | exact ⟨_, wInvalidDimension, xxInvalidDimension, xkInvalidDimension, xsInvalidDimension, xtInvalidDimension⟩ | exact ⟨_, wInvalidNumber, xxInvalidNumber, xkInvalidNumber, xsInvalidNumber, xtInvalidNumber⟩ | exact ⟨_, wInvalidVector, xxInvalidVector, xkInvalidVector, xsInvalidVector, xtInvalidVector⟩ | exact ⟨_, wTooMany, xxTooMany, xkTooMany, xsTooMany, xtTooMany⟩)))
  have F__law_town : FnAt l.prog w ⟨K, [(PS, "sifted" ++ ".<locals>." ++ "<lambda>")]⟩ mg base 9 "_law_town" 1 c__law_town := fn_atK (K := ⟨K, [(PS, "sifted" ++ ".<locals>." ++ "<lambda>")]⟩) X G a_law_town l_law_town c_law_town k_law_town sc__law_town rfl (fun _ _ _ _ _ _ us hl => match us, hl with | [_], _ => rfl) m__law_town w__law_town (fun A hr => by
    simp only [b__law_town, q0, q1, q2, q3, q4, q5, q6, q7, q8, q9, q10, q11, q12, q13, q14, q15, q16, q17, q18, q19, q20, q21, q22, q23, q24, q25, q26, q27, q28, q29, q30, q31, q32, q33, q34, q35, q36, q37, q38, q39, q40, q41, q42, q43, q44, q45, q46, q47, q48, q49, q50, q51, q52, q53, q54, q55, q56, q57, q58, q59, q60, q61, q62, q63, q64, q65, q66, q67, q68, q69, q70, q71, q72, q73, q74, q75, qn0, qn1, r0, r1, r2, r3, r4, r5, r6, r7, r8, r9, r10, r11, r12, r13, r14, and_true, true_and, and_self, Nat.reduceAdd, Nat.zero_add]
    (try exact trivial)
    all_goals (repeat' (first | apply And.intro | assumption | exact ⟨_, aCS, clCS, nfcurrent⟩ | exact ⟨_, aCS, clCS, nfdone⟩ | exact ⟨_, aCS, clCS, nfearlier⟩ | exact ⟨_, aCS, clCS, nfsize⟩ | exact ⟨_, aCS, clCS, nfundone⟩ | exact ⟨_, wInvalidDimension, xxInvalidDimension, xkInvalidDimension, xsInvalidDimension, xtInvalidDimension⟩ | exact ⟨_, wInvalidNumber, xxInvalidNumber, xkInvalidNumber, xsInvalidNumber, xtInvalidNumber⟩ | exact ⟨_, wInvalidVector, xxInvalidVector, xkInvalidVector, xsInvalidVector, xtInvalidVector⟩ | exact ⟨_, wTooMany, xxTooMany, xkTooMany, xsTooMany, xtTooMany⟩)))
  have F__law_draw : FnAt l.prog w ⟨K, [(PS, "sifted" ++ ".<locals>." ++ "<lambda>")]⟩ mg base 10 "_law_draw" 3 c__law_draw := fn_atK (K := ⟨K, [(PS, "sifted" ++ ".<locals>." ++ "<lambda>")]⟩) X G a_law_draw l_law_draw c_law_draw k_law_draw sc__law_draw rfl (fun _ _ _ _ _ _ us hl => match us, hl with | [_, _, _], _ => rfl) m__law_draw w__law_draw (fun A hr => by
    simp only [b__law_draw, q0, q1, q2, q3, q4, q5, q6, q7, q8, q9, q10, q11, q12, q13, q14, q15, q16, q17, q18, q19, q20, q21, q22, q23, q24, q25, q26, q27, q28, q29, q30, q31, q32, q33, q34, q35, q36, q37, q38, q39, q40, q41, q42, q43, q44, q45, q46, q47, q48, q49, q50, q51, q52, q53, q54, q55, q56, q57, q58, q59, q60, q61, q62, q63, q64, q65, q66, q67, q68, q69, q70, q71, q72, q73, q74, q75, qn0, qn1, r0, r1, r2, r3, r4, r5, r6, r7, r8, r9, r10, r11, r12, r13, r14, and_true, true_and, and_self, Nat.reduceAdd, Nat.zero_add]
    (try exact trivial)
    all_goals (repeat' (first | apply And.intro | assumption | exact ⟨_, aCS, clCS, nfcurrent⟩ | exact ⟨_, aCS, clCS, nfdone⟩ | exact ⟨_, aCS, clCS, nfearlier⟩ | exact ⟨_, aCS, clCS, nfsize⟩ | exact ⟨_, aCS, clCS, nfundone⟩ | exact ⟨_, wInvalidDimension, xxInvalidDimension, xkInvalidDimension, xsInvalidDimension, xtInvalidDimension⟩ | exact ⟨_, wInvalidNumber, xxInvalidNumber, xkInvalidNumber, xsInvalidNumber, xtInvalidNumber⟩ | exact ⟨_, wInvalidVector, xxInvalidVector, xkInvalidVector, xsInvalidVector, xtInvalidVector⟩ | exact ⟨_, wTooMany, xxTooMany, xkTooMany, xsTooMany, xtTooMany⟩)))
  have F__law_pick : FnAt l.prog w ⟨K, [(PS, "sifted" ++ ".<locals>." ++ "<lambda>")]⟩ mg base 11 "_law_pick" 3 c__law_pick := fn_atK (K := ⟨K, [(PS, "sifted" ++ ".<locals>." ++ "<lambda>")]⟩) X G a_law_pick l_law_pick c_law_pick k_law_pick sc__law_pick rfl (fun _ _ _ _ _ _ us hl => match us, hl with | [_, _, _], _ => rfl) m__law_pick w__law_pick (fun A hr => by
    simp only [b__law_pick, q0, q1, q2, q3, q4, q5, q6, q7, q8, q9, q10, q11, q12, q13, q14, q15, q16, q17, q18, q19, q20, q21, q22, q23, q24, q25, q26, q27, q28, q29, q30, q31, q32, q33, q34, q35, q36, q37, q38, q39, q40, q41, q42, q43, q44, q45, q46, q47, q48, q49, q50, q51, q52, q53, q54, q55, q56, q57, q58, q59, q60, q61, q62, q63, q64, q65, q66, q67, q68, q69, q70, q71, q72, q73, q74, q75, qn0, qn1, r0, r1, r2, r3, r4, r5, r6, r7, r8, r9, r10, r11, r12, r13, r14, and_true, true_and, and_self, Nat.reduceAdd, Nat.zero_add]
    (try exact trivial)
    all_goals (repeat' (first | apply And.intro | assumption | exact ⟨10, F__law_draw.mono (by decide), hr⟩ | exact ⟨_, aCS, clCS, nfcurrent⟩ | exact ⟨_, aCS, clCS, nfdone⟩ | exact ⟨_, aCS, clCS, nfearlier⟩ | exact ⟨_, aCS, clCS, nfsize⟩ | exact ⟨_, aCS, clCS, nfundone⟩ | exact ⟨_, wInvalidDimension, xxInvalidDimension, xkInvalidDimension, xsInvalidDimension, xtInvalidDimension⟩ | exact ⟨_, wInvalidNumber, xxInvalidNumber, xkInvalidNumber, xsInvalidNumber, xtInvalidNumber⟩ | exact ⟨_, wInvalidVector, xxInvalidVector, xkInvalidVector, xsInvalidVector, xtInvalidVector⟩ | exact ⟨_, wTooMany, xxTooMany, xkTooMany, xsTooMany, xtTooMany⟩)))
  have N_Session_rows : FnOk l.prog w K mg base (L2.CX l.prog w) 12 fSession_rows (PySem.W.fnOf "rows" "Session.rows" (defArgs (inClass (topS 27) 8)) (defBody (inClass (topS 27) 8)) (defScope (inClass (topS 27) 8)) .none kVSession_rows dcSession_rows pmSession_rows anSession_rows cdSession_rows ctSession_rows) ["self"] (spOf ⟨K, [(PS, "sifted" ++ ".<locals>." ++ "<lambda>")]⟩ mg 1 c_Session_rows) := met_ok (K := ⟨K, [(PS, "sifted" ++ ".<locals>." ++ "<lambda>")]⟩) lSession_rows cSession_rows sc_Session_rows rfl m_Session_rows w_Session_rows (fun A hr => by
    simp only [b_Session_rows, q0, q1, q2, q3, q4, q5, q6, q7, q8, q9, q10, q11, q12, q13, q14, q15, q16, q17, q18, q19, q20, q21, q22, q23, q24, q25, q26, q27, q28, q29, q30, q31, q32, q33, q34, q35, q36, q37, q38, q39, q40, q41, q42, q43, q44, q45, q46, q47, q48, q49, q50, q51, q52, q53, q54, q55, q56, q57, q58, q59, q60, q61, q62, q63, q64, q65, q66, q67, q68, q69, q70, q71, q72, q73, q74, q75, qn0, qn1, r0, r1, r2, r3, r4, r5, r6, r7, r8, r9, r10, r11, r12, r13, r14, and_true, true_and, and_self, Nat.reduceAdd, Nat.zero_add]
    (try exact trivial)
    all_goals (repeat' (first | apply And.intro | assumption | exact ⟨11, F_echelon.mono (by decide), hr⟩ | exact ⟨_, aCS, clCS, nfcurrent⟩ | exact ⟨_, aCS, clCS, nfdone⟩ | exact ⟨_, aCS, clCS, nfearlier⟩ | exact ⟨_, aCS, clCS, nfsize⟩ | exact ⟨_, aCS, clCS, nfundone⟩ | exact ⟨_, wInvalidDimension, xxInvalidDimension, xkInvalidDimension, xsInvalidDimension, xtInvalidDimension⟩ | exact ⟨_, wInvalidNumber, xxInvalidNumber, xkInvalidNumber, xsInvalidNumber, xtInvalidNumber⟩ | exact ⟨_, wInvalidVector, xxInvalidVector, xkInvalidVector, xsInvalidVector, xtInvalidVector⟩ | exact ⟨_, wTooMany, xxTooMany, xkTooMany, xsTooMany, xtTooMany⟩)))
  have M_Session_rows : MethAt l.prog w ⟨K, [(PS, "sifted" ++ ".<locals>." ++ "<lambda>")]⟩ mg base 12 "Session" "rows" 1 c_Session_rows := ⟨CS, fSession_rows, _, ["self"], aCS, clCS, ⟨aSession_rows, iSession_rows, kSession_rows⟩, N_Session_rows, (fun_mk (st := inClass (topS 27) 8) lSession_rows cSession_rows kSession_rows).binds (ps := ["self"]) (fun _ _ _ _ _ _ us hl => match us, hl with | [_], _ => rfl)⟩
  have N_Session_perform : FnOk l.prog w K mg base (L2.CX l.prog w) 13 fSession_perform (PySem.W.fnOf "perform" "Session.perform" (defArgs (inClass (topS 27) 4)) (defBody (inClass (topS 27) 4)) (defScope (inClass (topS 27) 4)) .none kVSession_perform dcSession_perform pmSession_perform anSession_perform cdSession_perform ctSession_perform) ["self", "vectors", "operation"] (spOf ⟨K, [(PS, "sifted" ++ ".<locals>." ++ "<lambda>")]⟩ mg 3 c_Session_perform) := met_ok (K := ⟨K, [(PS, "sifted" ++ ".<locals>." ++ "<lambda>")]⟩) lSession_perform cSession_perform sc_Session_perform rfl m_Session_perform w_Session_perform (fun A hr => by
    simp only [b_Session_perform, q0, q1, q2, q3, q4, q5, q6, q7, q8, q9, q10, q11, q12, q13, q14, q15, q16, q17, q18, q19, q20, q21, q22, q23, q24, q25, q26, q27, q28, q29, q30, q31, q32, q33, q34, q35, q36, q37, q38, q39, q40, q41, q42, q43, q44, q45, q46, q47, q48, q49, q50, q51, q52, q53, q54, q55, q56, q57, q58, q59, q60, q61, q62, q63, q64, q65, q66, q67, q68, q69, q70, q71, q72, q73, q74, q75, qn0, qn1, r0, r1, r2, r3, r4, r5, r6, r7, r8, r9, r10, r11, r12, r13, r14, and_true, true_and, and_self, Nat.reduceAdd, Nat.zero_add]
    (try exact trivial)
    all_goals (repeat' (first | apply And.intro | assumption | exact ⟨_, aCS, clCS, nfcurrent⟩ | exact ⟨_, aCS, clCS, nfdone⟩ | exact ⟨_, aCS, clCS, nfearlier⟩ | exact ⟨_, aCS, clCS, nfsize⟩ | exact ⟨_, aCS, clCS, nfundone⟩ | exact ⟨_, wInvalidDimension, xxInvalidDimension, xkInvalidDimension, xsInvalidDimension, xtInvalidDimension⟩ | exact ⟨_, wInvalidNumber, xxInvalidNumber, xkInvalidNumber, xsInvalidNumber, xtInvalidNumber⟩ | exact ⟨_, wInvalidVector, xxInvalidVector, xkInvalidVector, xsInvalidVector, xtInvalidVector⟩ | exact ⟨_, wTooMany, xxTooMany, xkTooMany, xsTooMany, xtTooMany⟩)))
  have M_Session_perform : MethAt l.prog w ⟨K, [(PS, "sifted" ++ ".<locals>." ++ "<lambda>")]⟩ mg base 13 "Session" "perform" 3 c_Session_perform := ⟨CS, fSession_perform, _, ["self", "vectors", "operation"], aCS, clCS, ⟨aSession_perform, iSession_perform, kSession_perform⟩, N_Session_perform, (fun_mk (st := inClass (topS 27) 4) lSession_perform cSession_perform kSession_perform).binds (ps := ["self", "vectors", "operation"]) (fun _ _ _ _ _ _ us hl => match us, hl with | [_, _, _], _ => rfl)⟩
  have N_Session_add : FnOk l.prog w K mg base (L2.CX l.prog w) 14 fSession_add (PySem.W.fnOf "add" "Session.add" (defArgs (inClass (topS 27) 5)) (defBody (inClass (topS 27) 5)) (defScope (inClass (topS 27) 5)) .none kVSession_add dcSession_add pmSession_add anSession_add cdSession_add ctSession_add) ["self", "vector"] (spOf ⟨K, [(PS, "sifted" ++ ".<locals>." ++ "<lambda>")]⟩ mg 2 c_Session_add) := met_ok (K := ⟨K, [(PS, "sifted" ++ ".<locals>." ++ "<lambda>")]⟩) lSession_add cSession_add sc_Session_add rfl m_Session_add w_Session_add (fun A hr => by
    simp only [b_Session_add, q0, q1, q2, q3, q4, q5, q6, q7, q8, q9, q10, q11, q12, q13, q14, q15, q16, q17, q18, q19, q20, q21, q22, q23, q24, q25, q26, q27, q28, q29, q30, q31, q32, q33, q34, q35, q36, q37, q38, q39, q40, q41, q42, q43, q44, q45, q46, q47, q48, q49, q50, q51, q52, q53, q54, q55, q56, q57, q58, q59, q60, q61, q62, q63, q64, q65, q66, q67, q68, q69, q70, q71, q72, q73, q74, q75, qn0, qn1, r0, r1, r2, r3, r4, r5, r6, r7, r8, r9, r10, r11, r12, r13, r14, and_true, true_and, and_self, Nat.reduceAdd, Nat.zero_add]
    (try exact trivial)
    all_goals (repeat' (first | apply And.intro | assumption | exact ⟨13, F_check_vector.mono (by decide), hr⟩ | exact ⟨13, F_is_generated.mono (by decide), hr⟩ | exact ⟨13, M_Session_rows.mono (by decide), hr⟩ | exact ⟨13, M_Session_perform.mono (by decide), hr⟩ | exact ⟨_, aCS, clCS, nfcurrent⟩ | exact ⟨_, aCS, clCS, nfdone⟩ | exact ⟨_, aCS, clCS, nfearlier⟩ | exact ⟨_, aCS, clCS, nfsize⟩ | exact ⟨_, aCS, clCS, nfundone⟩ | exact ⟨_, wInvalidDimension, xxInvalidDimension, xkInvalidDimension, xsInvalidDimension, xtInvalidDimension⟩ | exact ⟨_, wInvalidNumber, xxInvalidNumber, xkInvalidNumber, xsInvalidNumber, xtInvalidNumber⟩ | exact ⟨_, wInvalidVector, xxInvalidVector, xkInvalidVector, xsInvalidVector, xtInvalidVector⟩ | exact ⟨_, wTooMany, xxTooMany, xkTooMany, xsTooMany, xtTooMany⟩)))
  have M_Session_add : MethAt l.prog w ⟨K, [(PS, "sifted" ++ ".<locals>." ++ "<lambda>")]⟩ mg base 14 "Session" "add" 2 c_Session_add := ⟨CS, fSession_add, _, ["self", "vector"], aCS, clCS, ⟨aSession_add, iSession_add, kSession_add⟩, N_Session_add, (fun_mk (st := inClass (topS 27) 5) lSession_add cSession_add kSession_add).binds (ps := ["self", "vector"]) (fun _ _ _ _ _ _ us hl => match us, hl with | [_, _], _ => rfl)⟩
  have N_Session_remove : FnOk l.prog w K mg base (L2.CX l.prog w) 15 fSession_remove (PySem.W.fnOf "remove" "Session.remove" (defArgs (inClass (topS 27) 6)) (defBody (inClass (topS 27) 6)) (defScope (inClass (topS 27) 6)) .none kVSession_remove dcSession_remove pmSession_remove anSession_remove cdSession_remove ctSession_remove) ["self", "number"] (spOf ⟨K, [(PS, "sifted" ++ ".<locals>." ++ "<lambda>")]⟩ mg 2 c_Session_remove) := met_ok (K := ⟨K, [(PS, "sifted" ++ ".<locals>." ++ "<lambda>")]⟩) lSession_remove cSession_remove sc_Session_remove rfl m_Session_remove w_Session_remove (fun A hr => by
    simp only [b_Session_remove, q0, q1, q2, q3, q4, q5, q6, q7, q8, q9, q10, q11, q12, q13, q14, q15, q16, q17, q18, q19, q20, q21, q22, q23, q24, q25, q26, q27, q28, q29, q30, q31, q32, q33, q34, q35, q36, q37, q38, q39, q40, q41, q42, q43, q44, q45, q46, q47, q48, q49, q50, q51, q52, q53, q54, q55, q56, q57, q58, q59, q60, q61, q62, q63, q64, q65, q66, q67, q68, q69, q70, q71, q72, q73, q74, q75, qn0, qn1, r0, r1, r2, r3, r4, r5, r6, r7, r8, r9, r10, r11, r12, r13, r14, and_true, true_and, and_self, Nat.reduceAdd, Nat.zero_add]
    (try exact trivial)
    all_goals (repeat' (first | apply And.intro | assumption | exact ⟨14, F_is_between.mono (by decide), hr⟩ | exact ⟨14, M_Session_perform.mono (by decide), hr⟩ | exact ⟨_, aCS, clCS, nfcurrent⟩ | exact ⟨_, aCS, clCS, nfdone⟩ | exact ⟨_, aCS, clCS, nfearlier⟩ | exact ⟨_, aCS, clCS, nfsize⟩ | exact ⟨_, aCS, clCS, nfundone⟩ | exact ⟨_, wInvalidDimension, xxInvalidDimension, xkInvalidDimension, xsInvalidDimension, xtInvalidDimension⟩ | exact ⟨_, wInvalidNumber, xxInvalidNumber, xkInvalidNumber, xsInvalidNumber, xtInvalidNumber⟩ | exact ⟨_, wInvalidVector, xxInvalidVector, xkInvalidVector, xsInvalidVector, xtInvalidVector⟩ | exact ⟨_, wTooMany, xxTooMany, xkTooMany, xsTooMany, xtTooMany⟩)))
  have M_Session_remove : MethAt l.prog w ⟨K, [(PS, "sifted" ++ ".<locals>." ++ "<lambda>")]⟩ mg base 15 "Session" "remove" 2 c_Session_remove := ⟨CS, fSession_remove, _, ["self", "number"], aCS, clCS, ⟨aSession_remove, iSession_remove, kSession_remove⟩, N_Session_remove, (fun_mk (st := inClass (topS 27) 6) lSession_remove cSession_remove kSession_remove).binds (ps := ["self", "number"]) (fun _ _ _ _ _ _ us hl => match us, hl with | [_, _], _ => rfl)⟩
  have N_Session_contains : FnOk l.prog w K mg base (L2.CX l.prog w) 16 fSession_contains (PySem.W.fnOf "contains" "Session.contains" (defArgs (inClass (topS 27) 9)) (defBody (inClass (topS 27) 9)) (defScope (inClass (topS 27) 9)) .none kVSession_contains dcSession_contains pmSession_contains anSession_contains cdSession_contains ctSession_contains) ["self", "vector"] (spOf ⟨K, [(PS, "sifted" ++ ".<locals>." ++ "<lambda>")]⟩ mg 2 c_Session_contains) := met_ok (K := ⟨K, [(PS, "sifted" ++ ".<locals>." ++ "<lambda>")]⟩) lSession_contains cSession_contains sc_Session_contains rfl m_Session_contains w_Session_contains (fun A hr => by
    simp only [b_Session_contains, q0, q1, q2, q3, q4, q5, q6, q7, q8, q9, q10, q11, q12, q13, q14, q15, q16, q17, q18, q19, q20, q21, q22, q23, q24, q25, q26, q27, q28, q29, q30, q31, q32, q33, q34, q35, q36, q37, q38, q39, q40, q41, q42, q43, q44, q45, q46, q47, q48, q49, q50, q51, q52, q53, q54, q55, q56, q57, q58, q59, q60, q61, q62, q63, q64, q65, q66, q67, q68, q69, q70, q71, q72, q73, q74, q75, qn0, qn1, r0, r1, r2, r3, r4, r5, r6, r7, r8, r9, r10, r11, r12, r13, r14, and_true, true_and, and_self, Nat.reduceAdd, Nat.zero_add]
    (try exact trivial)
    all_goals (repeat' (first | apply And.intro | assumption | exact ⟨15, F_check_vector.mono (by decide), hr⟩ | exact ⟨15, F_is_generated.mono (by decide), hr⟩ | exact ⟨15, M_Session_rows.mono (by decide), hr⟩ | exact ⟨_, aCS, clCS, nfcurrent⟩ | exact ⟨_, aCS, clCS, nfdone⟩ | exact ⟨_, aCS, clCS, nfearlier⟩ | exact ⟨_, aCS, clCS, nfsize⟩ | exact ⟨_, aCS, clCS, nfundone⟩ | exact ⟨_, wInvalidDimension, xxInvalidDimension, xkInvalidDimension, xsInvalidDimension, xtInvalidDimension⟩ | exact ⟨_, wInvalidNumber, xxInvalidNumber, xkInvalidNumber, xsInvalidNumber, xtInvalidNumber⟩ | exact ⟨_, wInvalidVector, xxInvalidVector, xkInvalidVector, xsInvalidVector, xtInvalidVector⟩ | exact ⟨_, wTooMany, xxTooMany, xkTooMany, xsTooMany, xtTooMany⟩)))
  have M_Session_contains : MethAt l.prog w ⟨K, [(PS, "sifted" ++ ".<locals>." ++ "<lambda>")]⟩ mg base 16 "Session" "contains" 2 c_Session_contains := ⟨CS, fSession_contains, _, ["self", "vector"], aCS, clCS, ⟨aSession_contains, iSession_contains, kSession_contains⟩, N_Session_contains, (fun_mk (st := inClass (topS 27) 9) lSession_contains cSession_contains kSession_contains).binds (ps := ["self", "vector"]) (fun _ _ _ _ _ _ us hl => match us, hl with | [_, _], _ => rfl)⟩
  have N_Session___init__ : FnOk l.prog w K mg base (L2.CX l.prog w) 17 fSession___init__ (PySem.W.fnOf "__init__" "Session.__init__" (defArgs (inClass (topS 27) 0)) (defBody (inClass (topS 27) 0)) (defScope (inClass (topS 27) 0)) .none kVSession___init__ dcSession___init__ pmSession___init__ anSession___init__ cdSession___init__ ctSession___init__) ["self", "n"] (spOf ⟨K, [(PS, "sifted" ++ ".<locals>." ++ "<lambda>")]⟩ mg 2 c_Session___init__) := met_ok (K := ⟨K, [(PS, "sifted" ++ ".<locals>." ++ "<lambda>")]⟩) lSession___init__ cSession___init__ sc_Session___init__ rfl m_Session___init__ w_Session___init__ (fun A hr => by
    simp only [b_Session___init__, q0, q1, q2, q3, q4, q5, q6, q7, q8, q9, q10, q11, q12, q13, q14, q15, q16, q17, q18, q19, q20, q21, q22, q23, q24, q25, q26, q27, q28, q29, q30, q31, q32, q33, q34, q35, q36, q37, q38, q39, q40, q41, q42, q43, q44, q45, q46, q47, q48, q49, q50, q51, q52, q53, q54, q55, q56, q57, q58, q59, q60, q61, q62, q63, q64, q65, q66, q67, q68, q69, q70, q71, q72, q73, q74, q75, qn0, qn1, r0, r1, r2, r3, r4, r5, r6, r7, r8, r9, r10, r11, r12, r13, r14, and_true, true_and, and_self, Nat.reduceAdd, Nat.zero_add]
    (try exact trivial)
    all_goals (repeat' (first | apply And.intro | assumption | exact ⟨16, F_is_between.mono (by decide), hr⟩ | exact ⟨_, aCS, clCS, nfcurrent⟩ | exact ⟨_, aCS, clCS, nfdone⟩ | exact ⟨_, aCS, clCS, nfearlier⟩ | exact ⟨_, aCS, clCS, nfsize⟩ | exact ⟨_, aCS, clCS, nfundone⟩ | exact ⟨_, wInvalidDimension, xxInvalidDimension, xkInvalidDimension, xsInvalidDimension, xtInvalidDimension⟩ | exact ⟨_, wInvalidNumber, xxInvalidNumber, xkInvalidNumber, xsInvalidNumber, xtInvalidNumber⟩ | exact ⟨_, wInvalidVector, xxInvalidVector, xkInvalidVector, xsInvalidVector, xtInvalidVector⟩ | exact ⟨_, wTooMany, xxTooMany, xkTooMany, xsTooMany, xtTooMany⟩)))
  have M_Session___init__ : ∀ k, 17 ≤ k → MakeAt l.prog w ⟨K, [(PS, "sifted" ++ ".<locals>." ++ "<lambda>")]⟩ mg base k "Session" 2 c_Session___init__ := fun k hk => ⟨CS, fSession___init__, _, ["self", "n"], aCS, PySem.W.mg_of X G aCS, ⟨mkCS, aSession___init__, iSession___init__, kcCS⟩, N_Session___init__.mono hk, (fun_mk (st := inClass (topS 27) 0) lSession___init__ cSession___init__ kSession___init__).binds (ps := ["self", "n"]) (fun _ _ _ _ _ _ us hl => match us, hl with | [_, _], _ => rfl)⟩
  have F__law_call : FnAt l.prog w ⟨K, [(PS, "sifted" ++ ".<locals>." ++ "<lambda>")]⟩ mg base 19 "_law_call" 2 c__law_call := fn_atK (K := ⟨K, [(PS, "sifted" ++ ".<locals>." ++ "<lambda>")]⟩) X G a_law_call l_law_call c_law_call k_law_call sc__law_call rfl (fun _ _ _ _ _ _ us hl => match us, hl with | [_, _], _ => rfl) m__law_call w__law_call (fun A hr => by
    simp only [b__law_call, q0, q1, q2, q3, q4, q5, q6, q7, q8, q9, q10, q11, q12, q13, q14, q15, q16, q17, q18, q19, q20, q21, q22, q23, q24, q25, q26, q27, q28, q29, q30, q31, q32, q33, q34, q35, q36, q37, q38, q39, q40, q41, q42, q43, q44, q45, q46, q47, q48, q49, q50, q51, q52, q53, q54, q55, q56, q57, q58, q59, q60, q61, q62, q63, q64, q65, q66, q67, q68, q69, q70, q71, q72, q73, q74, q75, qn0, qn1, r0, r1, r2, r3, r4, r5, r6, r7, r8, r9, r10, r11, r12, r13, r14, and_true, true_and, and_self, Nat.reduceAdd, Nat.zero_add]
    (try exact trivial)
    all_goals (repeat' (first | apply And.intro | assumption | exact ⟨18, M_Session_add.mono (by decide), hr⟩ | exact ⟨18, M_Session_remove.mono (by decide), hr⟩ | exact ⟨18, M_Session_contains.mono (by decide), hr⟩ | exact ⟨17, M_Session___init__ 17 (by decide), hr⟩ | exact ⟨_, aCS, clCS, nfcurrent⟩ | exact ⟨_, aCS, clCS, nfdone⟩ | exact ⟨_, aCS, clCS, nfearlier⟩ | exact ⟨_, aCS, clCS, nfsize⟩ | exact ⟨_, aCS, clCS, nfundone⟩ | exact ⟨_, wInvalidDimension, xxInvalidDimension, xkInvalidDimension, xsInvalidDimension, xtInvalidDimension⟩ | exact ⟨_, wInvalidNumber, xxInvalidNumber, xkInvalidNumber, xsInvalidNumber, xtInvalidNumber⟩ | exact ⟨_, wInvalidVector, xxInvalidVector, xkInvalidVector, xsInvalidVector, xtInvalidVector⟩ | exact ⟨_, wTooMany, xxTooMany, xkTooMany, xsTooMany, xtTooMany⟩)))
  have F__law_name : FnAt l.prog w ⟨K, [(PS, "sifted" ++ ".<locals>." ++ "<lambda>")]⟩ mg base 20 "_law_name" 1 c__law_name := fn_atK (K := ⟨K, [(PS, "sifted" ++ ".<locals>." ++ "<lambda>")]⟩) X G a_law_name l_law_name c_law_name k_law_name sc__law_name rfl (fun _ _ _ _ _ _ us hl => match us, hl with | [_], _ => rfl) m__law_name w__law_name (fun A hr => by
    simp only [b__law_name, q0, q1, q2, q3, q4, q5, q6, q7, q8, q9, q10, q11, q12, q13, q14, q15, q16, q17, q18, q19, q20, q21, q22, q23, q24, q25, q26, q27, q28, q29, q30, q31, q32, q33, q34, q35, q36, q37, q38, q39, q40, q41, q42, q43, q44, q45, q46, q47, q48, q49, q50, q51, q52, q53, q54, q55, q56, q57, q58, q59, q60, q61, q62, q63, q64, q65, q66, q67, q68, q69, q70, q71, q72, q73, q74, q75, qn0, qn1, r0, r1, r2, r3, r4, r5, r6, r7, r8, r9, r10, r11, r12, r13, r14, and_true, true_and, and_self, Nat.reduceAdd, Nat.zero_add]
    (try exact trivial)
    all_goals (repeat' (first | apply And.intro | assumption | exact ⟨_, aCS, clCS, nfcurrent⟩ | exact ⟨_, aCS, clCS, nfdone⟩ | exact ⟨_, aCS, clCS, nfearlier⟩ | exact ⟨_, aCS, clCS, nfsize⟩ | exact ⟨_, aCS, clCS, nfundone⟩ | exact ⟨_, wInvalidDimension, xxInvalidDimension, xkInvalidDimension, xsInvalidDimension, xtInvalidDimension⟩ | exact ⟨_, wInvalidNumber, xxInvalidNumber, xkInvalidNumber, xsInvalidNumber, xtInvalidNumber⟩ | exact ⟨_, wInvalidVector, xxInvalidVector, xkInvalidVector, xsInvalidVector, xtInvalidVector⟩ | exact ⟨_, wTooMany, xxTooMany, xkTooMany, xsTooMany, xtTooMany⟩)))
  have F__law_outcome : FnAt l.prog w ⟨K, [(PS, "sifted" ++ ".<locals>." ++ "<lambda>")]⟩ mg base 21 "_law_outcome" 2 c__law_outcome := fn_atK (K := ⟨K, [(PS, "sifted" ++ ".<locals>." ++ "<lambda>")]⟩) X G a_law_outcome l_law_outcome c_law_outcome k_law_outcome sc__law_outcome rfl (fun _ _ _ _ _ _ us hl => match us, hl with | [_, _], _ => rfl) m__law_outcome w__law_outcome (fun A hr => by
    simp only [b__law_outcome, q0, q1, q2, q3, q4, q5, q6, q7, q8, q9, q10, q11, q12, q13, q14, q15, q16, q17, q18, q19, q20, q21, q22, q23, q24, q25, q26, q27, q28, q29, q30, q31, q32, q33, q34, q35, q36, q37, q38, q39, q40, q41, q42, q43, q44, q45, q46, q47, q48, q49, q50, q51, q52, q53, q54, q55, q56, q57, q58, q59, q60, q61, q62, q63, q64, q65, q66, q67, q68, q69, q70, q71, q72, q73, q74, q75, qn0, qn1, r0, r1, r2, r3, r4, r5, r6, r7, r8, r9, r10, r11, r12, r13, r14, and_true, true_and, and_self, Nat.reduceAdd, Nat.zero_add]
    (try exact trivial)
    all_goals (repeat' (first | apply And.intro | assumption | exact ⟨20, F__law_call.mono (by decide), hr⟩ | exact ⟨20, F__law_name.mono (by decide), hr⟩ | exact ⟨_, aCS, clCS, nfcurrent⟩ | exact ⟨_, aCS, clCS, nfdone⟩ | exact ⟨_, aCS, clCS, nfearlier⟩ | exact ⟨_, aCS, clCS, nfsize⟩ | exact ⟨_, aCS, clCS, nfundone⟩ | exact ⟨_, wInvalidDimension, xxInvalidDimension, xkInvalidDimension, xsInvalidDimension, xtInvalidDimension⟩ | exact ⟨_, wInvalidNumber, xxInvalidNumber, xkInvalidNumber, xsInvalidNumber, xtInvalidNumber⟩ | exact ⟨_, wInvalidVector, xxInvalidVector, xkInvalidVector, xsInvalidVector, xtInvalidVector⟩ | exact ⟨_, wTooMany, xxTooMany, xkTooMany, xsTooMany, xtTooMany⟩)))
  have F__law_raises : FnAt l.prog w ⟨K, [(PS, "sifted" ++ ".<locals>." ++ "<lambda>")]⟩ mg base 22 "_law_raises" 1 c__law_raises := fn_atK (K := ⟨K, [(PS, "sifted" ++ ".<locals>." ++ "<lambda>")]⟩) X G a_law_raises l_law_raises c_law_raises k_law_raises sc__law_raises rfl (fun _ _ _ _ _ _ us hl => match us, hl with | [_], _ => rfl) m__law_raises w__law_raises (fun A hr => by
    simp only [b__law_raises, q0, q1, q2, q3, q4, q5, q6, q7, q8, q9, q10, q11, q12, q13, q14, q15, q16, q17, q18, q19, q20, q21, q22, q23, q24, q25, q26, q27, q28, q29, q30, q31, q32, q33, q34, q35, q36, q37, q38, q39, q40, q41, q42, q43, q44, q45, q46, q47, q48, q49, q50, q51, q52, q53, q54, q55, q56, q57, q58, q59, q60, q61, q62, q63, q64, q65, q66, q67, q68, q69, q70, q71, q72, q73, q74, q75, qn0, qn1, r0, r1, r2, r3, r4, r5, r6, r7, r8, r9, r10, r11, r12, r13, r14, and_true, true_and, and_self, Nat.reduceAdd, Nat.zero_add]
    (try exact trivial)
    all_goals (repeat' (first | apply And.intro | assumption | exact ⟨_, aCS, clCS, nfcurrent⟩ | exact ⟨_, aCS, clCS, nfdone⟩ | exact ⟨_, aCS, clCS, nfearlier⟩ | exact ⟨_, aCS, clCS, nfsize⟩ | exact ⟨_, aCS, clCS, nfundone⟩ | exact ⟨_, wInvalidDimension, xxInvalidDimension, xkInvalidDimension, xsInvalidDimension, xtInvalidDimension⟩ | exact ⟨_, wInvalidNumber, xxInvalidNumber, xkInvalidNumber, xsInvalidNumber, xtInvalidNumber⟩ | exact ⟨_, wInvalidVector, xxInvalidVector, xkInvalidVector, xsInvalidVector, xtInvalidVector⟩ | exact ⟨_, wTooMany, xxTooMany, xkTooMany, xsTooMany, xtTooMany⟩)))
  have N_Session_generators : FnOk l.prog w K mg base (L2.CX l.prog w) 23 fSession_generators (PySem.W.fnOf "generators" "Session.generators" (defArgs (inClass (topS 27) 7)) (defBody (inClass (topS 27) 7)) (defScope (inClass (topS 27) 7)) .none kVSession_generators dcSession_generators pmSession_generators anSession_generators cdSession_generators ctSession_generators) ["self"] (spOf ⟨K, [(PS, "sifted" ++ ".<locals>." ++ "<lambda>")]⟩ mg 1 c_Session_generators) := met_ok (K := ⟨K, [(PS, "sifted" ++ ".<locals>." ++ "<lambda>")]⟩) lSession_generators cSession_generators sc_Session_generators rfl m_Session_generators w_Session_generators (fun A hr => by
    simp only [b_Session_generators, q0, q1, q2, q3, q4, q5, q6, q7, q8, q9, q10, q11, q12, q13, q14, q15, q16, q17, q18, q19, q20, q21, q22, q23, q24, q25, q26, q27, q28, q29, q30, q31, q32, q33, q34, q35, q36, q37, q38, q39, q40, q41, q42, q43, q44, q45, q46, q47, q48, q49, q50, q51, q52, q53, q54, q55, q56, q57, q58, q59, q60, q61, q62, q63, q64, q65, q66, q67, q68, q69, q70, q71, q72, q73, q74, q75, qn0, qn1, r0, r1, r2, r3, r4, r5, r6, r7, r8, r9, r10, r11, r12, r13, r14, and_true, true_and, and_self, Nat.reduceAdd, Nat.zero_add]
    (try exact trivial)
    all_goals (repeat' (first | apply And.intro | assumption | exact ⟨_, aCS, clCS, nfcurrent⟩ | exact ⟨_, aCS, clCS, nfdone⟩ | exact ⟨_, aCS, clCS, nfearlier⟩ | exact ⟨_, aCS, clCS, nfsize⟩ | exact ⟨_, aCS, clCS, nfundone⟩ | exact ⟨_, wInvalidDimension, xxInvalidDimension, xkInvalidDimension, xsInvalidDimension, xtInvalidDimension⟩ | exact ⟨_, wInvalidNumber, xxInvalidNumber, xkInvalidNumber, xsInvalidNumber, xtInvalidNumber⟩ | exact ⟨_, wInvalidVector, xxInvalidVector, xkInvalidVector, xsInvalidVector, xtInvalidVector⟩ | exact ⟨_, wTooMany, xxTooMany, xkTooMany, xsTooMany, xtTooMany⟩)))
  have M_Session_generators : MethAt l.prog w ⟨K, [(PS, "sifted" ++ ".<locals>." ++ "<lambda>")]⟩ mg base 23 "Session" "generators" 1 c_Session_generators := ⟨CS, fSession_generators, _, ["self"], aCS, clCS, ⟨aSession_generators, iSession_generators, kSession_generators⟩, N_Session_generators, (fun_mk (st := inClass (topS 27) 7) lSession_generators cSession_generators kSession_generators).binds (ps := ["self"]) (fun _ _ _ _ _ _ us hl => match us, hl with | [_], _ => rfl)⟩
  have N_Session___len__ : FnOk l.prog w K mg base (L2.CX l.prog w) 24 fSession___len__ (PySem.W.fnOf "__len__" "Session.__len__" (defArgs (inClass (topS 27) 1)) (defBody (inClass (topS 27) 1)) (defScope (inClass (topS 27) 1)) .none kVSession___len__ dcSession___len__ pmSession___len__ anSession___len__ cdSession___len__ ctSession___len__) ["self"] (spOf ⟨K, [(PS, "sifted" ++ ".<locals>." ++ "<lambda>")]⟩ mg 1 c_Session___len__) := met_ok (K := ⟨K, [(PS, "sifted" ++ ".<locals>." ++ "<lambda>")]⟩) lSession___len__ cSession___len__ sc_Session___len__ rfl m_Session___len__ w_Session___len__ (fun A hr => by
    simp only [b_Session___len__, q0, q1, q2, q3, q4, q5, q6, q7, q8, q9, q10, q11, q12, q13, q14, q15, q16, q17, q18, q19, q20, q21, q22, q23, q24, q25, q26, q27, q28, q29, q30, q31, q32, q33, q34, q35, q36, q37, q38, q39, q40, q41, q42, q43, q44, q45, q46, q47, q48, q49, q50, q51, q52, q53, q54, q55, q56, q57, q58, q59, q60, q61, q62, q63, q64, q65, q66, q67, q68, q69, q70, q71, q72, q73, q74, q75, qn0, qn1, r0, r1, r2, r3, r4, r5, r6, r7, r8, r9, r10, r11, r12, r13, r14, and_true, true_and, and_self, Nat.reduceAdd, Nat.zero_add]
    (try exact trivial)
    all_goals (repeat' (first | apply And.intro | assumption | exact ⟨_, aCS, clCS, nfcurrent⟩ | exact ⟨_, aCS, clCS, nfdone⟩ | exact ⟨_, aCS, clCS, nfearlier⟩ | exact ⟨_, aCS, clCS, nfsize⟩ | exact ⟨_, aCS, clCS, nfundone⟩ | exact ⟨_, wInvalidDimension, xxInvalidDimension, xkInvalidDimension, xsInvalidDimension, xtInvalidDimension⟩ | exact ⟨_, wInvalidNumber, xxInvalidNumber, xkInvalidNumber, xsInvalidNumber, xtInvalidNumber⟩ | exact ⟨_, wInvalidVector, xxInvalidVector, xkInvalidVector, xsInvalidVector, xtInvalidVector⟩ | exact ⟨_, wTooMany, xxTooMany, xkTooMany, xsTooMany, xtTooMany⟩)))
  have M_Session___len__ : MethAt l.prog w ⟨K, [(PS, "sifted" ++ ".<locals>." ++ "<lambda>")]⟩ mg base 24 "Session" "__len__" 1 c_Session___len__ := ⟨CS, fSession___len__, _, ["self"], aCS, clCS, ⟨aSession___len__, iSession___len__, kSession___len__⟩, N_Session___len__, (fun_mk (st := inClass (topS 27) 1) lSession___len__ cSession___len__ kSession___len__).binds (ps := ["self"]) (fun _ _ _ _ _ _ us hl => match us, hl with | [_], _ => rfl)⟩
  exact sp_imp (fn_ok (K := ⟨K, [(PS, "sifted" ++ ".<locals>." ++ "<lambda>")]⟩) llaw claw sc_law rfl m_law (fun A hr => by
    simp only [b_law, b_law_c10, b_law_c11, b_law_c13, b_law_c14, b_law_c15, b_law_c17, b_law_c4, b_law_c5, b_law_c8, b_law_c9, b_law_f10, b_law_f13, b_law_f4, b_law_f8, b_law_f9, q0, q1, q2, q3, q4, q5, q6, q7, q8, q9, q10, q11, q12, q13, q14, q15, q16, q17, q18, q19, q20, q21, q22, q23, q24, q25, q26, q27, q28, q29, q30, q31, q32, q33, q34, q35, q36, q37, q38, q39, q40, q41, q42, q43, q44, q45, q46, q47, q48, q49, q50, q51, q52, q53, q54, q55, q56, q57, q58, q59, q60, q61, q62, q63, q64, q65, q66, q67, q68, q69, q70, q71, q72, q73, q74, q75, qn0, qn1, r0, r1, r2, r3, r4, r5, r6, r7, r8, r9, r10, r11, r12, r13, r14, and_true, true_and, and_self, Nat.reduceAdd, Nat.zero_add]
    (try exact trivial)
    all_goals (repeat' (first | apply And.intro | assumption | exact ⟨59, F__law_town.mono (by decide), hr⟩ | exact ⟨59, F__law_draw.mono (by decide), hr⟩ | exact ⟨59, F__law_pick.mono (by decide), hr⟩ | exact ⟨59, F__law_outcome.mono (by decide), hr⟩ | exact ⟨59, F__law_raises.mono (by decide), hr⟩ | exact ⟨59, M_Session_add.mono (by decide), hr⟩ | exact ⟨59, M_Session_generators.mono (by decide), hr⟩ | exact ⟨59, M_Session_contains.mono (by decide), hr⟩ | exact ⟨59, M_Session_remove.mono (by decide), hr⟩ | exact ⟨58, M_Session___init__ 58 (by decide), hr⟩ | exact ⟨58, M_Session___len__.mono (by decide), hr⟩ | exact ⟨_, aCS, clCS, nfcurrent⟩ | exact ⟨_, aCS, clCS, nfdone⟩ | exact ⟨_, aCS, clCS, nfearlier⟩ | exact ⟨_, aCS, clCS, nfsize⟩ | exact ⟨_, aCS, clCS, nfundone⟩ | exact ⟨_, wInvalidDimension, xxInvalidDimension, xkInvalidDimension, xsInvalidDimension, xtInvalidDimension⟩ | exact ⟨_, wInvalidNumber, xxInvalidNumber, xkInvalidNumber, xsInvalidNumber, xtInvalidNumber⟩ | exact ⟨_, wInvalidVector, xxInvalidVector, xkInvalidVector, xsInvalidVector, xtInvalidVector⟩ | exact ⟨_, wTooMany, xxTooMany, xkTooMany, xsTooMany, xtTooMany⟩)))) fun _ _ _ _ => w_law
theorem walk {l : PySem.W.OpenLaw} {q : Program} {loose : List Str} {XP : (Str → Option Value) → Heap → Prop} {YP : World → Heap → Prop} {d : DefRec} {K : Params → PySem.W.Frag} (hn : l.most = some 63) (hdf : d.params.defaults = [])
    (hY : ∀ (w : World) (h : Heap), YP w h → (K w.params).In h)
    (F : ∀ (w : World) (mg : Str → Option Value) (fa : Addr) (h : Heap), YP w h → (K w.params).In h → h.Ns mainGlobals mg → mg d.name = some (.ref fa) → LamX.LawAtS l w (K w.params) (L2.CX l.prog w) 60 63 "script" mg fa h) :
    PySem.W.WalkO q loose XP YP l.row.toRowW d [] (fun f vs => PySem.call f vs) :=
  LamX.walk_ofTs (n := 63) (k := 60) (x := "script") (CX := fun w => L2.CX l.prog w) hn (by decide) hdf ⟨rfl, by decide, by decide⟩ hY F fun w H s e s' z => by
    exact cx_never z
end DLay
open PySem PySem.W PyProof.Rows
set_option maxHeartbeats 0 in
theorem PySem.Challenge.cw_gridbases_k62_session_ends_holds : PySem.Challenge.rw_gridbases_k62_session_ends.Holds := by
  w_on; o_law; k_head; (case hw => w_witness2)
  k_fill
  refine DLay.walk (l := PySem.Challenge.rw_gridbases_k62_session_ends) rfl rfl (fun w h Y => PySem.W.km_in_of Y) ?F
  case F =>
    intro w mg fa h Y KX G hmg
    have hT8 := PySem.W.km_tabs_of Y
    refine' DLay.all_mk KX G hmg ?aCS ?pgCS ?hdCS ?poCS ?saCS ?mkCS ?kcCS ?nfcurrent ?nfdone ?nfearlier ?nfsize ?nfundone ?ais_integer ?lis_integer ?cis_integer ?kis_integer ?ais_between ?lis_between ?cis_between ?kis_between ?ais_vector ?lis_vector ?cis_vector ?kis_vector ?acheck_vector ?lcheck_vector ?ccheck_vector ?kcheck_vector ?aplus ?lplus ?cplus ?kplus ?asifted ?lsifted ?csifted ?ksifted ?aechelon ?lechelon ?cechelon ?kechelon ?ais_generated ?lis_generated ?cis_generated ?kis_generated ?a_law_town ?l_law_town ?c_law_town ?k_law_town ?a_law_draw ?l_law_draw ?c_law_draw ?k_law_draw ?a_law_pick ?l_law_pick ?c_law_pick ?k_law_pick ?aSession_rows ?iSession_rows ?lSession_rows ?cSession_rows ?kSession_rows ?aSession_perform ?iSession_perform ?lSession_perform ?cSession_perform ?kSession_perform ?aSession_add ?iSession_add ?lSession_add ?cSession_add ?kSession_add ?aSession_remove ?iSession_remove ?lSession_remove ?cSession_remove ?kSession_remove ?aSession_contains ?iSession_contains ?lSession_contains ?cSession_contains ?kSession_contains ?aSession___init__ ?iSession___init__ ?lSession___init__ ?cSession___init__ ?kSession___init__ ?a_law_call ?l_law_call ?c_law_call ?k_law_call ?a_law_name ?l_law_name ?c_law_name ?k_law_name ?a_law_outcome ?l_law_outcome ?c_law_outcome ?k_law_outcome ?a_law_raises ?l_law_raises ?c_law_raises ?k_law_raises ?aSession_generators ?iSession_generators ?lSession_generators ?cSession_generators ?kSession_generators ?aSession___len__ ?iSession___len__ ?lSession___len__ ?cSession___len__ ?kSession___len__ ?alaw ?llaw ?claw ?klaw ?zValueError ?zabs ?zall ?zbool ?zint ?zisinstance ?zlen ?zlist ?zrange ?zsorted ?ztuple ?zzip ?gLIMIT ?xaInvalidDimension ?xxInvalidDimension ?xkInvalidDimension ?xsInvalidDimension ?xtInvalidDimension ?xaInvalidNumber ?xxInvalidNumber ?xkInvalidNumber ?xsInvalidNumber ?xtInvalidNumber ?xaInvalidVector ?xxInvalidVector ?xkInvalidVector ?xsInvalidVector ?xtInvalidVector ?xaTooMany ?xxTooMany ?xkTooMany ?xsTooMany ?xtTooMany ?xball ?lS ?pS ?hS ?nS ?tS
    (case aCS => k_is)
    (case pgCS => k_is)
    (case hdCS => k_is)
    (case poCS => k_is)
    (case saCS => k_is)
    (case mkCS => k_is)
    (case kcCS => k_is)
    (case nfcurrent => k_is)
    (case nfdone => k_is)
    (case nfearlier => k_is)
    (case nfsize => k_is)
    (case nfundone => k_is)
    (case ais_integer => k_is)
    (case lis_integer => k_is)
    (case cis_integer => k_is)
    (case kis_integer => k_is)
    (case ais_between => k_is)
    (case lis_between => k_is)
    (case cis_between => k_is)
    (case kis_between => k_is)
    (case ais_vector => k_is)
    (case lis_vector => k_is)
    (case cis_vector => k_is)
    (case kis_vector => k_is)
    (case acheck_vector => k_is)
    (case lcheck_vector => k_is)
    (case ccheck_vector => k_is)
    (case kcheck_vector => k_is)
    (case aplus => k_is)
    (case lplus => k_is)
    (case cplus => k_is)
    (case kplus => k_is)
    (case asifted => k_is)
    (case lsifted => k_is)
    (case csifted => k_is)
    (case ksifted => k_is)
    (case aechelon => k_is)
    (case lechelon => k_is)
    (case cechelon => k_is)
    (case kechelon => k_is)
    (case ais_generated => k_is)
    (case lis_generated => k_is)
    (case cis_generated => k_is)
    (case kis_generated => k_is)
    (case a_law_town => k_is)
    (case l_law_town => k_is)
    (case c_law_town => k_is)
    (case k_law_town => k_is)
    (case a_law_draw => k_is)
    (case l_law_draw => k_is)
    (case c_law_draw => k_is)
    (case k_law_draw => k_is)
    (case a_law_pick => k_is)
    (case l_law_pick => k_is)
    (case c_law_pick => k_is)
    (case k_law_pick => k_is)
    (case aSession_rows => k_is)
    (case iSession_rows => k_is)
    (case lSession_rows => k_is)
    (case cSession_rows => k_is)
    (case kSession_rows => k_is)
    (case aSession_perform => k_is)
    (case iSession_perform => k_is)
    (case lSession_perform => k_is)
    (case cSession_perform => k_is)
    (case kSession_perform => k_is)
    (case aSession_add => k_is)
    (case iSession_add => k_is)
    (case lSession_add => k_is)
    (case cSession_add => k_is)
    (case kSession_add => k_is)
    (case aSession_remove => k_is)
    (case iSession_remove => k_is)
    (case lSession_remove => k_is)
    (case cSession_remove => k_is)
    (case kSession_remove => k_is)
    (case aSession_contains => k_is)
    (case iSession_contains => k_is)
    (case lSession_contains => k_is)
    (case cSession_contains => k_is)
    (case kSession_contains => k_is)
    (case aSession___init__ => k_is)
    (case iSession___init__ => k_is)
    (case lSession___init__ => k_is)
    (case cSession___init__ => k_is)
    (case kSession___init__ => k_is)
    (case a_law_call => k_is)
    (case l_law_call => k_is)
    (case c_law_call => k_is)
    (case k_law_call => k_is)
    (case a_law_name => k_is)
    (case l_law_name => k_is)
    (case c_law_name => k_is)
    (case k_law_name => k_is)
    (case a_law_outcome => k_is)
    (case l_law_outcome => k_is)
    (case c_law_outcome => k_is)
    (case k_law_outcome => k_is)
    (case a_law_raises => k_is)
    (case l_law_raises => k_is)
    (case c_law_raises => k_is)
    (case k_law_raises => k_is)
    (case aSession_generators => k_is)
    (case iSession_generators => k_is)
    (case lSession_generators => k_is)
    (case cSession_generators => k_is)
    (case kSession_generators => k_is)
    (case aSession___len__ => k_is)
    (case iSession___len__ => k_is)
    (case lSession___len__ => k_is)
    (case cSession___len__ => k_is)
    (case kSession___len__ => k_is)
    (case alaw => k_is)
    (case llaw => k_is)
    (case claw => k_is)
    (case klaw => k_is)
    (case zValueError => k_is)
    (case zabs => k_is)
    (case zall => k_is)
    (case zbool => k_is)
    (case zint => k_is)
    (case zisinstance => k_is)
    (case zlen => k_is)
    (case zlist => k_is)
    (case zrange => k_is)
    (case zsorted => k_is)
    (case ztuple => k_is)
    (case zzip => k_is)
    (case gLIMIT => k_is)
    (case xaInvalidDimension => k_is)
    (case xxInvalidDimension => first | k_is | k_exc)
    (case xkInvalidDimension => k_is)
    (case xsInvalidDimension => k_is)
    (case xtInvalidDimension => k_is)
    (case xaInvalidNumber => k_is)
    (case xxInvalidNumber => first | k_is | k_exc)
    (case xkInvalidNumber => k_is)
    (case xsInvalidNumber => k_is)
    (case xtInvalidNumber => k_is)
    (case xaInvalidVector => k_is)
    (case xxInvalidVector => first | k_is | k_exc)
    (case xkInvalidVector => k_is)
    (case xsInvalidVector => k_is)
    (case xtInvalidVector => k_is)
    (case xaTooMany => k_is)
    (case xxTooMany => first | k_is | k_exc)
    (case xkTooMany => k_is)
    (case xsTooMany => k_is)
    (case xtTooMany => k_is)
    (case xball => kernel_rfl)
    (case lS => k_is)
    (case pS => rfl)
    (case hS => kernel_rfl)
    (case nS => kernel_rfl)
    (case tS => exact hT8 _ (by simp))
#print axioms PySem.Challenge.cw_gridbases_k62_session_ends_holds
